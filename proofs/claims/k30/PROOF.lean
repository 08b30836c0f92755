import PyProof.Rows.All
import Wide.All
import OpenK.AllK
import Wide.FinOn
import HandS.ForMost
import HandS.Flow
import HandS.More
import HandS.Strs
import HandS.SetFor
import HandS.TupSets
import HandS.Conv
import HandS.IsInst
import HandS.Deep
import HandS.StrMore
import HandS.DictTup
import HandS.Style
import HandS.DictComp
import HandS.Replace
import HandS.Text
import KE.KTupTabMore
import HandS.ReplaceLit
import HandS.Ends
import PyProof.Draws
import PyProof.EnumMake
import HandS.SortRule
import KE.SortKeyed
import KE.DataCmp
import HandS.ReplaceList
import HandS.Codes
import HandS.TryOnly
import KE.OsArith
import PySem.Challenge.RW_longlife_k30_many_futures_of_one_store
set_option Elab.async false
set_option linter.all false
set_option maxRecDepth 100000
set_option maxHeartbeats 8000000
/-! S0: set(xs) of a list, whatever the items are. -/
namespace J
open PySem PySem.Spec PyProof.Rows L2

section
variable {P : Program} {w : World} {A : Around} {E : Value -> Shared -> Prop} {s : Shared}
/-- a set that was just made -/
abbrev set0 (w : World) : Obj := { cls := .type "set", dict := none, data := .set #[] 0 (.fresh 0 0 (!w.params.followText "set-order")) }
/-- what all that stood ahead does -/
abbrev Keeps (h h' : Heap) : Prop := ∀ b o, h.get? b = some o -> h'.get? b = some o
/-- how one item is put in -/
def AddOk (P : Program) (w : World) (A : Around) (h0 : Heap) (S : Addr) (vs : List Value) (Iv : Nat -> Heap -> Prop) : Prop :=
  ∀ (i : Nat) (v : Value) (s1 : Shared) (F : Value -> Shared -> Prop) (Q : Bool -> Shared -> Prop), vs[i]? = some v -> Keeps h0 s1.heap -> Iv i s1.heap ->
    (∀ b h2 tk, s1.toks ≤ tk -> Heap.SameBut S s1.heap h2 -> Iv (i + 1) h2 -> Q b { s1 with heap := h2, toks := tk }) -> wpAny (model P w) A (setAdd S v) Q F s1
theorem upd_loop {I S : Addr} {fp wr : List Addr} {G : Array GenState -> Array GenState -> Prop} {n : Nat} {Pv : Nat -> Value -> Prop} {St : Nat -> Shared -> Prop} {R : Result -> Shared -> Prop} {h0 : Heap} {vs : List Value} {Iv : Nat -> Heap -> Prop}
    (W : WalksS P w A.in1 I fp wr G n Pv St) (hSf : S ∉ fp) (hval : ∀ i v, Pv i v -> vs[i]? = some v) (hS0 : h0.get? S = none) (hw0 : ∀ b ∈ wr, h0.get? b = none)
    (stay : ∀ i h h', Iv i h -> (∀ o, h.get? S = some o -> h'.get? S = some o) -> Keeps h0 h' -> Iv i h') (add : AddOk P w A.in1 h0 S vs Iv) :
    ∀ (k i : Nat) (s : Shared), n - i = k -> i ≤ n -> St i s -> Keeps h0 s.heap -> Iv i s.heap ->
      (∀ s', Moved (S :: wr) G s s' -> Iv n s'.heap -> Keeps h0 s'.heap -> R (.ok (.ret .none)) s') -> codeAny (model P w) A (.builtin "set.update.loop" ⟨[.ref S, .ref I], []⟩) R s := by
  have nS : S ∉ wr := fun h => hSf (W.sub _ h)
  have more : ∀ b ∈ wr, b ∈ S :: wr := fun b hb => List.mem_cons_of_mem _ hb
  have keepM : ∀ {s s' : Shared}, Moved wr G s s' -> Keeps h0 s.heap -> Keeps h0 s'.heap := fun hm hk b o e => hm.heap b o (fun hb => by rw [hw0 b hb] at e; cases e) (hk b o e)
  intro k
  induction k with
  | zero =>
    intro i s ek hi hst hk hIv hR
    obtain rfl : i = n := by omega
    refine codeAny_builtin F.entry_set_update_loop ?_
    rw [Around.under_plainId F.plain_set_update_loop _]
    change wpAny _ A.in1 (pyNext (.ref I) >>= _) _ _ s
    refine wpAny_bind (W.done s _ _ hst fun s' hm => ?_)
    change wpAny _ A.in1 (ret Value.none) _ _ s'
    exact wpAny_pure (hR s' (hm.mono more) (stay _ _ _ hIv (fun o e => hm.heap S o nS e) (keepM hm hk)) (keepM hm hk))
  | succ k ih =>
    intro i s ek hi hst hk hIv hR
    have hlt : i < n := by omega
    refine codeAny_builtin F.entry_set_update_loop ?_
    rw [Around.under_plainId F.plain_set_update_loop _]
    change wpAny _ A.in1 (pyNext (.ref I) >>= _) _ _ s
    refine wpAny_bind (W.item i s _ _ hlt hst fun v s1 hP hst1 hm => ?_)
    have hk1 := keepM hm hk
    have hv := hval i v hP
    change wpAny _ A.in1 (holding [v] (setAdd S v) >>= _) _ _ s1
    refine wpAny_bind (wpAny_holding ?_)
    refine add i v s1 _ _ hv hk1 (stay _ _ _ hIv (fun o e => hm.heap S o nS e) hk1) fun b h2 tk htk sb hIv2 => ?_
    have hk2 : Keeps h0 h2 := fun b o e => (sb.2 b (fun z => by rw [z, hS0] at e; cases e)).trans (hk1 b o e)
    refine wpAny_pure ⟨plainId_quiet F.plain_set_update_loop _, ih (i + 1) _ (by omega) hlt (W.frame _ s1 _ _ hst1 htk fun b hb o e => ?_) hk2 hIv2 fun s2 hm2 z1 z2 => ?_⟩
    · rw [sb.2 b (fun h : b = S => hSf (by rw [← h]; exact hb))]; exact e
    · refine hR s2 (Moved.trans W.gtrans ((hm.mono more).then_heap htk fun b o hb e => ?_) hm2) z1 z2
      rw [sb.2 b (fun h : b = S => hb (by rw [h]; exact List.mem_cons_self))]; exact e

set_option maxHeartbeats 3200000 in
theorem call_set_any {l : Addr} {items : Array Value} {Iv : Nat -> Heap -> Prop} {Q : Value -> Shared -> Prop} (hh : A.handled = none) (hl : s.heap.IsList l items)
    (start : ∀ h, h.get? s.heap.objs.size = some (set0 w) -> Keeps s.heap h -> Iv 0 h)
    (stay : ∀ i h h', Iv i h -> (∀ o, h.get? s.heap.objs.size = some o -> h'.get? s.heap.objs.size = some o) -> Keeps s.heap h' -> Iv i h')
    (add : ∀ A' : Around, A'.units ≤ A.units + 4 -> AddOk P w A' s.heap s.heap.objs.size items.toList Iv)
    (fin : ∀ (h' : Heap) (tk : Nat), Iv items.size h' -> Keeps s.heap h' -> Q (.ref s.heap.objs.size) { s with heap := h', toks := tk }) :
    wpAny (model P w) A (call (.type "set") [.ref l]) Q E s := by
  obtain ⟨c, tl, hmro⟩ := F.called_set.mro
  have hmade := F.called_set.made
  have hsub := F.called_set.sub
  refine wpAny_call (codeAny_of_tree ?_)
  change wpAny _ _ (callAny (.type "set") _) _ _ _
  refine wpAny_pure ⟨Code.quiet_builtin _ (by decide +kernel), codeAny_builtin F.entry_type_call ?_⟩
  rw [Around.under_plain (weight_type_call_type "set" [.ref l] []) rfl]
  have h1 := F.called_set.notType
  have h2 := F.called_set.canCreate
  have hct := F.typeCall_set_1 (.ref l)
  repeat (any_goals (first | assumption | wp_step))
  refine codeAny_mono (code_set_led1 (.ref l) (E := E) (Q₁ := fun obj s1 => obj = .ref s.heap.objs.size ∧ s1 = { s with heap := s.heap.push (set0 w) }) ⟨rfl, rfl⟩) fun r s1 hr => ?_
  cases r with
  | error e => exact hr
  | ok fl =>
    cases fl with
    | ret obj =>
      obtain ⟨rfl, rfl⟩ := hr
      have hS : (s.heap.push (set0 w)).get? s.heap.objs.size = some (set0 w) := Heap.get?_push_size _ rfl
      have hT : Shared.TypeIs { s with heap := s.heap.push (set0 w) } (.ref s.heap.objs.size) "set" := ⟨_, hS, rfl⟩
      have hli := F.called_set.init.lookup
      have hbi := F.called_set.init.bind (.ref s.heap.objs.size)
      repeat (any_goals (first | assumption | wp_step))
      refine codeAny_mono (codeAny_call_builtin (R := wants (fun r s2 => r = .none ∧ ∃ h' tk, s2 = { s with heap := h', toks := tk } ∧ Iv items.size h' ∧ Keeps s.heap h') E) F.called_set.init.plain F.entry_set_init (check_set_init_1 hT ?_)) fun r2 s2 hr2 => ?_
      · obtain ⟨ol, hol, hcl, nl, hdl⟩ := hl
        obtain ⟨ocls, odict, odata, oslots⟩ := ol
        simp only at hcl hdl
        subst hcl; subst hdl
        have hol2 : (s.heap.push (set0 w)).get? l = some { cls := .type "list", dict := odict, data := .seq items nl, slots := oslots } := Heap.get?_push_of_some _ hol
        have hsls := F.sub_list_set
        have hslf := F.sub_list_frozenset
        have hne : (Value.type "list" == Value.type "dict") = false := by decide
        have hl1 : (s.heap.push (set0 w)).IsList l items := ⟨_, hol2, rfl, nl, rfl⟩
        unfold Builtin.«set.__init__» noKeywords Builtin.Frozenset.updateFrom
        generalize hPI : pyIter = PI
        wp_walk
        subst hPI
        refine wpAny_pyIter_list hl1 ?_
        refine wpAny_bind (wpAny_runValue ?_)
        have hlS : l < s.heap.objs.size := Heap.lt_size hol
        have hh3 : A.in1.in1.in1.handled = none := by simp [hh]
        have hz1 : (s.heap.push (set0 w)).objs.size = s.heap.objs.size + 1 := Heap.size_push ..
        have off5 : ∀ b : Nat, s.heap.objs.size ≤ b -> s.heap.get? b = none := fun b hb => by
          cases q : s.heap.get? b with
          | none => rfl
          | some o => exact absurd (Nat.lt_of_lt_of_le (Heap.lt_size q) hb) (Nat.lt_irrefl _)
        have ne1 : l ≠ (s.heap.push (set0 w)).objs.size := by
          rw [hz1]; exact Nat.ne_of_lt (Nat.lt_succ_of_lt hlS)
        have nf : s.heap.objs.size ∉ [(s.heap.push (set0 w)).objs.size, l] := by
          rw [hz1]
          simp only [List.mem_cons, List.mem_singleton, List.not_mem_nil, or_false, not_or]
          exact ⟨Nat.ne_of_lt (Nat.lt_succ_self _), Nat.ne_of_gt hlS⟩
        have hA : A.in1.in1.in1.units ≤ A.units + 4 := by
          change A.units + 1 + 1 + 1 ≤ A.units + 4
          omega
        refine upd_loop ((Walks.list hh3 _ l ne1 items).toS) nf (vs := items.toList) (fun i v hv => by rw [Array.getElem?_toList]; exact hv) (off5 _ (Nat.le_refl _)) (fun b hb => off5 b (by
            rw [List.mem_singleton.mp hb, hz1]
            exact Nat.le_succ _)) stay (add _ hA) (items.size - 0) 0 _ (by omega) (Nat.zero_le _)
          ⟨⟨_, Heap.get?_push_size _ rfl, rfl, rfl⟩, (hl1.push _)⟩ (fun b o e => Heap.get?_push_of_some _ (Heap.get?_push_of_some _ e)) ?hS0 ?hR
        case hS0 => exact start _ (Heap.get?_push_of_some _ hS) fun b o e => Heap.get?_push_of_some _ (Heap.get?_push_of_some _ e)
        case hR =>
          intro s3 hm hIv hk
          obtain ⟨h3, g3, d3, tk3, os3⟩ := s3
          have eg : g3 = s.gens := hm.gens
          have ed : d3 = s.drawn := hm.drawn
          have eo : os3 = s.os := hm.os
          subst eg; subst ed; subst eo
          change wpAny _ _ _ _ _ _
          refine wpAny_pure ?_
          change wpAny _ _ (ret Value.none) _ _ _
          exact wpAny_pure ⟨rfl, h3, tk3, rfl, hIv, hk⟩
      · cases r2 with
        | error e => exact hr2
        | ok fl2 =>
          cases fl2 with
          | ret r =>
            obtain ⟨rfl, h3, tk, rfl, hIv, hk⟩ := hr2
            repeat (any_goals (first | assumption | wp_step))
            exact fin _ _ hIv hk
          | _ => exact hr2.elim
    | _ => exact hr.elim
end
end J

/-! J: readings over data. Values are plain data (PyData) or objects of one's own; the objects that change stand in a
list ls (a symbolic heap); all else that the heap holds is kept in a part I of it that only grows. -/
namespace J
open PySem PySem.Spec PyProof.Rows L2

/-! ### data in a part of the heap -/
mutual
inductive Dn (I : Hp) : V -> PyData -> Prop
  | non : Dn I .non .none
  | bl (b : Bool) : Dn I (.bl b) (.bool b)
  | int (i : Int) : Dn I (.int i) (.int i)
  | str (x : Str) : Dn I (.str x) (.str x)
  | lst {a : Addr} {xs : List V} {ds : List PyData} : I a = some (.lst xs) -> DnAll I xs ds -> Dn I (.ref a) (.list ds)
  | tup {a : Addr} {xs : List V} {ds : List PyData} : I a = some (.tup xs) -> DnAll I xs ds -> Dn I (.ref a) (.tuple ds)
inductive DnAll (I : Hp) : List V -> List PyData -> Prop
  | nil : DnAll I [] []
  | cons {v : V} {vs : List V} {d : PyData} {ds : List PyData} : Dn I v d -> DnAll I vs ds -> DnAll I (v :: vs) (d :: ds)
end

mutual
theorem Dn.mono {I I' : Hp} (e : Same I I') : ∀ {v : V} {d : PyData}, Dn I v d -> Dn I' v d
  | _, _, .non => .non
  | _, _, .bl b => .bl b
  | _, _, .int i => .int i
  | _, _, .str x => .str x
  | _, _, .lst h t => .lst (e _ _ h) (DnAll.mono e t)
  | _, _, .tup h t => .tup (e _ _ h) (DnAll.mono e t)
theorem DnAll.mono {I I' : Hp} (e : Same I I') : ∀ {vs : List V} {ds : List PyData}, DnAll I vs ds -> DnAll I' vs ds
  | _, _, .nil => .nil
  | _, _, .cons h t => .cons (Dn.mono e h) (DnAll.mono e t)
end
mutual
theorem Dn.dp {K : PySem.W.Frag} {I H : Hp} (e : Same I H) : ∀ {v : V} {d : PyData}, Dn I v d -> Dp K H v d
  | _, _, .non => .non
  | _, _, .bl b => .bl b
  | _, _, .int i => .int i
  | _, _, .str x => .str x
  | _, _, .lst h t => .lst (SqL.of (e _ _ h)) (DnAll.dp e t)
  | _, _, .tup h t => .tup (SqT.of (e _ _ h)) (DnAll.dp e t)
theorem DnAll.dp {K : PySem.W.Frag} {I H : Hp} (e : Same I H) : ∀ {vs : List V} {ds : List PyData}, DnAll I vs ds -> DpAll K H vs ds
  | _, _, .nil => .nil
  | _, _, .cons h t => .cons (Dn.dp e h) (DnAll.dp e t)
end

/-- what a name may hold: data; an object of one's own; a tuple with such in it; the script; an instance that stays -/
inductive D where
  | d (x : PyData)
  | a (p : Addr)
  | t (xs : List D)
  | scr (ns : List Int)
  | ins (C : Addr) (fs : List (Str × PyData))

mutual
inductive RD (K : PySem.W.Frag) (I : Hp) : V -> D -> Prop
  | d {v : V} {x : PyData} : Dn I v x -> RD K I v (.d x)
  | a {p : Addr} : RD K I (.ref p) (.a p)
  | t {p : Addr} {vs : List V} {xs : List D} : SqT K I p vs -> RDs K I vs xs -> RD K I (.ref p) (.t xs)
  | scr {p : Addr} {ns : List Int} : SqL K I p (ns.map V.int) -> RD K I (.ref p) (.scr ns)
  | ins {p C dx : Addr} {fs : List (Str × V)} {gs : List (Str × PyData)} : I p = some (.ins C dx fs) -> Paired (fun (a : Str × V) (b : Str × PyData) => a.1 = b.1 ∧ Dn I a.2 b.2) fs gs -> RD K I (.ref p) (.ins C gs)
inductive RDs (K : PySem.W.Frag) (I : Hp) : List V -> List D -> Prop
  | nil : RDs K I [] []
  | cons {v : V} {vs : List V} {x : D} {xs : List D} : RD K I v x -> RDs K I vs xs -> RDs K I (v :: vs) (x :: xs)
end

theorem sqt_mono {K : PySem.W.Frag} {I I' : Hp} {p : Addr} {xs : List V} (e : Same I I') (h : SqT K I p xs) : SqT K I' p xs := by
  rcases h with (h | ⟨o, h⟩) | h
  · exact .inl (.inl (e _ _ h))
  · exact .inl (.inr ⟨o, e _ _ h⟩)
  · exact .inr h
mutual
theorem RD.mono {K : PySem.W.Frag} {I I' : Hp} (e : Same I I') : ∀ {v : V} {x : D}, RD K I v x -> RD K I' v x
  | _, _, .d h => .d (h.mono e)
  | _, _, .a => .a
  | _, _, .t h t => .t (sqt_mono e h) (RDs.mono e t)
  | _, _, .scr h => .scr (e.seq h)
  | _, _, .ins h t => .ins (e _ _ h) (Paired.mapP t fun _ _ q => ⟨q.1, q.2.mono e⟩)
theorem RDs.mono {K : PySem.W.Frag} {I I' : Hp} (e : Same I I') : ∀ {vs : List V} {xs : List D}, RDs K I vs xs -> RDs K I' vs xs
  | _, _, .nil => .nil
  | _, _, .cons h t => .cons (RD.mono e h) (RDs.mono e t)
end
theorem RDs.length {K : PySem.W.Frag} {I : Hp} : ∀ {vs : List V} {xs : List D}, RDs K I vs xs -> vs.length = xs.length
  | _, _, .nil => rfl
  | _, _, .cons _ t => congrArg (· + 1) (RDs.length t)
theorem RDs.get {K : PySem.W.Frag} {I : Hp} : ∀ {vs : List V} {xs : List D} {i : Nat} {x : D}, RDs K I vs xs -> xs[i]? = some x -> ∃ v, vs[i]? = some v ∧ RD K I v x
  | _, _, _, _, .nil, h => by simp at h
  | _, _, 0, _, .cons h t, e => ⟨_, rfl, by simp at e; subst e; exact h⟩
  | _, _, i + 1, x, .cons h t, e => by
    obtain ⟨v, h1, h2⟩ := RDs.get (i := i) (x := x) t (by simpa using e)
    exact ⟨v, by simpa using h1, h2⟩
theorem RDs.append {K : PySem.W.Frag} {I : Hp} : ∀ {vs ws : List V} {xs ys : List D}, RDs K I vs xs -> RDs K I ws ys -> RDs K I (vs ++ ws) (xs ++ ys)
  | _, _, _, _, .nil, h => h
  | _, _, _, _, .cons a t, h => .cons a (RDs.append t h)
theorem DnAll.append {I : Hp} : ∀ {vs ws : List V} {xs ys : List PyData}, DnAll I vs xs -> DnAll I ws ys -> DnAll I (vs ++ ws) (xs ++ ys)
  | _, _, _, _, .nil, h => h
  | _, _, _, _, .cons a t, h => .cons a (DnAll.append t h)
theorem DnAll.length {I : Hp} : ∀ {vs : List V} {xs : List PyData}, DnAll I vs xs -> vs.length = xs.length
  | _, _, .nil => rfl
  | _, _, .cons _ t => congrArg (· + 1) (DnAll.length t)
theorem DnAll.rds {K : PySem.W.Frag} {I : Hp} : ∀ {vs : List V} {xs : List PyData}, DnAll I vs xs -> RDs K I vs (xs.map .d)
  | _, _, .nil => .nil
  | _, _, .cons h t => .cons (.d h) (DnAll.rds t)
theorem RDs.dn {K : PySem.W.Frag} {I : Hp} : ∀ {vs : List V} {xs : List PyData}, RDs K I vs (xs.map .d) -> DnAll I vs xs
  | _, [], .nil => .nil
  | _, _ :: _, .cons (.d h) t => .cons h (RDs.dn t)

/-! ### the objects that change -/
inductive LO where
  | lst (xs : List D)
  | dct (kvs : List (List Key × D))
  | dki (kvs : List (Key × D))
  | dctL (o : Obj) (vs : List (List Key × V)) (kvs : List (List Key × D))
  | dkiL (o : Obj) (vs : List (Key × V)) (kvs : List (Key × D))
  | obj (C : Addr) (fs : List (Str × D))
  | raw (o : HO)
  | pk (es : List (Addr × LO))
abbrev Ls := List (Addr × LO)

abbrev KvR (K : PySem.W.Frag) (I : Hp) {κ : Type} : List (κ × V) -> List (κ × D) -> Prop := Paired fun (a : κ × V) (b : κ × D) => a.1 = b.1 ∧ RD K I a.2 b.2

/-- one object -/
def LOk (K : PySem.W.Frag) (I H : Hp) (p : Addr) : LO -> Prop
  | .lst xs => ∃ vs, H p = some (.lst vs) ∧ RDs K I vs xs
  | .dct kvs => ∃ vs, H p = some (.dT vs) ∧ KvR K I vs kvs
  | .dki kvs => ∃ vs, H p = some (.dK vs) ∧ KvR K I vs kvs
  | .dctL o vs kvs => H p = some (.frz o (.dT vs)) ∧ KvR K I vs kvs
  | .dkiL o vs kvs => H p = some (.frz o (.dK vs)) ∧ KvR K I vs kvs
  | .obj C fs => ∃ dx vs, H p = some (.ins C dx vs) ∧ KvR K I vs fs
  | .raw o => H p = some o ∧ (∀ xs, o ≠ .tup xs)
  | .pk _ => True

mutual
def flat1 : Addr -> LO -> Ls
  | _, .pk es => flats es
  | p, .lst xs => [(p, .lst xs)]
  | p, .dct xs => [(p, .dct xs)]
  | p, .dki xs => [(p, .dki xs)]
  | p, .dctL o vs xs => [(p, .dctL o vs xs)]
  | p, .dkiL o vs xs => [(p, .dkiL o vs xs)]
  | p, .obj C fs => [(p, .obj C fs)]
  | p, .raw o => [(p, .raw o)]
def flats : List (Addr × LO) -> Ls
  | [] => []
  | (p, o) :: r => flat1 p o ++ flats r
end
theorem flats_app : ∀ (a b : Ls), flats (a ++ b) = flats a ++ flats b
  | [], _ => rfl
  | (p, o) :: r, b => by simp [flats, flats_app r b, List.append_assoc]

def NT (o : HO) : Prop := ∀ xs, o ≠ .tup xs

/-- the entry: the part I, the heap, what may be changed -/
structure Ent where
  I : Hp
  H : Hp
  own : List Addr

structure Rel (E : Ent) (K : PySem.W.Frag) (I H : Hp) (ls : Ls) : Prop where
  sub : Same I H
  loc : ∀ q ∈ flats ls, I q.1 = none ∧ LOk K I H q.1 q.2
  nd : ((flats ls).map (·.1)).Nodup
  fr : ∀ a o, E.H a = some o -> a ∉ E.own -> H a = some o ∧ (E.I a = none -> NT o -> I a = none)
  fl : ∀ q ∈ flats ls, q.1 ∈ E.own ∨ E.H q.1 = none
  up : Same E.I I

abbrev Env := List (Option D)
@[reducible] def lk : Env -> Nat -> Option D
  | [], _ => none
  | x :: _, 0 => x
  | _ :: r, n + 1 => lk r n
def EnvR (K : PySem.W.Frag) (I : Hp) (σ : L2.St) (δ : Env) : Prop := σ.length = δ.length ∧ ∀ (i : Nat) (x : D), δ[i]? = some (some x) -> ∃ v, σ[i]? = some (some v) ∧ RD K I v x
theorem lk_get : ∀ (δ : Env) (i : Nat) (x : D), lk δ i = some x -> δ[i]? = some (some x)
  | [], _, _, h => by simp [lk] at h
  | y :: _, 0, x, h => by simp [lk] at h; simp [h]
  | _ :: r, n + 1, x, h => by simp [lk] at h; simpa using lk_get r n x h
theorem EnvR.mono {K : PySem.W.Frag} {I I' : Hp} {σ : L2.St} {δ : Env} (e : Same I I') (h : EnvR K I σ δ) : EnvR K I' σ δ :=
  ⟨h.1, fun i x q => let ⟨v, a, b⟩ := h.2 i x q; ⟨v, a, b.mono e⟩⟩
theorem EnvR.set {K : PySem.W.Frag} {I : Hp} {σ : L2.St} {δ : Env} {v : V} {x : D} (h : EnvR K I σ δ) (r : RD K I v x) (i : Nat) : EnvR K I (σ.set i (some v)) (δ.set i (some x)) := by
  refine ⟨by rw [List.length_set, List.length_set]; exact h.1, fun j y q => ?_⟩
  by_cases hj : i = j
  · subst hj
    by_cases hl : i < δ.length
    · rw [List.getElem?_set_self hl] at q
      cases q
      exact ⟨v, by rw [List.getElem?_set_self (by rw [h.1]; exact hl)], r⟩
    · rw [List.getElem?_eq_none (by rw [List.length_set]; omega)] at q
      cases q
  · rw [List.getElem?_set_ne hj] at q ⊢
    exact h.2 j y q

abbrev jTE := Env -> Ls -> (D -> Ls -> Prop) -> Prop
abbrev jTT := Env -> Ls -> (Bool -> Ls -> Prop) -> Prop
abbrev jTA := Env -> Ls -> (List D -> Ls -> Prop) -> Prop
structure JEnds where
  nx : Env -> Ls -> Prop
  rt : D -> Ls -> Prop
  bk : Env -> Ls -> Prop := fun _ _ => False
  ct : Env -> Ls -> Prop := fun _ _ => False
abbrev jTS := JEnds -> Env -> Ls -> Prop

/-- behind an expression -/
def PoE (E : Ent) (K : PySem.W.Frag) (I : Hp) (Q : D -> Ls -> Prop) : VK := fun v H' => ∃ I' ls' x, Rel E K I' H' ls' ∧ Same I I' ∧ RD K I' v x ∧ Q x ls'
def PoT (E : Ent) (K : PySem.W.Frag) (I : Hp) (Q : Bool -> Ls -> Prop) : Bool -> Hp -> Prop := fun b H' => ∃ I' ls', Rel E K I' H' ls' ∧ Same I I' ∧ Q b ls'
def PoA (E : Ent) (K : PySem.W.Frag) (I : Hp) (Q : List D -> Ls -> Prop) : List V -> Hp -> Prop := fun vs H' => ∃ I' ls' xs, Rel E K I' H' ls' ∧ Same I I' ∧ RDs K I' vs xs ∧ Q xs ls'

def JE (K : PySem.W.Frag) (te : TE) (t : jTE) : Prop := ∀ (E : Ent) (I H : Hp) (ls : Ls) (σ : L2.St) (δ : Env) (Q : D -> Ls -> Prop), Rel E K I H ls -> EnvR K I σ δ -> t δ ls Q -> ∀ W : VK, (∀ v H', PoE E K I Q v H' -> W v H') -> te σ H W
def JT (K : PySem.W.Frag) (te : TT) (t : jTT) : Prop := ∀ (E : Ent) (I H : Hp) (ls : Ls) (σ : L2.St) (δ : Env) (Q : Bool -> Ls -> Prop), Rel E K I H ls -> EnvR K I σ δ -> t δ ls Q -> ∀ W : Bool -> Hp -> Prop, (∀ v H', PoT E K I Q v H' -> W v H') -> te σ H W
def JA (K : PySem.W.Frag) (te : TA) (t : jTA) : Prop := ∀ (E : Ent) (I H : Hp) (ls : Ls) (σ : L2.St) (δ : Env) (Q : List D -> Ls -> Prop), Rel E K I H ls -> EnvR K I σ δ -> t δ ls Q -> ∀ W : List V -> Hp -> Prop, (∀ v H', PoA E K I Q v H' -> W v H') -> te σ H W
structure EndsR (E : Ent) (K : PySem.W.Frag) (N : JEnds) (M : Ends) : Prop where
  nx : ∀ I H ls σ δ, Rel E K I H ls -> EnvR K I σ δ -> N.nx δ ls -> M.nx σ H
  rt : ∀ I H ls v x, Rel E K I H ls -> RD K I v x -> N.rt x ls -> M.rt v H
  bk : ∀ I H ls σ δ, Rel E K I H ls -> EnvR K I σ δ -> N.bk δ ls -> M.bk σ H
  ct : ∀ I H ls σ δ, Rel E K I H ls -> EnvR K I σ δ -> N.ct δ ls -> M.ct σ H
def JS (K : PySem.W.Frag) (ts : TS) (t : jTS) : Prop := ∀ (E : Ent) (I H : Hp) (ls : Ls) (σ : L2.St) (δ : Env) (N : JEnds) (M : Ends), Rel E K I H ls -> EnvR K I σ δ -> EndsR E K N M -> t N δ ls -> ts M σ H

/-! ### the judgements -/
def PEJ (X : Cx) (e : Expr) (t : jTE) : Prop := ∃ te, PE X e te ∧ JE X.K te t
def PTJ (X : Cx) (e : Expr) (t : jTT) : Prop := ∃ te, PT X e te ∧ JT X.K te t
def PWJ (X : Cx) (e : Expr) (t : jTT) : Prop := ∃ te, PW X e te ∧ JT X.K te t
def PAJ (X : Cx) (es : List Expr) (t : jTA) : Prop := ∃ te, PA X es te ∧ JA X.K te t
def PSJ (X : Cx) (st : Stmt) (t : jTS) : Prop := ∃ te, PS X st te ∧ JS X.K te t
def PBJ (X : Cx) (st : List Stmt) (t : jTS) : Prop := ∃ te, PSs X st te ∧ JS X.K te t

/-! ### growing -/
section
variable {E : Ent} {K : PySem.W.Frag} {I H : Hp} {ls : Ls}
theorem same_new {H : Hp} {p : Addr} {o : HO} (h : H p = none) : Same H (upd H p o) := fun b x e => by
  rw [upd_ne (ne_of_none e h)]
  exact e
theorem LOk.mono {I' H' : Hp} {p : Addr} {o : LO} (e : Same I I') (hp : ∀ u, H p = some u -> H' p = some u) (h : LOk K I H p o) : LOk K I' H' p o := by
  cases o with
  | lst xs => obtain ⟨vs, a, b⟩ := h; exact ⟨vs, hp _ a, b.mono e⟩
  | dct xs => obtain ⟨vs, a, b⟩ := h; exact ⟨vs, hp _ a, Paired.mapP b fun _ _ q => ⟨q.1, q.2.mono e⟩⟩
  | dki xs => obtain ⟨vs, a, b⟩ := h; exact ⟨vs, hp _ a, Paired.mapP b fun _ _ q => ⟨q.1, q.2.mono e⟩⟩
  | dctL o vs xs => obtain ⟨a, b⟩ := h; exact ⟨hp _ a, Paired.mapP b fun _ _ q => ⟨q.1, q.2.mono e⟩⟩
  | dkiL o vs xs => obtain ⟨a, b⟩ := h; exact ⟨hp _ a, Paired.mapP b fun _ _ q => ⟨q.1, q.2.mono e⟩⟩
  | obj C fs => obtain ⟨dx, vs, a, b⟩ := h; exact ⟨dx, vs, hp _ a, Paired.mapP b fun _ _ q => ⟨q.1, q.2.mono e⟩⟩
  | raw o => exact ⟨hp _ h.1, h.2⟩
  | pk es => trivial
mutual
theorem flat1_no (p : Addr) : ∀ (o : LO), ∀ q ∈ flat1 p o, ∀ es, q.2 ≠ .pk es
  | .pk es, q, h => flats_no es q (by simpa [flat1] using h)
  | .lst xs, q, h => by simp [flat1] at h; subst h; simp
  | .dct xs, q, h => by simp [flat1] at h; subst h; simp
  | .dki xs, q, h => by simp [flat1] at h; subst h; simp
  | .dctL _ _ xs, q, h => by simp [flat1] at h; subst h; simp
  | .dkiL _ _ xs, q, h => by simp [flat1] at h; subst h; simp
  | .obj C fs, q, h => by simp [flat1] at h; subst h; simp
  | .raw o, q, h => by simp [flat1] at h; subst h; simp
theorem flats_no : ∀ (es : List (Addr × LO)), ∀ q ∈ flats es, ∀ fs, q.2 ≠ .pk fs
  | [], q, h => by simp [flats] at h
  | (p, o) :: r, q, h => by
    simp only [flats, List.mem_append] at h
    rcases h with h | h
    · exact flat1_no p o q h
    · exact flats_no r q h
end
theorem LOk.some {p : Addr} {o : LO} (n : ∀ es, o ≠ .pk es) (h : LOk K I H p o) : ∃ u, H p = some u ∧ NT u := by
  cases o with
  | lst xs => obtain ⟨vs, a, b⟩ := h; exact ⟨_, a, fun _ z => nomatch z⟩
  | dct xs => obtain ⟨vs, a, b⟩ := h; exact ⟨_, a, fun _ z => nomatch z⟩
  | dki xs => obtain ⟨vs, a, b⟩ := h; exact ⟨_, a, fun _ z => nomatch z⟩
  | dctL o vs xs => obtain ⟨a, b⟩ := h; exact ⟨_, a, fun _ z => nomatch z⟩
  | dkiL o vs xs => obtain ⟨a, b⟩ := h; exact ⟨_, a, fun _ z => nomatch z⟩
  | obj C fs => obtain ⟨dx, vs, a, b⟩ := h; exact ⟨_, a, fun _ z => nomatch z⟩
  | raw o => exact ⟨o, h.1, h.2⟩
  | pk es => exact absurd rfl (n es)
theorem Rel.at (R : Rel E K I H ls) {q : Addr × LO} (h : q ∈ flats ls) : ∃ u, H q.1 = some u ∧ NT u := (R.loc q h).2.some (flats_no ls q h)
/-- a new object that is kept as it is -/
theorem Rel.new (R : Rel E K I H ls) {p : Addr} {o : HO} (h : H p = none) : Rel E K (upd I p o) (upd H p o) ls ∧ Same I (upd I p o) := by
  have hI : I p = none := by
    cases e : I p with
    | none => rfl
    | some u => rw [R.sub _ _ e] at h; cases h
  have sI : Same I (upd I p o) := same_new hI
  refine ⟨⟨fun a u e => ?_, fun q hq => ?_, R.nd, fun a u e n => ?_, R.fl, R.up.trans sI⟩, sI⟩
  · by_cases hap : a = p
    · subst hap; rw [upd_same] at e ⊢; exact e
    · rw [upd_ne hap] at e ⊢; exact R.sub _ _ e
  · obtain ⟨u, hu, _⟩ := R.at hq
    have ne : q.1 ≠ p := ne_of_none hu h
    exact ⟨by rw [upd_ne ne]; exact (R.loc q hq).1, (R.loc q hq).2.mono sI fun u e => by rw [upd_ne ne]; exact e⟩
  · obtain ⟨h1, h2⟩ := R.fr a u e n
    have ne : a ≠ p := ne_of_none h1 h
    exact ⟨by rw [upd_ne ne]; exact h1, fun z t => by rw [upd_ne ne]; exact h2 z t⟩
/-- a new object that may change -/
theorem Rel.fresh (R : Rel E K I H ls) {p : Addr} {o : HO} {l : LO} (h : H p = none) (hl : flat1 p l = [(p, l)]) (ok : LOk K I (upd H p o) p l) : Rel E K I (upd H p o) ((p, l) :: ls) := by
  have hI : I p = none := by
    cases e : I p with
    | none => rfl
    | some u => rw [R.sub _ _ e] at h; cases h
  have hf : flats ((p, l) :: ls) = (p, l) :: flats ls := by simp [flats, hl]
  refine ⟨fun a u e => ?_, fun q hq => ?_, ?_, fun a u e n => ?_, fun q hq => ?_, R.up⟩
  · rw [upd_ne (ne_of_none e hI)]; exact R.sub _ _ e
  · rw [hf] at hq
    rcases List.mem_cons.mp hq with e | hq
    · subst e; exact ⟨hI, ok⟩
    · obtain ⟨u, hu, _⟩ := R.at hq
      have ne : q.1 ≠ p := ne_of_none hu h
      exact ⟨(R.loc q hq).1, (R.loc q hq).2.mono (Same.refl I) fun u e => by rw [upd_ne ne]; exact e⟩
  · rw [hf]
    refine List.nodup_cons.mpr ⟨fun hm => ?_, R.nd⟩
    obtain ⟨q, hq, e⟩ := List.mem_map.mp hm
    obtain ⟨u, hu, _⟩ := R.at hq
    rw [e, h] at hu; cases hu
  · obtain ⟨h1, h2⟩ := R.fr a u e n
    exact ⟨by rw [upd_ne (ne_of_none h1 h)]; exact h1, h2⟩
  · rw [hf] at hq
    rcases List.mem_cons.mp hq with e | hq
    · subst e
      cases z : E.H p with
      | none => exact .inr rfl
      | some u =>
        by_cases ho : p ∈ E.own
        · exact .inl ho
        · rw [(R.fr p u z ho).1] at h; cases h
    · exact R.fl q hq
/-- an object beside (an instance's own table) -/
theorem Rel.side (R : Rel E K I H ls) {p : Addr} {o : HO} (h : H p = none) (nt : NT o) : Rel E K I (upd H p o) ls := by
  have hI : I p = none := by
    cases e : I p with
    | none => rfl
    | some u => rw [R.sub _ _ e] at h; cases h
  refine ⟨fun a u e => ?_, fun q hq => ?_, R.nd, fun a u e n => ?_, R.fl, R.up⟩
  · rw [upd_ne (ne_of_none e hI)]; exact R.sub _ _ e
  · obtain ⟨u, hu, _⟩ := R.at hq
    have ne : q.1 ≠ p := ne_of_none hu h
    exact ⟨(R.loc q hq).1, (R.loc q hq).2.mono (Same.refl I) fun u e => by rw [upd_ne ne]; exact e⟩
  · obtain ⟨h1, h2⟩ := R.fr a u e n
    exact ⟨by rw [upd_ne (ne_of_none h1 h)]; exact h1, h2⟩
/-- places in ls -/
theorem flats_mem {ls : Ls} {p : Addr} {l : LO} {n : Nat} (h : ls[n]? = some (p, l)) (hl : flat1 p l = [(p, l)]) : (p, l) ∈ flats ls := by
  induction ls generalizing n with
  | nil => simp at h
  | cons q r ih =>
    obtain ⟨a, o⟩ := q
    simp only [flats, List.mem_append]
    cases n with
    | zero =>
      simp at h
      obtain ⟨h1, h2⟩ := h
      subst h1; subst h2
      left; rw [hl]; simp
    | succ n => exact .inr (ih (by simpa using h))
theorem flats_split {ls : Ls} {n : Nat} {q : Addr × LO} (h : ls[n]? = some q) : ∃ A B, ls = A ++ q :: B ∧ (∀ q', ls.set n q' = A ++ q' :: B) ∧ ls.eraseIdx n = A ++ B := by
  induction ls generalizing n with
  | nil => simp at h
  | cons y r ih =>
    cases n with
    | zero => simp at h; subst h; exact ⟨[], r, rfl, fun _ => rfl, rfl⟩
    | succ n =>
      obtain ⟨A, B, e1, e2, e3⟩ := ih (n := n) (by simpa using h)
      exact ⟨y :: A, B, by rw [e1]; rfl, fun q' => by simp [e2], by simp [e3]⟩
theorem Rel.find (R : Rel E K I H ls) {p : Addr} {l : LO} {n : Nat} (h : ls[n]? = some (p, l)) (hl : flat1 p l = [(p, l)]) : LOk K I H p l ∧ I p = none := by
  have z := R.loc _ (flats_mem h hl)
  exact ⟨z.2, z.1⟩
/-- an object of one's own is changed -/
theorem Rel.upd (R : Rel E K I H ls) {p : Addr} {l l' : LO} {o : HO} {n : Nat} (h : ls[n]? = some (p, l)) (hl : flat1 p l = [(p, l)]) (hl' : flat1 p l' = [(p, l')]) (ok : LOk K I (upd H p o) p l') :
    Rel E K I (upd H p o) (ls.set n (p, l')) := by
  obtain ⟨A, B, e1, e2, e3⟩ := flats_split h
  have f1 : flats ls = flats A ++ (p, l) :: flats B := by rw [e1, flats_app]; simp [flats, hl]
  have f2 : flats (ls.set n (p, l')) = flats A ++ (p, l') :: flats B := by rw [e2, flats_app]; simp [flats, hl']
  have hm : (p, l) ∈ flats ls := flats_mem h hl
  have hI := (R.loc _ hm).1
  have nd := R.nd
  rw [f1] at nd
  have nd2 : ((flats A ++ (p, l') :: flats B).map (·.1)).Nodup := by simpa using nd
  have off : ∀ q ∈ flats A ++ flats B, q.1 ≠ p := fun q hq e => by
    have nd3 : ((flats A).map (·.1) ++ p :: (flats B).map (·.1)).Nodup := by simpa using nd
    rw [List.nodup_append] at nd3
    obtain ⟨_, n2, n3⟩ := nd3
    rcases List.mem_append.mp hq with hq | hq
    · exact n3 q.1 (List.mem_map_of_mem hq) p (by simp) e
    · exact (List.nodup_cons.mp n2).1 (e ▸ List.mem_map_of_mem hq)
  refine ⟨fun a u e => ?_, fun q hq => ?_, by rw [f2]; exact nd2, fun a u e n => ?_, fun q hq => ?_, R.up⟩
  · rw [upd_ne (ne_of_none e hI)]; exact R.sub _ _ e
  · rw [f2] at hq
    rcases List.mem_append.mp hq with hq | hq
    · have q1 := R.loc q (by rw [f1]; exact List.mem_append_left _ hq)
      exact ⟨q1.1, q1.2.mono (Same.refl I) fun u e => by rw [upd_ne (off q (List.mem_append_left _ hq))]; exact e⟩
    · rcases List.mem_cons.mp hq with e | hq
      · subst e; exact ⟨hI, ok⟩
      · have q1 := R.loc q (by rw [f1]; exact List.mem_append_right _ (List.mem_cons_of_mem _ hq))
        exact ⟨q1.1, q1.2.mono (Same.refl I) fun u e => by rw [upd_ne (off q (List.mem_append_right _ hq))]; exact e⟩
  · obtain ⟨h1, h2⟩ := R.fr a u e n
    have ne : a ≠ p := by
      rintro rfl
      rcases R.fl _ hm with z | z
      · exact n z
      · rw [z] at e; cases e
    exact ⟨by rw [upd_ne ne]; exact h1, h2⟩
  · rw [f2] at hq
    rcases List.mem_append.mp hq with hq | hq
    · exact R.fl q (by rw [f1]; exact List.mem_append_left _ hq)
    · rcases List.mem_cons.mp hq with e | hq
      · subst e; exact (R.fl _ hm : p ∈ E.own ∨ E.H p = none)
      · exact R.fl q (by rw [f1]; exact List.mem_append_right _ (List.mem_cons_of_mem _ hq))
/-- an object of one's own will not change any more -/
theorem Rel.pub (R : Rel E K I H ls) {p : Addr} {l : LO} {o : HO} {n : Nat} (h : ls[n]? = some (p, l)) (hl : flat1 p l = [(p, l)]) (ho : H p = some o) :
    Rel E K (L2.upd I p o) H (ls.eraseIdx n) ∧ Same I (L2.upd I p o) := by
  obtain ⟨A, B, e1, e2, e3⟩ := flats_split h
  have f1 : flats ls = flats A ++ (p, l) :: flats B := by rw [e1, flats_app]; simp [flats, hl]
  have f2 : flats (ls.eraseIdx n) = flats A ++ flats B := by rw [e3, flats_app]
  have hm : (p, l) ∈ flats ls := flats_mem h hl
  have hI := (R.loc _ hm).1
  have nd := R.nd
  rw [f1] at nd
  have nd3 : ((flats A).map (·.1) ++ p :: (flats B).map (·.1)).Nodup := by simpa using nd
  have nd3' := nd3
  rw [List.nodup_append] at nd3'
  obtain ⟨m1, n2, n3⟩ := nd3'
  have off : ∀ q ∈ flats A ++ flats B, q.1 ≠ p := fun q hq e => by
    rcases List.mem_append.mp hq with hq | hq
    · exact n3 q.1 (List.mem_map_of_mem hq) p (by simp) e
    · exact (List.nodup_cons.mp n2).1 (e ▸ List.mem_map_of_mem hq)
  have sub : ∀ q ∈ flats A ++ flats B, q ∈ flats ls := fun q hq => by
    rw [f1]
    rcases List.mem_append.mp hq with hq | hq
    · exact List.mem_append_left _ hq
    · exact List.mem_append_right _ (List.mem_cons_of_mem _ hq)
  have sI : Same I (L2.upd I p o) := same_new hI
  refine ⟨⟨fun a u e => ?_, fun q hq => ?_, ?_, fun a u e n => ?_, fun q hq => ?_, R.up.trans sI⟩, sI⟩
  · by_cases hap : a = p
    · subst hap; rw [upd_same] at e; rw [← e]; exact ho
    · rw [upd_ne hap] at e; exact R.sub _ _ e
  · rw [f2] at hq
    have q1 := R.loc q (sub q hq)
    exact ⟨by rw [upd_ne (off q hq)]; exact q1.1, q1.2.mono sI fun u e => e⟩
  · rw [f2, List.map_append, List.nodup_append]
    exact ⟨m1, (List.nodup_cons.mp n2).2, fun x hx y hy => n3 x hx y (List.mem_cons_of_mem _ hy)⟩
  · obtain ⟨h1, h2⟩ := R.fr a u e n
    have ne : a ≠ p := by
      rintro rfl
      rcases R.fl _ hm with z | z
      · exact n z
      · rw [z] at e; cases e
    exact ⟨h1, fun z t => by rw [upd_ne ne]; exact h2 z t⟩
  · rw [f2] at hq
    exact R.fl q (sub q hq)
/-- a tuple that the heap holds may be leaned on -/
theorem Rel.tup (R : Rel E K I H ls) {p : Addr} {xs : List V} (ho : H p = some (.tup xs)) : ∃ I', Rel E K I' H ls ∧ Same I I' ∧ I' p = some (.tup xs) := by
  cases e : I p with
  | some u =>
    have z := R.sub _ _ e
    rw [ho] at z; cases z
    exact ⟨I, R, Same.refl I, e⟩
  | none =>
    have sI : Same I (L2.upd I p (.tup xs)) := same_new e
    refine ⟨L2.upd I p (.tup xs), ⟨fun a u q => ?_, fun q hq => ?_, R.nd, fun a u q n => ?_, R.fl, R.up.trans sI⟩, sI, upd_same⟩
    · by_cases hap : a = p
      · subst hap; rw [upd_same] at q; rw [← q]; exact ho
      · rw [upd_ne hap] at q; exact R.sub _ _ q
    · obtain ⟨u, hu, nt⟩ := R.at hq
      have ne : q.1 ≠ p := by rintro z; rw [z, ho] at hu; cases hu; exact nt _ rfl
      exact ⟨by rw [upd_ne ne]; exact (R.loc q hq).1, (R.loc q hq).2.mono sI fun u e => e⟩
    · obtain ⟨h1, h2⟩ := R.fr a u q n
      refine ⟨h1, fun z t => ?_⟩
      have ne : a ≠ p := by rintro rfl; rw [ho] at h1; cases h1; exact t _ rfl
      rw [upd_ne ne]; exact h2 z t
def adrs (ls : Ls) : List Addr := (flats ls).map (·.1)
theorem Rel.self (R : Rel E K I H ls) : Rel ⟨I, H, adrs ls⟩ K I H ls :=
  ⟨R.sub, R.loc, R.nd, fun a o e _ => ⟨e, fun z _ => z⟩, fun q hq => .inl (List.mem_map_of_mem hq), Same.refl I⟩
/-- behind a call -/
theorem Rel.back (R : Rel E K I H ls) {I' H' : Hp} {ls' : Ls} (C : Rel ⟨I, H, adrs ls⟩ K I' H' ls') : Rel E K I' H' ls' := by
  refine ⟨C.sub, C.loc, C.nd, fun a o e n => ?_, fun q hq => ?_, R.up.trans C.up⟩
  · obtain ⟨h1, h2⟩ := R.fr a o e n
    have na : a ∉ adrs ls := fun hm => by
      obtain ⟨q, hq, e1⟩ := List.mem_map.mp hm
      rcases R.fl q hq with z | z
      · exact n (e1 ▸ z)
      · rw [e1, e] at z; cases z
    obtain ⟨c1, c2⟩ := C.fr a o h1 na
    exact ⟨c1, fun z t => c2 (h2 z t) t⟩
  · rcases C.fl q hq with z | z
    · obtain ⟨q2, hq2, e1⟩ := List.mem_map.mp z
      rw [← e1]; exact R.fl q2 hq2
    · cases y : E.H q.1 with
      | none => exact .inr rfl
      | some u =>
        by_cases ho : q.1 ∈ E.own
        · exact .inl ho
        · have w := (R.fr _ u y ho).1
          have z : H q.1 = none := z
          rw [w] at z; cases z
/-- what a part of the objects does, the others stand -/
theorem Rel.frame {A B B' : Ls} {I' H' : Hp} (R : Rel E K I H (A ++ B)) (C : Rel ⟨I, H, adrs B⟩ K I' H' B') : Rel E K I' H' (A ++ B') := by
  have f1 : flats (A ++ B) = flats A ++ flats B := flats_app A B
  have f2 : flats (A ++ B') = flats A ++ flats B' := flats_app A B'
  have nd := R.nd
  rw [f1, List.map_append, List.nodup_append] at nd
  obtain ⟨n1, n2, n3⟩ := nd
  have inA : ∀ q ∈ flats A, q ∈ flats (A ++ B) := fun q hq => by rw [f1]; exact List.mem_append_left _ hq
  have inB : ∀ q ∈ flats B, q ∈ flats (A ++ B) := fun q hq => by rw [f1]; exact List.mem_append_right _ hq
  have off : ∀ q ∈ flats A, q.1 ∉ adrs B := fun q hq hb => n3 q.1 (List.mem_map_of_mem hq) q.1 hb rfl
  have keep : ∀ q ∈ flats A, ∀ u, H q.1 = some u -> H' q.1 = some u := fun q hq u hu => (C.fr q.1 u hu (off q hq)).1
  have fl2 : ∀ q ∈ flats B', q.1 ∈ E.own ∨ E.H q.1 = none := fun q hq => by
    rcases C.fl q hq with z | z
    · obtain ⟨q2, hq2, e1⟩ := List.mem_map.mp z
      rw [← e1]; exact R.fl q2 (inB q2 hq2)
    · cases y : E.H q.1 with
      | none => exact .inr rfl
      | some u =>
        by_cases ho : q.1 ∈ E.own
        · exact .inl ho
        · have w := (R.fr _ u y ho).1
          have z : H q.1 = none := z
          rw [w] at z; cases z
  refine ⟨C.sub, fun q hq => ?_, ?_, fun a o e n => ?_, fun q hq => ?_, R.up.trans C.up⟩
  · rw [f2] at hq
    rcases List.mem_append.mp hq with hq | hq
    · obtain ⟨u, hu, nt⟩ := R.at (inA q hq)
      have l := R.loc q (inA q hq)
      exact ⟨(C.fr q.1 u hu (off q hq)).2 l.1 nt, l.2.mono C.up (keep q hq)⟩
    · exact C.loc q hq
  · rw [f2, List.map_append, List.nodup_append]
    refine ⟨n1, C.nd, fun x hx y hy e => ?_⟩
    subst e
    obtain ⟨q, hq, e1⟩ := List.mem_map.mp hx
    obtain ⟨q2, hq2, e2⟩ := List.mem_map.mp hy
    obtain ⟨u, hu, nt⟩ := R.at (inA q hq)
    rcases C.fl q2 hq2 with z | z
    · exact off q hq (by rw [e1, ← e2]; exact z)
    · have z : H q2.1 = none := z
      rw [e2, ← e1, hu] at z; cases z
  · obtain ⟨h1, h2⟩ := R.fr a o e n
    have na : a ∉ adrs B := fun hm => by
      obtain ⟨q, hq, e1⟩ := List.mem_map.mp hm
      rcases R.fl q (inB q hq) with z | z
      · exact n (e1 ▸ z)
      · rw [e1, e] at z; cases z
    obtain ⟨c1, c2⟩ := C.fr a o h1 na
    exact ⟨c1, fun z t => c2 (h2 z t) t⟩
  · rw [f2] at hq
    rcases List.mem_append.mp hq with hq | hq
    · exact R.fl q (inA q hq)
    · exact fl2 q hq
/-- the list may be written otherwise -/
theorem Rel.same {ls' : Ls} (R : Rel E K I H ls) (h : flats ls' = flats ls) : Rel E K I H ls' :=
  ⟨R.sub, by rw [h]; exact R.loc, by rw [h]; exact R.nd, R.fr, by rw [h]; exact R.fl, R.up⟩
theorem Rel.perm {ls' : Ls} (R : Rel E K I H ls) (h : (flats ls').Perm (flats ls)) : Rel E K I H ls' :=
  ⟨R.sub, fun q hq => R.loc q (h.mem_iff.mp hq), (h.map _).nodup_iff.mpr R.nd, R.fr, fun q hq => R.fl q (h.mem_iff.mp hq), R.up⟩
/-- an object is left to itself (nobody asks for it any more) -/
theorem Rel.drop {n : Nat} (R : Rel E K I H ls) : Rel E K I H (ls.eraseIdx n) := by
  cases h : ls[n]? with
  | none =>
    have : ls.eraseIdx n = ls := List.eraseIdx_of_length_le (by simpa using h)
    rw [this]; exact R
  | some q =>
    obtain ⟨A, B, e1, e2, e3⟩ := flats_split h
    obtain ⟨p, l⟩ := q
    have f1 : flats ls = flats A ++ (flat1 p l ++ flats B) := by rw [e1, flats_app]; simp [flats]
    have f2 : flats (ls.eraseIdx n) = flats A ++ flats B := by rw [e3, flats_app]
    have sub : List.Sublist (flats A ++ flats B) (flats ls) := by
      rw [f1]; exact List.Sublist.append_left (List.sublist_append_right _ _) _
    rw [← f2] at sub
    exact ⟨R.sub, fun q hq => R.loc q (sub.subset hq), List.Nodup.sublist (sub.map _) R.nd, R.fr, fun q hq => R.fl q (sub.subset hq), R.up⟩
end
/-! ### promises over data -/
abbrev JSp := List D -> Ls -> (D -> Ls -> Prop) -> Prop
def spJ (K : PySem.W.Frag) (js : JSp) : Sp := fun vs H Q _ => ∃ (I : Hp) (ls : Ls) (ds : List D) (W : D -> Ls -> Prop), Rel ⟨I, H, adrs ls⟩ K I H ls ∧ RDs K I vs ds ∧ js ds ls W ∧ ∀ x ls' v I' H', Rel ⟨I, H, adrs ls⟩ K I' H' ls' -> RD K I' v x -> W x ls' -> Q v H'
def startJ (N : List Str) (ds : List D) : Env := ds.map some ++ List.replicate (N.length - ds.length) none
theorem start_env {K : PySem.W.Frag} {I : Hp} {N : List Str} {vs : List V} {ds : List D} (r : RDs K I vs ds) : EnvR K I (L2.start N vs) (startJ N ds) := by
  have hl := r.length
  refine ⟨by simp [L2.start, startJ, hl], fun i x h => ?_⟩
  unfold startJ at h
  unfold L2.start
  by_cases hi : i < ds.length
  · rw [List.getElem?_append_left (by simpa using hi), List.getElem?_map] at h
    cases e : ds[i]? with
    | none => rw [e] at h; simp at h
    | some y =>
      rw [e] at h; simp at h; subst h
      obtain ⟨v, h1, h2⟩ := r.get e
      exact ⟨v, by rw [List.getElem?_append_left (by rw [List.length_map, hl]; exact hi), List.getElem?_map, h1]; rfl, h2⟩
  · rw [List.getElem?_append_right (by simpa using hi), List.getElem?_replicate] at h
    split at h <;> simp at h
section
variable {P : Program} {w : World} {K : PySem.W.Frag} {mg : Str -> Option Value} {base : Heap}
theorem fnJ {x qual : Str} {st : Stmt} {f : Addr} {fd : FuncData} {N ps : List Str} {k : Nat} {js : JSp} (F : Fun K x qual st f fd) (S : FnScope N ps (defScope st)) (len : ∀ ds ls Q, js ds ls Q -> ds.length = ps.length)
    (hbody : ∀ (cdv : Value) (A : Around) (outer : List PySem.Env) (s : Shared) (H : Hp) (vs : List V) (Q : VK) (E : XK), Room k (A.deeper (envOfC qual (defScope st) s.heap.objs.size f cdv)) ->
      ∃ t, PBJ (cxOf CX0 P w K mg base N qual (defScope st) f cdv A outer s H E).nox (defBody st) t ∧ ∀ ds ls R, js ds ls R -> t { nx := fun _ ls' => R (.d .none) ls', rt := R } (startJ N ds) ls) :
    FnOk P w K mg base CX0 (k + 1) f fd ps (spJ K js) := by
  refine F.ok S (fun vs H Q E h => ?_) (fun cdv A outer s H vs Q E hr h => ?_)
  · obtain ⟨I, ls, ds, W, R, r, h, _⟩ := h
    rw [r.length]; exact len _ _ _ h
  · obtain ⟨I, ls, ds, W, R, r, h, kk⟩ := h
    obtain ⟨t, ⟨ts, h1, h2⟩, h3⟩ := hbody cdv A outer s H vs Q E hr
    refine ⟨ts, h1, h2 ⟨I, H, adrs ls⟩ I H ls _ _ _ _ R (start_env r) ⟨fun I' H' ls' σ δ R' _ q => ?_, fun I' H' ls' v x R' r' q => ?_, fun _ _ _ _ _ _ _ (q : False) => q.elim, fun _ _ _ _ _ _ _ (q : False) => q.elim⟩ (h3 _ _ _ h)⟩
    · exact kk _ _ _ I' H' R' (.d .non) q
    · exact kk _ _ _ I' H' R' r' q
end
end J

/-! J1: the rules of expressions over data. -/
namespace J
open PySem PySem.Spec PyProof.Rows L2

/-! ### rules that are chosen when the values are known -/
section
variable {X : Cx}
theorem opU {f : Value -> Value -> Sem Value} : OpR X f (fun x y H Q => ∃ r, OpR X f r ∧ r x y H Q) := fun pins s σ H x y v u Q I rx ry ⟨r, h, q⟩ => h pins s σ H x y v u Q I rx ry q
theorem unU {f : Value -> Sem Value} : UnR X f (fun x H Q => ∃ r, UnR X f r ∧ r x H Q) := fun pins s σ H x v Q I rx ⟨r, h, q⟩ => h pins s σ H x v Q I rx q
theorem callU {f : Value} : CallR X f (fun xs H Q => ∃ r, CallR X f r ∧ r xs H Q) := fun pins s σ H xs us Q I rx ⟨r, h, q⟩ => h pins s σ H xs us Q I rx q
theorem ixU : IxR X (fun x y H Q => ∃ r, IxR X r ∧ r x y H Q) := fun a b pins s σ H x y v u Q I rx ry ⟨r, h, q⟩ hs => h a b pins s σ H x y v u Q I rx ry q hs
theorem mtU {id : String} : MtR X id (fun x xs H Q => ∃ r, MtR X id r ∧ r x xs H Q) := fun pins s σ H x xs v us Q I rx rs ⟨r, h, q⟩ => h pins s σ H x xs v us Q I rx rs q
theorem slU : SlR X (fun x lo hi H Q => ∃ r, SlR X r ∧ r x lo hi H Q) := fun pins s σ H x v vl vu lo hi sl Q I rx hs pl pu ⟨r, h, q⟩ => h pins s σ H x v vl vu lo hi sl Q I rx hs pl pu q
theorem truU : TruR X (fun x H Q => ∃ r, TruR X r ∧ r x H Q) := fun pins s σ H x v Q I rx ⟨r, h, q⟩ => h pins s σ H x v Q I rx q
theorem setU : PSet X (fun o i v H Q => ∃ r, PSet X r ∧ r o i v H Q) := by
  intro pins s σ H x y z vx vy vz Q I r1 r2 r3 ⟨r, h, q⟩
  exact h pins s σ H x y z vx vy vz Q I r1 r2 r3 q
end

abbrev jR1 := D -> Ls -> (D -> Ls -> Prop) -> Prop
abbrev jR2 := D -> D -> Ls -> (D -> Ls -> Prop) -> Prop
abbrev jRA := List D -> Ls -> (D -> Ls -> Prop) -> Prop
abbrev jRM := D -> List D -> Ls -> (D -> Ls -> Prop) -> Prop
def OpJ (X : Cx) (f : Value -> Value -> Sem Value) (r : jR2) : Prop := ∀ (E : Ent) (I H : Hp) (ls : Ls) (v w : V) (x y : D) (Q : D -> Ls -> Prop), Rel E X.K I H ls -> RD X.K I v x -> RD X.K I w y -> r x y ls Q -> ∀ W : VK, (∀ z H', PoE E X.K I Q z H' -> W z H') -> ∃ r0, OpR X f r0 ∧ r0 v w H W
def UnJ (X : Cx) (f : Value -> Sem Value) (r : jR1) : Prop := ∀ (E : Ent) (I H : Hp) (ls : Ls) (v : V) (x : D) (Q : D -> Ls -> Prop), Rel E X.K I H ls -> RD X.K I v x -> r x ls Q -> ∀ W : VK, (∀ z H', PoE E X.K I Q z H' -> W z H') -> ∃ r0, UnR X f r0 ∧ r0 v H W
def IxJ (X : Cx) (r : jR2) : Prop := ∀ (E : Ent) (I H : Hp) (ls : Ls) (v w : V) (x y : D) (Q : D -> Ls -> Prop), Rel E X.K I H ls -> RD X.K I v x -> RD X.K I w y -> r x y ls Q -> ∀ W : VK, (∀ z H', PoE E X.K I Q z H' -> W z H') -> ∃ r0, IxR X r0 ∧ r0 v w H W
def CallJ (X : Cx) (f : Value) (r : jRA) : Prop := ∀ (E : Ent) (I H : Hp) (ls : Ls) (vs : List V) (xs : List D) (Q : D -> Ls -> Prop), Rel E X.K I H ls -> RDs X.K I vs xs -> r xs ls Q -> ∀ W : VK, (∀ z H', PoE E X.K I Q z H' -> W z H') -> ∃ r0, CallR X f r0 ∧ r0 vs H W
def MtJ (X : Cx) (T : String) (id : String) (r : jRM) : Prop := ∀ (E : Ent) (I H : Hp) (ls : Ls) (v : V) (x : D) (vs : List V) (xs : List D) (Q : D -> Ls -> Prop), Rel E X.K I H ls -> RD X.K I v x -> RDs X.K I vs xs -> r x xs ls Q -> ∀ W : VK, (∀ z H', PoE E X.K I Q z H' -> W z H') -> ∃ r0, MtR X id r0 ∧ r0 v vs H W
def TruJ (X : Cx) (r : D -> Ls -> (Bool -> Ls -> Prop) -> Prop) : Prop := ∀ (E : Ent) (I H : Hp) (ls : Ls) (v : V) (x : D) (Q : Bool -> Ls -> Prop), Rel E X.K I H ls -> RD X.K I v x -> r x ls Q -> ∀ W : Bool -> Hp -> Prop, (∀ z H', PoT E X.K I Q z H' -> W z H') -> ∃ r0, TruR X r0 ∧ r0 v H W
def SlJ (X : Cx) (r : D -> Option Int -> Option Int -> Ls -> (D -> Ls -> Prop) -> Prop) : Prop := ∀ (E : Ent) (I H : Hp) (ls : Ls) (v : V) (x : D) (lo hi : Option Int) (Q : D -> Ls -> Prop), Rel E X.K I H ls -> RD X.K I v x -> r x lo hi ls Q -> ∀ W : VK, (∀ z H', PoE E X.K I Q z H' -> W z H') -> ∃ r0, SlR X r0 ∧ r0 v lo hi H W

theorem PoE.of {E : Ent} {K : PySem.W.Frag} {I H : Hp} {ls : Ls} {Q : D -> Ls -> Prop} {v : V} {x : D} (R : Rel E K I H ls) (r : RD K I v x) (q : Q x ls) : PoE E K I Q v H := ⟨I, ls, x, R, Same.refl I, r, q⟩
theorem PoE.up {E : Ent} {K : PySem.W.Frag} {I I1 : Hp} {Q : D -> Ls -> Prop} {v : V} {H : Hp} (e : Same I I1) (h : PoE E K I1 Q v H) : PoE E K I Q v H := by
  obtain ⟨I', ls', x, R, s, r, q⟩ := h
  exact ⟨I', ls', x, R, e.trans s, r, q⟩

/-! ### names and constants -/
@[reducible] def jVar (i : Nat) : jTE := fun δ ls Q => match lk δ i with | some x => Q x ls | none => False
@[reducible] def jC (x : D) : jTE := fun _ ls Q => Q x ls
section
variable {X : Cx}
theorem pvJ (i : Nat) {x : Str} {pos : Pos} (hN : X.N[i]? = some x := by rfl) (hv : Vis X.env.scope x := by first | exact Or.inl rfl | exact Or.inr (Or.inl rfl) | exact Or.inr (Or.inr rfl)) (hd : (x == ("__debug__" : Str)) = false := by decide)
    (hcd : (x == ("__classdict__" : Str)) = false := by decide) : PEJ X (.Name x pos) (jVar i) := by
  refine ⟨_, pe_var hN hv hd hcd, fun E I H ls σ δ Q R V h W k => ?_⟩
  unfold jVar at h
  split at h
  · rename_i y hy
    obtain ⟨v, a, b⟩ := V.2 i y (lk_get _ _ _ hy)
    exact ⟨v, a, k _ _ (.of R b h)⟩
  · exact h.elim
theorem pintJ {i j pos} : PEJ X (.Constant (.int i) j pos) (jC (.d (.int i))) := ⟨_, pe_int, fun E I H ls σ δ Q R V h W k => k _ _ <| .of R (.d (.int i)) h⟩
theorem pblJ {b j pos} : PEJ X (.Constant (.bool b) j pos) (jC (.d (.bool b))) := ⟨_, pe_bl, fun E I H ls σ δ Q R V h W k => k _ _ <| .of R (.d (.bl b)) h⟩
theorem pnonJ {j pos} : PEJ X (.Constant .none j pos) (jC (.d .none)) := ⟨_, pe_non, fun E I H ls σ δ Q R V h W k => k _ _ <| .of R (.d .non) h⟩
theorem pstrJ {x j pos} : PEJ X (.Constant (.str x) j pos) (jC (.d (.str x))) := ⟨_, pe_str, fun E I H ls σ δ Q R V h W k => k _ _ <| .of R (.d (.str x)) h⟩
/-- a module's name -/
theorem pglJ {x : Str} {v : V} {u : Value} {y : D} {pos : Pos} (hg : Gl X x) (hm : X.mg x = some u) (r : RelV v u) (hr : ∀ I, RD X.K I v y) (hd : (x == ("__debug__" : Str)) = false := by decide) : PEJ X (.Name x pos) (jC y) :=
  ⟨_, pe_glob hg hm r hd, fun E I H ls σ δ Q R V h W k => k _ _ <| .of R (hr I) h⟩
end

/-! ### operations -/
@[reducible] def jOp (r : jR2) (ta tb : jTE) : jTE := fun δ ls Q => ta δ ls fun x ls1 => tb δ ls1 fun y ls2 => r x y ls2 Q
@[reducible] def jUn (r : jR1) (ta : jTE) : jTE := fun δ ls Q => ta δ ls fun x ls1 => r x ls1 Q
section
variable {X : Cx} {a b c : Expr} {ta tb tc : jTE} {pos : Pos}
theorem PoE.down {E : Ent} {K : PySem.W.Frag} {I : Hp} {Q : D -> Ls -> Prop} {v : V} {H : Hp} (h : PoE E K I Q v H) : ∃ I' ls' x, Rel E K I' H ls' ∧ Same I I' ∧ RD K I' v x ∧ Q x ls' := h
theorem pjOp {op : Operator} {r : jR2} (ho : OpJ X (binaryOp op) r) (ha : PEJ X a ta) (hb : PEJ X b tb) : PEJ X (.BinOp a op b pos) (jOp r ta tb) := by
  obtain ⟨t1, p1, j1⟩ := ha
  obtain ⟨t2, p2, j2⟩ := hb
  refine ⟨_, pe_op opU p1 p2, fun E I H ls σ δ Q R V h W k => ?_⟩
  refine j1 E I H ls σ δ _ R V h _ fun v H1 ⟨I1, ls1, x, R1, s1, r1, q1⟩ => ?_
  refine j2 E I1 H1 ls1 σ δ _ R1 (V.mono s1) q1 _ fun w H2 ⟨I2, ls2, y, R2, s2, r2, q2⟩ => ?_
  exact ho E I2 H2 ls2 v w x y Q R2 (r1.mono s2) r2 q2 _ fun z H3 h3 => k z H3 (h3.up (s1.trans s2))
theorem pjCmp {op : CmpOp} {r : jR2} (ho : OpJ X (compareOp op) r) (ha : PEJ X a ta) (hb : PEJ X b tb) (hm : behindInMarks op b = false) : PEJ X (.Compare a [op] [b] pos) (jOp r ta tb) := by
  obtain ⟨t1, p1, j1⟩ := ha
  obtain ⟨t2, p2, j2⟩ := hb
  refine ⟨_, pe_cmpR opU p1 p2 hm, fun E I H ls σ δ Q R V h W k => ?_⟩
  refine j1 E I H ls σ δ _ R V h _ fun v H1 ⟨I1, ls1, x, R1, s1, r1, q1⟩ => ?_
  refine j2 E I1 H1 ls1 σ δ _ R1 (V.mono s1) q1 _ fun w H2 ⟨I2, ls2, y, R2, s2, r2, q2⟩ => ?_
  exact ho E I2 H2 ls2 v w x y Q R2 (r1.mono s2) r2 q2 _ fun z H3 h3 => k z H3 (h3.up (s1.trans s2))
theorem pjUn {op : UnaryOp} {r : jR1} (ho : UnJ X (unaryOp op) r) (ha : PEJ X a ta) : PEJ X (.UnaryOp op a pos) (jUn r ta) := by
  obtain ⟨t1, p1, j1⟩ := ha
  refine ⟨_, pe_un unU p1, fun E I H ls σ δ Q R V h W k => ?_⟩
  refine j1 E I H ls σ δ _ R V h _ fun v H1 ⟨I1, ls1, x, R1, s1, r1, q1⟩ => ?_
  exact ho E I1 H1 ls1 v x Q R1 r1 q1 _ fun z H3 h3 => k z H3 (h3.up s1)

end

/-! ### new objects -/
@[reducible] def allD : List D -> Option (List PyData)
  | [] => some []
  | .d x :: r => match allD r with
    | some ds => some (x :: ds)
    | none => none
  | _ :: _ => none
theorem allD_eq : ∀ {xs : List D} {ds : List PyData}, allD xs = some ds -> xs = ds.map .d
  | [], _, h => by simp [allD] at h; subst h; rfl
  | .d x :: r, _, h => by
    simp only [allD] at h
    split at h
    · rename_i es h1
      cases h
      rw [allD_eq h1]; rfl
    · cases h
  | .a _ :: _, _, h => by simp [allD] at h
  | .t _ :: _, _, h => by simp [allD] at h
  | .scr _ :: _, _, h => by simp [allD] at h
  | .ins _ _ :: _, _, h => by simp [allD] at h
theorem allD_map : ∀ (ds : List PyData), allD (ds.map .d) = some ds
  | [] => rfl
  | x :: r => by simp [allD, allD_map r]
/-- a new tuple -/
@[reducible] def jNewT (xs : List D) (ls : Ls) (Q : D -> Ls -> Prop) : Prop := match allD xs with
  | some ds => Q (.d (.tuple ds)) ls
  | none => Q (.t xs) ls
/-- a new list: kept as it is, or one's own -/
def jNewL (xs : List D) (ls : Ls) (Q : D -> Ls -> Prop) : Prop := (∃ ds, allD xs = some ds ∧ Q (.d (.list ds)) ls) ∨ ∀ p, Q (.a p) ((p, .lst xs) :: ls)
section
variable {E : Ent} {K : PySem.W.Frag} {I H : Hp} {ls : Ls} {W : VK} {Q : D -> Ls -> Prop}
theorem newT {vs : List V} {xs : List D} (R : Rel E K I H ls) (r : RDs K I vs xs) (q : jNewT xs ls Q) (k : ∀ z H', PoE E K I Q z H' -> W z H') : ∀ p, H p = none -> W (.ref p) (upd H p (.tup vs)) := fun p hp => by
  obtain ⟨R1, s1⟩ := R.new (o := .tup vs) hp
  unfold jNewT at q
  split at q
  · rename_i ds h
    rw [allD_eq h] at r
    exact k _ _ ⟨_, ls, _, R1, s1, .d (.tup upd_same (r.dn.mono s1)), q⟩
  · exact k _ _ ⟨_, ls, _, R1, s1, .t (SqT.of upd_same) (r.mono s1), q⟩
theorem newL {vs : List V} {xs : List D} (R : Rel E K I H ls) (r : RDs K I vs xs) (q : jNewL xs ls Q) (k : ∀ z H', PoE E K I Q z H' -> W z H') : ∀ p, H p = none -> W (.ref p) (upd H p (.lst vs)) := fun p hp => by
  rcases q with ⟨ds, h, q⟩ | q
  · obtain ⟨R1, s1⟩ := R.new (o := .lst vs) hp
    rw [allD_eq h] at r
    exact k _ _ ⟨_, ls, _, R1, s1, .d (.lst upd_same (r.dn.mono s1)), q⟩
  · exact k _ _ ⟨I, (p, .lst xs) :: ls, _, R.fresh hp rfl ⟨vs, upd_same, r⟩, Same.refl I, .a, q p⟩
/-- a list of data may be read -/
theorem Dn.lstI {v : V} {ds : List PyData} (h : Dn I v (.list ds)) : ∃ a xs, v = .ref a ∧ I a = some (.lst xs) ∧ DnAll I xs ds := by
  cases h with
  | lst h t => exact ⟨_, _, rfl, h, t⟩
theorem Dn.tupI {v : V} {ds : List PyData} (h : Dn I v (.tuple ds)) : ∃ a xs, v = .ref a ∧ I a = some (.tup xs) ∧ DnAll I xs ds := by
  cases h with
  | tup h t => exact ⟨_, _, rfl, h, t⟩
end
theorem map_app {α β : Type} (f : α -> β) (a b : List α) : (a ++ b).map f = a.map f ++ b.map f := List.map_append

/-! ### what the operations do -/
section
variable {X : Cx}
theorem OpJ.of {f : Value -> Value -> Sem Value} {r : jR2} (h : ∀ (E : Ent) (I H : Hp) (ls : Ls) (v w : V) (x y : D) (Q : D -> Ls -> Prop), Rel E X.K I H ls -> RD X.K I v x -> RD X.K I w y -> r x y ls Q ->
    ∃ r0, OpR X f r0 ∧ ∃ z y', (∀ W : VK, W z H -> r0 v w H W) ∧ RD X.K I z y' ∧ Q y' ls) : OpJ X f r := fun E I H ls v w x y Q R rx ry q W k => by
  obtain ⟨r0, h0, z, y', h1, h2, h3⟩ := h E I H ls v w x y Q R rx ry q
  exact ⟨r0, h0, h1 W (k z H (.of R h2 h3))⟩
@[reducible] def jInt2 (g : Int -> Int -> PyData) : jR2 := fun x y ls Q => match x, y with
  | .d (.int i), .d (.int j) => Q (.d (g i j)) ls
  | _, _ => False
@[reducible] def jInt2C (C : Int -> Int -> Prop) (g : Int -> Int -> PyData) : jR2 := fun x y ls Q => match x, y with
  | .d (.int i), .d (.int j) => C i j ∧ Q (.d (g i j)) ls
  | _, _ => False
theorem oj2 {f : Value -> Value -> Sem Value} {g : Int -> Int -> V} {g' : Int -> Int -> PyData} (ho : OpR X f (rI0 g)) (hg : ∀ I i j, Dn I (g i j) (g' i j)) : OpJ X f (jInt2 g') := .of fun E I H ls v w x y Q R rx ry q => by
  unfold jInt2 at q
  split at q
  · cases rx with | d rx => cases rx; cases ry with | d ry => cases ry; exact ⟨_, ho, _, _, fun W h => ⟨_, _, rfl, rfl, h⟩, .d (hg _ _ _), q⟩
  · exact q.elim
theorem oj2C {f : Value -> Value -> Sem Value} {C : Int -> Int -> Prop} {g : Int -> Int -> V} {g' : Int -> Int -> PyData} (ho : OpR X f (rI C g)) (hg : ∀ I i j, Dn I (g i j) (g' i j)) : OpJ X f (jInt2C C g') := .of fun E I H ls v w x y Q R rx ry q => by
  unfold jInt2C at q
  split at q
  · cases rx with | d rx => cases rx; cases ry with | d ry => cases ry; exact ⟨_, ho, _, _, fun W h => ⟨_, _, rfl, rfl, q.1, h⟩, .d (hg _ _ _), q.2⟩
  · exact q.elim
@[reducible] def jSub : jR2 := jInt2 fun i j => .int (i - j)
theorem ojSub : OpJ X (binaryOp .Sub) jSub := oj2 op_sub fun _ _ _ => .int _
@[reducible] def jFdiv : jR2 := jInt2C (fun _ j => 0 < j ∧ j < 1073741824) fun i j => .int (i / j)
theorem ojFdiv : OpJ X (binaryOp .FloorDiv) jFdiv := oj2C (C := fun _ j => 0 < j ∧ j < 1073741824) op_fdiv fun _ _ _ => .int _
@[reducible] def jMod : jR2 := jInt2C (fun _ j => 0 < j) fun i j => .int (i % j)
theorem ojMod : OpJ X (binaryOp .Mod) jMod := oj2C op_mod fun _ _ _ => .int _
@[reducible] def jShl : jR2 := jInt2C (fun i j => 0 ≤ j ∧ j ≤ 1000000 ∧ i.natAbs < 2 ^ 64) fun i j => .int (i * 2 ^ j.toNat)
theorem ojShl : OpJ X (binaryOp .LShift) jShl := oj2C (C := fun i j => 0 ≤ j ∧ j ≤ 1000000 ∧ i.natAbs < 2 ^ 64) op_shl fun _ _ _ => .int _
@[reducible] def jShr : jR2 := jInt2C (fun _ j => 0 ≤ j) fun i j => .int (i / 2 ^ j.toNat)
theorem ojShr : OpJ X (binaryOp .RShift) jShr := oj2C op_shr fun _ _ _ => .int _
@[reducible] def jBand : jR2 := jInt2 fun i j => .int (Builtin.bitAnd i j)
theorem ojBand : OpJ X (binaryOp .BitAnd) jBand := oj2 op_and fun _ _ _ => .int _
@[reducible] def jLt : jR2 := jInt2 fun i j => .bool (decide (i < j))
theorem ojLt : OpJ X (compareOp .Lt) jLt := oj2 op_lt fun _ _ _ => .bl _
@[reducible] def jLe : jR2 := jInt2 fun i j => .bool (decide (i ≤ j))
theorem ojLe : OpJ X (compareOp .LtE) jLe := oj2 op_le fun _ _ _ => .bl _
@[reducible] def jGt : jR2 := jInt2 fun i j => .bool (decide (j < i))
theorem ojGt : OpJ X (compareOp .Gt) jGt := oj2 op_gt fun _ _ _ => .bl _
@[reducible] def jGe : jR2 := jInt2 fun i j => .bool (decide (j ≤ i))
theorem ojGe : OpJ X (compareOp .GtE) jGe := oj2 op_ge fun _ _ _ => .bl _
/-- + of ints, texts, tuples, lists -/
@[reducible] def jAdd : jR2 := fun x y ls Q => match x, y with
  | .d (.int i), .d (.int j) => Q (.d (.int (i + j))) ls
  | .d (.str i), .d (.str j) => i.length + j.length ≤ sizeLine ∧ Q (.d (.str (i ++ j))) ls
  | .d (.tuple a), .d (.tuple b) => (a ≠ [] ∧ b ≠ [] ∧ a.length + b.length ≤ sizeLine) ∧ Q (.d (.tuple (a ++ b))) ls
  | .d (.list a), .d (.list b) => a.length + b.length ≤ sizeLine ∧ (Q (.d (.list (a ++ b))) ls ∨ ∀ p, Q (.a p) ((p, .lst ((a ++ b).map .d)) :: ls))
  | _, _ => False
theorem ojAdd : OpJ X (binaryOp .Add) jAdd := fun E I H ls v w x y Q R rx ry q W k => by
  unfold jAdd at q
  split at q
  · cases rx with | d rx => cases rx; cases ry with | d ry => cases ry; exact ⟨_, op_add, _, _, rfl, rfl, k _ _ (.of R (.d (.int _)) q)⟩
  · cases rx with | d rx => cases rx; cases ry with | d ry => cases ry; exact ⟨_, op_add_str, _, _, rfl, rfl, q.1, k _ _ (.of R (.d (.str _)) q.2)⟩
  · rename_i a b
    cases rx with | d rx => cases ry with | d ry =>
      obtain ⟨a1, xs, rfl, h1, t1⟩ := rx.tupI
      obtain ⟨a2, ys, rfl, h2, t2⟩ := ry.tupI
      have e1 := t1.length
      have e2 := t2.length
      refine ⟨_, op_catT, a1, a2, xs, ys, rfl, rfl, SqT.of (R.sub _ _ h1), SqT.of (R.sub _ _ h2), fun z => ?_, by rw [e1, e2]; exact q.1.2.2, fun z => ?_, fun _ => ?_⟩
      · rw [z] at e1; exact q.1.1 (List.eq_nil_of_length_eq_zero e1.symm)
      · rw [z] at e2; exact absurd (List.eq_nil_of_length_eq_zero e2.symm) q.1.2.1
      · refine newT R (xs := (a ++ b).map .d) (by rw [map_app]; exact t1.rds.append t2.rds) ?_ k
        unfold jNewT; rw [allD_map]; exact q.2
  · rename_i a b
    cases rx with | d rx => cases ry with | d ry =>
      obtain ⟨a1, xs, rfl, h1, t1⟩ := rx.lstI
      obtain ⟨a2, ys, rfl, h2, t2⟩ := ry.lstI
      refine ⟨_, op_cat, a1, a2, xs, ys, rfl, rfl, R.sub _ _ h1, R.sub _ _ h2, by rw [t1.length, t2.length]; exact q.1, ?_⟩
      refine newL R (xs := (a ++ b).map .d) (by rw [map_app]; exact t1.rds.append t2.rds) ?_ k
      rcases q.2 with q | q
      · exact .inl ⟨_, allD_map _, q⟩
      · exact .inr q
  · exact q.elim
/-- * of ints; a list times an int -/
@[reducible] def jMul : jR2 := fun x y ls Q => match x, y with
  | .d (.int i), .d (.int j) => ((-(2 ^ 64) < i ∧ i < 2 ^ 64) ∨ (-(2 ^ 64) < j ∧ j < 2 ^ 64)) ∧ Q (.d (.int (i * j))) ls
  | .d (.list a), .d (.int j) => (j < 2 ^ 63 ∧ -(2 ^ 63) ≤ j ∧ a.length * j.toNat ≤ sizeLine) ∧ (Q (.d (.list (List.replicate j.toNat a).flatten)) ls ∨ ∀ p, Q (.a p) ((p, .lst ((List.replicate j.toNat a).flatten.map .d)) :: ls))
  | _, _ => False
theorem rep_dn {I : Hp} {xs : List V} {ds : List PyData} (h : DnAll I xs ds) : ∀ n, DnAll I (List.replicate n xs).flatten (List.replicate n ds).flatten
  | 0 => .nil
  | n + 1 => by
    rw [List.replicate_succ, List.replicate_succ, List.flatten_cons, List.flatten_cons]
    exact h.append (rep_dn h n)
theorem ojMul : OpJ X (binaryOp .Mult) jMul := fun E I H ls v w x y Q R rx ry q W k => by
  unfold jMul at q
  split at q
  · cases rx with | d rx => cases rx; cases ry with | d ry => cases ry; exact ⟨_, op_mul, _, _, rfl, rfl, q.1, k _ _ (.of R (.d (.int _)) q.2)⟩
  · rename_i a j
    cases rx with | d rx => cases ry with | d ry =>
      cases ry
      obtain ⟨a1, xs, rfl, h1, t1⟩ := rx.lstI
      refine ⟨_, op_rep, a1, j, xs, rfl, rfl, R.sub _ _ h1, q.1.2.1, q.1.1, by rw [t1.length]; exact q.1.2.2, ?_⟩
      refine newL R (xs := (List.replicate j.toNat a).flatten.map .d) (rep_dn t1 _).rds ?_ k
      rcases q.2 with q | q
      · exact .inl ⟨_, allD_map _, q⟩
      · exact .inr q
  · exact q.elim
/-- ==, != of data -/
@[reducible] def jEqv (x y : PyData) : Option Bool := match x, y with
  | .int i, .int j => some (decide (i = j))
  | .str i, .str j => some (decide (i = j))
  | .bool i, .bool j => some (decide (i = j))
  | _, _ => none
@[reducible] def jEq : jR2 := fun x y ls Q => match x, y with
  | .d a, .d b => (match jEqv a b with
    | some k => Q (.d (.bool k)) ls
    | none => (SeqAt.shaped a = true ∧ SeqAt.shaped b = true) ∧ Q (.d (.bool (PyData.eqv a b))) ls)
  | _, _ => False
@[reducible] def jNe : jR2 := fun x y ls Q => match x, y with
  | .d a, .d b => (match jEqv a b with
    | some k => Q (.d (.bool (!k))) ls
    | none => (SeqAt.shaped a = true ∧ SeqAt.shaped b = true) ∧ Q (.d (.bool (!PyData.eqv a b))) ls)
  | _, _ => False
theorem jEqv_some {I : Hp} {v w : V} {a b : PyData} {k : Bool} (h : jEqv a b = some k) (rx : Dn I v a) (ry : Dn I w b) : scal v w = true ∧ decide (v = w) = k := by
  unfold jEqv at h
  split at h
  · cases rx; cases ry; cases h; exact ⟨rfl, by simp⟩
  · cases rx; cases ry; cases h; exact ⟨rfl, by simp⟩
  · cases rx; cases ry; cases h; exact ⟨rfl, by simp⟩
  · cases h
theorem ojEq (hu : X.A.units + 64 < cLine) : OpJ X (compareOp .Eq) jEq := .of fun E I H ls v w x y Q R rx ry q => by
  unfold jEq at q
  split at q
  · cases rx with | d rx => cases ry with | d ry =>
      split at q
      · rename_i k h
        obtain ⟨h1, h2⟩ := jEqv_some h rx ry
        exact ⟨_, op_eq, _, _, fun W h => ⟨h1, h⟩, .d (.bl _), by rw [h2]; exact q⟩
      · exact ⟨_, op_eqD hu, _, _, fun W h => ⟨_, _, rx.dp R.sub, ry.dp R.sub, q.1.1, q.1.2, h⟩, .d (.bl _), q.2⟩
  · exact q.elim
theorem ojNe (hu : X.A.units + 64 < cLine) : OpJ X (compareOp .NotEq) jNe := .of fun E I H ls v w x y Q R rx ry q => by
  unfold jNe at q
  split at q
  · cases rx with | d rx => cases ry with | d ry =>
      split at q
      · rename_i k h
        obtain ⟨h1, h2⟩ := jEqv_some h rx ry
        exact ⟨_, op_ne, _, _, fun W h => ⟨h1, h⟩, .d (.bl _), by rw [h2]; exact q⟩
      · exact ⟨_, op_neD hu, _, _, fun W h => ⟨_, _, rx.dp R.sub, ry.dp R.sub, q.1.1, q.1.2, h⟩, .d (.bl _), q.2⟩
  · exact q.elim
/-- is None -/
@[reducible] def isNon : D -> Bool
  | .d .none => true
  | _ => false
theorem isNon_eq {K : PySem.W.Frag} {I : Hp} {v : V} {x : D} (r : RD K I v x) : decide (v = .non) = isNon x := by
  cases r with
  | d r => cases r <;> simp [isNon]
  | _ => simp [isNon]
@[reducible] def jIs : jR2 := fun x y ls Q => match y with
  | .d .none => Q (.d (.bool (isNon x))) ls
  | _ => False
@[reducible] def jIsNot : jR2 := fun x y ls Q => match y with
  | .d .none => Q (.d (.bool (!isNon x))) ls
  | _ => False
theorem ojIs : OpJ X (compareOp .Is) jIs := .of fun E I H ls v w x y Q R rx ry q => by
  unfold jIs at q
  split at q
  · cases ry with | d ry => cases ry; exact ⟨_, op_isN, _, _, fun W h => ⟨rfl, h⟩, .d (.bl _), by rw [isNon_eq rx]; exact q⟩
  · exact q.elim
theorem ojIsNot : OpJ X (compareOp .IsNot) jIsNot := .of fun E I H ls v w x y Q R rx ry q => by
  unfold jIsNot at q
  split at q
  · cases ry with | d ry => cases ry; exact ⟨_, op_notN, _, _, fun W h => ⟨rfl, h⟩, .d (.bl _), by rw [isNon_eq rx]; exact q⟩
  · exact q.elim
@[reducible] def jNeg : jR1 := fun x ls Q => match x with
  | .d (.int i) => Q (.d (.int (-i))) ls
  | _ => False
theorem ujNeg : UnJ X (unaryOp .USub) jNeg := fun E I H ls v x Q R rx q W k => by
  unfold jNeg at q
  split at q
  · cases rx with | d rx => cases rx; exact ⟨_, un_neg, _, rfl, k _ _ (.of R (.d (.int _)) q)⟩
  · exact q.elim
end

/-! ### tests -/
@[reducible] def jTest (t : jTE) : jTT := fun δ ls Q => t δ ls fun x ls1 => match x with
  | .d (.bool k) => Q k ls1
  | _ => False
@[reducible] def jTru (x : D) (ls : Ls) (Q : Bool -> Ls -> Prop) : Prop := match x with
  | .d .none => Q false ls
  | .d (.bool k) => Q k ls
  | .d (.int i) => Q (i != 0) ls
  | .d (.str s) => s.length ≤ sizeLine ∧ Q ((s.length : Int) != 0) ls
  | .d (.list ds) => Q (!ds.isEmpty) ls
  | .d (.tuple ds) => Q (!ds.isEmpty) ls
  | .a p => ∃ (n : Nat) (xs : List D), ls[n]? = some (p, .lst xs) ∧ Q (!xs.isEmpty) ls
  | _ => False
@[reducible] def jTruth (t : jTE) : jTT := fun δ ls Q => t δ ls fun x ls1 => jTru x ls1 Q
@[reducible] def jAndT (t u : jTT) : jTT := fun δ ls Q => t δ ls fun c ls1 => if c = true then u δ ls1 Q else Q false ls1
@[reducible] def jOrT (t u : jTT) : jTT := fun δ ls Q => t δ ls fun c ls1 => if c = true then Q true ls1 else u δ ls1 Q
@[reducible] def jNotT (t : jTT) : jTT := fun δ ls Q => t δ ls fun c ls1 => Q (!c) ls1
theorem dn_empty {I : Hp} {xs : List V} {ds : List PyData} (h : DnAll I xs ds) : (!xs.isEmpty) = !ds.isEmpty := by cases h <;> rfl
theorem rd_empty {K : PySem.W.Frag} {I : Hp} {xs : List V} {ds : List D} (h : RDs K I xs ds) : (!xs.isEmpty) = !ds.isEmpty := by cases h <;> rfl
section
variable {X : Cx} {a b c : Expr} {ta tb tc : jTE} {pos : Pos} {tA tB tC : jTT} {rest : List Expr}
theorem tru_j {E : Ent} {K : PySem.W.Frag} {I H : Hp} {ls : Ls} {v : V} {x : D} {Q : Bool -> Ls -> Prop} (R : Rel E K I H ls) (r : RD K I v x) (q : jTru x ls Q) : ∃ k, TruV K v H k ∧ Q k ls := by
  unfold jTru at q
  split at q
  · cases r with | d r => cases r; exact ⟨_, rfl, q⟩
  · cases r with | d r => cases r; exact ⟨_, rfl, q⟩
  · cases r with | d r => cases r; exact ⟨_, rfl, q⟩
  · cases r with | d r => cases r; exact ⟨_, ⟨q.1, rfl⟩, q.2⟩
  · cases r with | d r =>
      obtain ⟨a, xs, rfl, h, t⟩ := r.lstI
      exact ⟨_, .inl ⟨xs, SqL.of (R.sub _ _ h), rfl⟩, by rw [dn_empty t]; exact q⟩
  · cases r with | d r =>
      obtain ⟨a, xs, rfl, h, t⟩ := r.tupI
      exact ⟨_, .inr (.inl ⟨xs, SqT.of (R.sub _ _ h), rfl⟩), by rw [dn_empty t]; exact q⟩
  · cases r
    obtain ⟨n, xs, h, q⟩ := q
    obtain ⟨⟨vs, h1, h2⟩, _⟩ := R.find h rfl
    exact ⟨_, .inl ⟨vs, SqL.of h1, rfl⟩, by rw [rd_empty h2]; exact q⟩
  · exact q.elim
theorem ptV (ha : PEJ X a ta) (he : ∀ whole, isTrue a X.env whole = (do let v ← whole; standAt a.pos; holding [v] (truthy v)) := by intro _; rfl) : PTJ X a (jTruth ta) := by
  obtain ⟨t1, p1, j1⟩ := ha
  refine ⟨_, pt_truth p1 he, fun E I H ls σ δ Q R V h W k => ?_⟩
  refine j1 E I H ls σ δ _ R V h _ fun v H1 ⟨I1, ls1, x, R1, s1, r1, q1⟩ => ?_
  obtain ⟨b, h1, h2⟩ := tru_j R1 r1 q1
  exact ⟨b, h1, k b H1 ⟨I1, ls1, R1, s1, h2⟩⟩
theorem ptCmp {op : CmpOp} {r : jR2} (ho : OpJ X (compareOp op) r) (ha : PEJ X a ta) (hb : PEJ X b tb) (hm : behindInMarks op b = false) : PTJ X (.Compare a [op] [b] pos) (jTest (jOp r ta tb)) := by
  obtain ⟨t1, p1, j1⟩ := ha
  obtain ⟨t2, p2, j2⟩ := hb
  refine ⟨_, pt_cmpR opU p1 p2 hm, fun E I H ls σ δ Q R V h W k => ?_⟩
  refine j1 E I H ls σ δ _ R V h _ fun v H1 ⟨I1, ls1, x, R1, s1, r1, q1⟩ => ?_
  refine j2 E I1 H1 ls1 σ δ _ R1 (V.mono s1) q1 _ fun w H2 ⟨I2, ls2, y, R2, s2, r2, q2⟩ => ?_
  refine ho E I2 H2 ls2 v w x y _ R2 (r1.mono s2) r2 q2 _ fun z H3 ⟨I3, ls3, u, R3, s3, r3, q3⟩ => ?_
  dsimp only at q3
  split at q3
  · cases r3 with | d r3 => cases r3; exact ⟨_, rfl, k _ H3 ⟨I3, ls3, R3, (s1.trans s2).trans s3, q3⟩⟩
  · exact q3.elim
theorem pwAnd1 (ha : PTJ X a tA) : PWJ X (.BoolOp .And [a] pos) tA := by obtain ⟨t, p, j⟩ := ha; exact ⟨t, pw_and1 p, j⟩
theorem pwOr1 (ha : PTJ X a tA) : PWJ X (.BoolOp .Or [a] pos) tA := by obtain ⟨t, p, j⟩ := ha; exact ⟨t, pw_or1 p, j⟩
theorem pwAnd (ha : PTJ X a tA) (hb : PWJ X (.BoolOp .And (b :: rest) pos) tB) : PWJ X (.BoolOp .And (a :: b :: rest) pos) (jAndT tA tB) := by
  obtain ⟨t1, p1, j1⟩ := ha
  obtain ⟨t2, p2, j2⟩ := hb
  refine ⟨_, pw_and p1 p2, fun E I H ls σ δ Q R V h W k => ?_⟩
  refine j1 E I H ls σ δ _ R V h _ fun v H1 ⟨I1, ls1, R1, s1, q1⟩ => ?_
  cases v with
  | true => exact j2 E I1 H1 ls1 σ δ Q R1 (V.mono s1) q1 _ fun w H2 ⟨I2, ls2, R2, s2, q2⟩ => k w H2 ⟨I2, ls2, R2, s1.trans s2, q2⟩
  | false => exact k _ _ ⟨I1, ls1, R1, s1, q1⟩
theorem pwOr (ha : PTJ X a tA) (hb : PWJ X (.BoolOp .Or (b :: rest) pos) tB) : PWJ X (.BoolOp .Or (a :: b :: rest) pos) (jOrT tA tB) := by
  obtain ⟨t1, p1, j1⟩ := ha
  obtain ⟨t2, p2, j2⟩ := hb
  refine ⟨_, pw_or p1 p2, fun E I H ls σ δ Q R V h W k => ?_⟩
  refine j1 E I H ls σ δ _ R V h _ fun v H1 ⟨I1, ls1, R1, s1, q1⟩ => ?_
  cases v with
  | false => exact j2 E I1 H1 ls1 σ δ Q R1 (V.mono s1) q1 _ fun w H2 ⟨I2, ls2, R2, s2, q2⟩ => k w H2 ⟨I2, ls2, R2, s1.trans s2, q2⟩
  | true => exact k _ _ ⟨I1, ls1, R1, s1, q1⟩
theorem PWJ.pt (h : PWJ X a tA) : PTJ X a tA := by obtain ⟨t, p, j⟩ := h; exact ⟨t, p.pt, j⟩
theorem ptNot (ha : PTJ X a tA) : PTJ X (.UnaryOp .Not a pos) (jNotT tA) := by
  obtain ⟨t1, p1, j1⟩ := ha
  refine ⟨_, pt_not p1, fun E I H ls σ δ Q R V h W k => ?_⟩
  exact j1 E I H ls σ δ _ R V h _ fun v H1 ⟨I1, ls1, R1, s1, q1⟩ => k _ _ ⟨I1, ls1, R1, s1, q1⟩
/-- and, or, not as values, of bools -/
@[reducible] def jAndV (ta tb : jTE) : jTE := fun δ ls Q => ta δ ls fun x ls1 => match x with
  | .d (.bool c) => if c = true then tb δ ls1 Q else Q (.d (.bool false)) ls1
  | _ => False
@[reducible] def jOrV (ta tb : jTE) : jTE := fun δ ls Q => ta δ ls fun x ls1 => match x with
  | .d (.bool c) => if c = true then Q (.d (.bool true)) ls1 else tb δ ls1 Q
  | _ => False
@[reducible] def jNotV (ta : jTE) : jTE := fun δ ls Q => ta δ ls fun x ls1 => match x with
  | .d (.bool c) => Q (.d (.bool (!c))) ls1
  | _ => False
theorem pjOne {op : BoolOp} (ha : PEJ X a ta) : PEJ X (.BoolOp op [a] pos) ta := by obtain ⟨t, p, j⟩ := ha; exact ⟨t, pe_one p, j⟩
theorem pjAnd (ha : PEJ X a ta) (hb : PEJ X (.BoolOp .And (b :: rest) pos) tb) : PEJ X (.BoolOp .And (a :: b :: rest) pos) (jAndV ta tb) := by
  obtain ⟨t1, p1, j1⟩ := ha
  obtain ⟨t2, p2, j2⟩ := hb
  refine ⟨_, pe_and p1 p2, fun E I H ls σ δ Q R V h W k => ?_⟩
  refine j1 E I H ls σ δ _ R V h _ fun v H1 ⟨I1, ls1, x, R1, s1, r1, q1⟩ => ?_
  dsimp only at q1
  split at q1
  · rename_i c
    cases r1 with | d r1 =>
      cases r1
      refine ⟨c, rfl, ?_⟩
      cases c with
      | true => exact j2 E I1 H1 ls1 σ δ Q R1 (V.mono s1) q1 _ fun w H2 h2 => k w H2 (h2.up s1)
      | false => exact k _ _ ⟨I1, ls1, _, R1, s1, .d (.bl _), q1⟩
  · exact q1.elim
theorem pjOr (ha : PEJ X a ta) (hb : PEJ X (.BoolOp .Or (b :: rest) pos) tb) : PEJ X (.BoolOp .Or (a :: b :: rest) pos) (jOrV ta tb) := by
  obtain ⟨t1, p1, j1⟩ := ha
  obtain ⟨t2, p2, j2⟩ := hb
  refine ⟨_, pe_or p1 p2, fun E I H ls σ δ Q R V h W k => ?_⟩
  refine j1 E I H ls σ δ _ R V h _ fun v H1 ⟨I1, ls1, x, R1, s1, r1, q1⟩ => ?_
  dsimp only at q1
  split at q1
  · rename_i c
    cases r1 with | d r1 =>
      cases r1
      refine ⟨c, rfl, ?_⟩
      cases c with
      | false => exact j2 E I1 H1 ls1 σ δ Q R1 (V.mono s1) q1 _ fun w H2 h2 => k w H2 (h2.up s1)
      | true => exact k _ _ ⟨I1, ls1, _, R1, s1, .d (.bl _), q1⟩
  · exact q1.elim
theorem pjNot (ha : PEJ X a ta) : PEJ X (.UnaryOp .Not a pos) (jNotV ta) := by
  obtain ⟨t1, p1, j1⟩ := ha
  refine ⟨_, pe_not p1, fun E I H ls σ δ Q R V h W k => ?_⟩
  refine j1 E I H ls σ δ _ R V h _ fun v H1 ⟨I1, ls1, x, R1, s1, r1, q1⟩ => ?_
  dsimp only at q1
  split at q1
  · cases r1 with | d r1 => cases r1; exact ⟨_, rfl, k _ _ ⟨I1, ls1, _, R1, s1, .d (.bl _), q1⟩⟩
  · exact q1.elim
@[reducible] def jIfE (t : jTT) (ta tb : jTE) : jTE := fun δ ls Q => t δ ls fun c ls1 => if c = true then ta δ ls1 Q else tb δ ls1 Q
theorem pjIf (hc : PTJ X c tA) (ha : PEJ X a ta) (hb : PEJ X b tb) : PEJ X (.IfExp c a b pos) (jIfE tA ta tb) := by
  obtain ⟨t0, p0, j0⟩ := hc
  obtain ⟨t1, p1, j1⟩ := ha
  obtain ⟨t2, p2, j2⟩ := hb
  refine ⟨_, pe_ifExp p0 p1 p2, fun E I H ls σ δ Q R V h W k => ?_⟩
  refine j0 E I H ls σ δ _ R V h _ fun v H1 ⟨I1, ls1, R1, s1, q1⟩ => ?_
  cases v with
  | true => exact j1 E I1 H1 ls1 σ δ Q R1 (V.mono s1) q1 _ fun w H2 h2 => k w H2 (h2.up s1)
  | false => exact j2 E I1 H1 ls1 σ δ Q R1 (V.mono s1) q1 _ fun w H2 h2 => k w H2 (h2.up s1)
/-- a < b < c -/
@[reducible] def jChain (r r' : jR2) (ta tb tc : jTE) : jTE := fun δ ls Q => ta δ ls fun x ls1 => tb δ ls1 fun y ls2 => r x y ls2 fun z ls3 => match z with
  | .d (.bool k) => if k = true then tc δ ls3 fun w ls4 => r' y w ls4 Q else Q (.d (.bool false)) ls3
  | _ => False
theorem je_chain {t1 t2 t3 : TE} {op op' : CmpOp} {r r' : jR2} (ho : OpJ X (compareOp op) r) (ho' : OpJ X (compareOp op') r') (j1 : JE X.K t1 ta) (j2 : JE X.K t2 tb) (j3 : JE X.K t3 tc) :
    JE X.K (tChain (fun x y H Q => ∃ r, OpR X (compareOp op) r ∧ r x y H Q) (fun x y H Q => ∃ r, OpR X (compareOp op') r ∧ r x y H Q) t1 t2 t3) (jChain r r' ta tb tc) := by
  intro E I H ls σ δ Q R V h W k
  refine j1 E I H ls σ δ _ R V h _ fun v H1 ⟨I1, ls1, x, R1, s1, r1, q1⟩ => ?_
  refine j2 E I1 H1 ls1 σ δ _ R1 (V.mono s1) q1 _ fun w H2 ⟨I2, ls2, y, R2, s2, r2, q2⟩ => ?_
  refine ho E I2 H2 ls2 v w x y _ R2 (r1.mono s2) r2 q2 _ fun z H3 ⟨I3, ls3, u, R3, s3, r3, q3⟩ => ?_
  dsimp only at q3
  split at q3
  · rename_i c
    cases r3 with | d r3 =>
      cases r3
      refine ⟨c, rfl, ?_⟩
      cases c with
      | true =>
        refine j3 E I3 H3 ls3 σ δ _ R3 (V.mono ((s1.trans s2).trans s3)) q3 _ fun w' H4 ⟨I4, ls4, y', R4, s4, r4, q4⟩ => ?_
        exact ho' E I4 H4 ls4 w w' y y' Q R4 (r2.mono (s3.trans s4)) r4 q4 _ fun z H5 h5 => k z H5 (h5.up (((s1.trans s2).trans s3).trans s4))
      | false => exact k _ _ ⟨I3, ls3, _, R3, (s1.trans s2).trans s3, .d (.bl _), q3⟩
  · exact q3.elim
theorem pjChain {op op' : CmpOp} {r r' : jR2} (ho : OpJ X (compareOp op) r) (ho' : OpJ X (compareOp op') r') (ha : PEJ X a ta) (hb : PEJ X b tb) (hc : PEJ X c tc) (hm : lastMarks [op, op'] [b, c] = false := by with_unfolding_all rfl) : PEJ X (.Compare a [op, op'] [b, c] pos) (jChain r r' ta tb tc) := by
  obtain ⟨t1, p1, j1⟩ := ha
  obtain ⟨t2, p2, j2⟩ := hb
  obtain ⟨t3, p3, j3⟩ := hc
  exact ⟨_, pe_chain opU opU p1 p2 p3 hm, je_chain ho ho' j1 j2 j3⟩
theorem ptChain {op op' : CmpOp} {r r' : jR2} (ho : OpJ X (compareOp op) r) (ho' : OpJ X (compareOp op') r') (ha : PEJ X a ta) (hb : PEJ X b tb) (hc : PEJ X c tc) (hm : lastMarks [op, op'] [b, c] = false := by with_unfolding_all rfl) : PTJ X (.Compare a [op, op'] [b, c] pos) (jTest (jChain r r' ta tb tc)) := by
  obtain ⟨t1, p1, j1⟩ := ha
  obtain ⟨t2, p2, j2⟩ := hb
  obtain ⟨t3, p3, j3⟩ := hc
  refine ⟨_, pt_chain opU opU p1 p2 p3 hm, fun E I H ls σ δ Q R V h W k => ?_⟩
  refine je_chain ho ho' j1 j2 j3 E I H ls σ δ _ R V h _ fun v H1 ⟨I1, ls1, x, R1, s1, r1, q1⟩ => ?_
  dsimp only at q1
  split at q1
  · cases r1 with | d r1 => cases r1; exact ⟨_, rfl, k _ _ ⟨I1, ls1, R1, s1, q1⟩⟩
  · exact q1.elim
end
end J

/-! J2: places, displays, calls over data. -/
namespace J
open PySem PySem.Spec PyProof.Rows L2

/-! ### tables -/
section
variable {κ α : Type} [DecidableEq κ]
/-- what a table holds at a key -/
def gV (kvs : List (κ × α)) (k : κ) : Option α := (kvs.find? fun kv => decide (kv.1 = k)).map (·.2)
/-- a key put in -/
def gP (kvs : List (κ × α)) (k : κ) (v : α) : List (κ × α) :=
  if (gV kvs k).isSome = true then kvs.map (fun kv => if kv.1 = k then (kv.1, v) else kv) else kvs ++ [(k, v)]
end
section
variable {κ : Type} [DecidableEq κ] {K : PySem.W.Frag} {I : Hp}
theorem kv_get {vs : List (κ × V)} {kvs : List (κ × D)} (r : KvR K I vs kvs) (k : κ) : (valV vs k = none ∧ gV kvs k = none) ∨ ∃ v x, valV vs k = some v ∧ gV kvs k = some x ∧ RD K I v x := by
  induction r with
  | nil => exact .inl ⟨rfl, rfl⟩
  | @cons a b as bs h t ih =>
    obtain ⟨e, rd⟩ := h
    by_cases c : a.1 = k
    · have c' : b.1 = k := by rw [← e]; exact c
      exact .inr ⟨a.2, b.2, valV_pos c, by simp [gV, List.find?_cons, c'], rd⟩
    · have c' : ¬ b.1 = k := by rw [← e]; exact c
      rw [valV_neg c, show gV (b :: bs) k = gV bs k by simp [gV, List.find?_cons, c']]
      exact ih
theorem kv_some {vs : List (κ × V)} {kvs : List (κ × D)} (r : KvR K I vs kvs) {k : κ} {x : D} (h : gV kvs k = some x) : ∃ v, valV vs k = some v ∧ RD K I v x := by
  rcases kv_get r k with ⟨_, b⟩ | ⟨v, y, a, b, c⟩
  · rw [b] at h; cases h
  · rw [b] at h; cases h; exact ⟨v, a, c⟩
theorem kv_is {vs : List (κ × V)} {kvs : List (κ × D)} (r : KvR K I vs kvs) (k : κ) : (valV vs k).isSome = (gV kvs k).isSome := by
  rcases kv_get r k with ⟨a, b⟩ | ⟨v, y, a, b, c⟩ <;> rw [a, b] <;> rfl
theorem kv_len {vs : List (κ × V)} {kvs : List (κ × D)} (r : KvR K I vs kvs) : vs.length = kvs.length := Paired.length r
theorem kv_snoc {vs : List (κ × V)} {kvs : List (κ × D)} (r : KvR K I vs kvs) {k : κ} {v : V} {x : D} (h : RD K I v x) : KvR K I (vs ++ [(k, v)]) (kvs ++ [(k, x)]) := by
  induction r with
  | nil => exact .cons ⟨rfl, h⟩ .nil
  | cons a t ih => exact .cons a ih
theorem kv_map {vs : List (κ × V)} {kvs : List (κ × D)} (r : KvR K I vs kvs) {k : κ} {v : V} {x : D} (h : RD K I v x) : KvR K I (vs.map fun kv => if kv.1 = k then (kv.1, v) else kv) (kvs.map fun kv => if kv.1 = k then (kv.1, x) else kv) := by
  induction r with
  | nil => exact .nil
  | @cons a b as bs q t ih =>
    refine .cons ?_ ih
    obtain ⟨e, rd⟩ := q
    dsimp only
    by_cases c : a.1 = k
    · rw [if_pos c, if_pos (show b.1 = k by rw [← e]; exact c)]; exact ⟨e, h⟩
    · rw [if_neg c, if_neg (show ¬ b.1 = k by rw [← e]; exact c)]; exact ⟨e, rd⟩
theorem kv_put {vs : List (κ × V)} {kvs : List (κ × D)} (r : KvR K I vs kvs) {k : κ} {v : V} {x : D} (h : RD K I v x) : KvR K I (putK vs k v) (gP kvs k x) := by
  unfold putK gP
  rw [valV_any, kv_is r]
  split
  · exact kv_map r h
  · exact kv_snoc r h
theorem kv_drop {vs : List (κ × V)} {kvs : List (κ × D)} (r : KvR K I vs kvs) (k : κ) : KvR K I (dropK vs k) (kvs.filter fun kv => decide (kv.1 ≠ k)) := by
  unfold dropK
  induction r with
  | nil => exact .nil
  | @cons a b as bs q t ih =>
    obtain ⟨e, rd⟩ := q
    by_cases c : a.1 = k
    · rw [List.filter_cons_of_neg (by simpa using c), List.filter_cons_of_neg (by rw [← e]; simpa using c)]; exact ih
    · rw [List.filter_cons_of_pos (by simpa using c), List.filter_cons_of_pos (by rw [← e]; simpa using c)]; exact .cons ⟨e, rd⟩ ih
end

/-! ### keys -/
@[reducible] def keyD : PyData -> Option Key
  | .int i => some (.inl i)
  | .str s => some (.inr s)
  | _ => none
@[reducible] def keysD : List PyData -> Option (List Key)
  | [] => some []
  | x :: r => match keyD x, keysD r with
    | some k, some ks => some (k :: ks)
    | _, _ => none
theorem keyD_v {I : Hp} {v : V} {x : PyData} {k : Key} (h : keyD x = some k) (r : Dn I v x) : v = kV k := by
  unfold keyD at h
  split at h
  · cases h; cases r; rfl
  · cases h; cases r; rfl
  · cases h
theorem keysD_v {I : Hp} : ∀ {vs : List V} {xs : List PyData} {ks : List Key}, keysD xs = some ks -> DnAll I vs xs -> vs = ks.map kV
  | _, [], _, h, .nil => by simp [keysD] at h; subst h; rfl
  | _, x :: r, ks, h, .cons a t => by
    unfold keysD at h
    split at h
    · rename_i k ks' h1 h2
      cases h
      rw [keyD_v h1 a, keysD_v h2 t]; rfl
    · cases h

/-! ### places -/
section
variable {X : Cx}
def rIxD : R2 := fun x y H Q => ∃ a v, x = .ref a ∧ DGet H a y (some v) ∧ Q v H
theorem ix_dct (hu : X.A.units + 1 < cLine) : IxR X rIxD := by
  intro value slice pins s σ H x y v u Q I rx ry h hs
  obtain ⟨a, z, rfl, g, q⟩ := h
  cases (show v = Value.ref a from rx)
  have ty := dict_typeIs I g
  have go : wpAny (model X.prog X.w) X.A (getItem (.ref a) u) (EP X pins σ Q) X.xe s := d_getItem hu I g ry fun w' s3 I3 rw' => ⟨z, H, I3, rw', q⟩
  unfold subscriptTail
  refine wpAny_bind ?_
  rw [getitemInPython_of_ne ty.not_modules]
  refine wpAny_bind (wpAny_specialOf ty PySem.F.slot_dict_getitem.lookup ?_)
  have last : wpAny (model X.prog X.w) X.A (subscripted slice false (.ref a) u) (fun r s3 => wpAny (model X.prog X.w) X.A (letTemporaryGo value (.ref a) r >>= fun _ => pure r) (EP X pins σ Q) X.xe s3) X.xe s := by
    rw [hs]
    refine wpAny_operating (wpAny_mono go (fun r s3 h3 => ?_) fun _ _ z => z)
    exact wpAny_bind (wpAny_letTemporaryGo (wpAny_pure h3))
  first
    | exact wpAny_pure (wpAny_bind last)
    | exact wpAny_bind (wpAny_pure (wpAny_bind last))

@[reducible] def jIxL (l : LO) (y : D) (ls : Ls) (Q : D -> Ls -> Prop) : Prop := match l, y with
  | .lst xs, .d (.int i) => ∃ v, atI xs i = some v ∧ Q v ls
  | .dct kvs, .d (.tuple ks) => ∃ k v, keysD ks = some k ∧ gV kvs k = some v ∧ Q v ls
  | .dctL _ _ kvs, .d (.tuple ks) => ∃ k v, keysD ks = some k ∧ gV kvs k = some v ∧ Q v ls
  | .dki kvs, .d y => ∃ k v, keyD y = some k ∧ gV kvs k = some v ∧ Q v ls
  | .dkiL _ _ kvs, .d y => ∃ k v, keyD y = some k ∧ gV kvs k = some v ∧ Q v ls
  | _, _ => False
/-- x[y] -/
@[reducible] def jIx : jR2 := fun x y ls Q => match x, y with
  | .d (.list ds), .d (.int i) => ∃ v, atI ds i = some v ∧ Q (.d v) ls
  | .d (.tuple ds), .d (.int i) => ∃ v, atI ds i = some v ∧ Q (.d v) ls
  | .d (.str z), .d (.int i) => z.length ≤ sizeLine ∧ ∃ c, atI z.cps.toList i = some c ∧ Q (.d (.str ⟨#[c]⟩)) ls
  | .t xs, .d (.int i) => ∃ v, atI xs i = some v ∧ Q v ls
  | .scr ns, .d (.int i) => ∃ v, atI ns i = some v ∧ Q (.d (.int v)) ls
  | .a p, y => ∃ (n : Nat) (l : LO), ls[n]? = some (p, l) ∧ jIxL l y ls Q
  | _, _ => False
theorem atI_dn {I : Hp} {vs : List V} {ds : List PyData} {i : Int} {x : PyData} (t : DnAll I vs ds) (h : atI ds i = some x) : ∃ v, atI vs i = some v ∧ Dn I v x := by
  unfold atI at h ⊢
  rw [t.length]
  cases e : ixN ds.length i with
  | none => rw [e] at h; cases h
  | some j =>
    rw [e] at h
    obtain ⟨v, a, b⟩ := (t.rds (K := default) : RDs default I vs (ds.map .d)).get (i := j) (x := .d x) (by rw [List.getElem?_map]; have h : ds[j]? = some x := h; rw [h]; rfl)
    cases b with | d b => exact ⟨v, a, b⟩
theorem atI_rd {K : PySem.W.Frag} {I : Hp} {vs : List V} {ds : List D} {i : Int} {x : D} (t : RDs K I vs ds) (h : atI ds i = some x) : ∃ v, atI vs i = some v ∧ RD K I v x := by
  unfold atI at h ⊢
  rw [t.length]
  cases e : ixN ds.length i with
  | none => rw [e] at h; cases h
  | some j =>
    rw [e] at h
    exact t.get h
theorem atI_map {α β : Type} (f : α -> β) (xs : List α) (i : Int) : atI (xs.map f) i = (atI xs i).map f := by
  unfold atI
  rw [List.length_map]
  cases ixN xs.length i with
  | none => rfl
  | some j => simp
theorem dt_get {K : PySem.W.Frag} {I H : Hp} {p : Addr} {y : V} {ks : List PyData} {k : List Key} {vs : List (List Key × V)} {kvs : List (List Key × D)} {E : Ent} {ls : Ls} (R : Rel E K I H ls)
    (rd : Rd H p (.dT vs)) (r : KvR K I vs kvs) (ry : RD K I y (.d (.tuple ks))) (hk : keysD ks = some k) : DGet H p y (valV vs k) := by
  cases ry with | d ry =>
    obtain ⟨b, xs, rfl, h, t⟩ := ry.tupI
    exact .inr ⟨vs, k, b, rd, rfl, by rw [← keysD_v hk t]; exact R.sub _ _ h, rfl⟩
theorem ixJ (hu : X.A.units + 1 < cLine) : IxJ X jIx := fun E I H ls v w x y Q R rx ry q W k => by
  unfold jIx at q
  split at q
  · cases rx with | d rx => cases ry with | d ry =>
      cases ry
      obtain ⟨z, h, q⟩ := q
      obtain ⟨a, xs, rfl, h1, t⟩ := rx.lstI
      obtain ⟨u, e1, e2⟩ := atI_dn t h
      exact ⟨_, ix_list, _, _, _, _, rfl, rfl, SqL.of (R.sub _ _ h1), e1, k _ _ (.of R (.d e2) q)⟩
  · cases rx with | d rx => cases ry with | d ry =>
      cases ry
      obtain ⟨z, h, q⟩ := q
      obtain ⟨a, xs, rfl, h1, t⟩ := rx.tupI
      obtain ⟨u, e1, e2⟩ := atI_dn t h
      exact ⟨_, ix_tup, _, _, _, _, rfl, rfl, SqT.of (R.sub _ _ h1), e1, k _ _ (.of R (.d e2) q)⟩
  · cases rx with | d rx => cases rx; cases ry with | d ry =>
      cases ry
      obtain ⟨hl, c, h, q⟩ := q
      exact ⟨_, ix_str, _, _, _, rfl, rfl, hl, h, k _ _ (.of R (.d (.str _)) q)⟩
  · cases ry with | d ry =>
      cases ry
      obtain ⟨z, h, q⟩ := q
      cases rx with | t h1 t =>
        obtain ⟨u, e1, e2⟩ := atI_rd t h
        exact ⟨_, ix_tup, _, _, _, _, rfl, rfl, sqt_mono R.sub h1, e1, k _ _ (.of R e2 q)⟩
  · cases ry with | d ry =>
      cases ry
      obtain ⟨z, h, q⟩ := q
      cases rx with | scr h1 =>
        exact ⟨_, ix_list, _, _, _, _, rfl, rfl, R.sub.seq h1, by rw [atI_map, h]; rfl, k _ _ (.of R (.d (.int _)) q)⟩
  · obtain ⟨n, l, hn, q⟩ := q
    cases rx
    rename_i p
    unfold jIxL at q
    split at q
    · obtain ⟨z, h, q⟩ := q
      obtain ⟨⟨vs, h1, h2⟩, _⟩ := R.find hn rfl
      obtain ⟨u, e1, e2⟩ := atI_rd h2 h
      cases ry with | d ry => cases ry; exact ⟨_, ix_list, _, _, _, _, rfl, rfl, SqL.of h1, e1, k _ _ (.of R e2 q)⟩
    · obtain ⟨kk, z, hk, hz, q⟩ := q
      obtain ⟨⟨vs, h1, h2⟩, _⟩ := R.find hn rfl
      obtain ⟨u, e1, e2⟩ := kv_some h2 hz
      exact ⟨_, ix_dct hu, p, u, rfl, by rw [← e1]; exact dt_get R (.inl h1) h2 ry hk, k _ _ (.of R e2 q)⟩
    · obtain ⟨kk, z, hk, hz, q⟩ := q
      obtain ⟨⟨h1, h2⟩, _⟩ := R.find hn rfl
      obtain ⟨u, e1, e2⟩ := kv_some h2 hz
      exact ⟨_, ix_dct hu, p, u, rfl, by rw [← e1]; exact dt_get R (.inr ⟨_, h1⟩) h2 ry hk, k _ _ (.of R e2 q)⟩
    · obtain ⟨kk, z, hk, hz, q⟩ := q
      obtain ⟨⟨vs, h1, h2⟩, _⟩ := R.find hn rfl
      obtain ⟨u, e1, e2⟩ := kv_some h2 hz
      cases ry with | d ry => exact ⟨_, ix_dct hu, p, u, rfl, .inl ⟨vs, kk, .inl h1, keyD_v hk ry, e1.symm⟩, k _ _ (.of R e2 q)⟩
    · obtain ⟨kk, z, hk, hz, q⟩ := q
      obtain ⟨⟨h1, h2⟩, _⟩ := R.find hn rfl
      obtain ⟨u, e1, e2⟩ := kv_some h2 hz
      cases ry with | d ry => exact ⟨_, ix_dct hu, p, u, rfl, .inl ⟨_, kk, .inr ⟨_, h1⟩, keyD_v hk ry, e1.symm⟩, k _ _ (.of R e2 q)⟩
    · exact q.elim
  · exact q.elim
theorem pjIx {r : jR2} {a b : Expr} {ta tb : jTE} {pos : Pos} (hr : IxJ X r) (ha : PEJ X a ta) (hb : PEJ X b tb) (hs : PlainIx b := by exact fun _ _ => rfl) : PEJ X (.Subscript a b pos) (jOp r ta tb) := by
  obtain ⟨t1, p1, j1⟩ := ha
  obtain ⟨t2, p2, j2⟩ := hb
  refine ⟨_, pe_ix ixU p1 p2 hs, fun E I H ls σ δ Q R V h W k => ?_⟩
  refine j1 E I H ls σ δ _ R V h _ fun v H1 ⟨I1, ls1, x, R1, s1, r1, q1⟩ => ?_
  refine j2 E I1 H1 ls1 σ δ _ R1 (V.mono s1) q1 _ fun w H2 ⟨I2, ls2, y, R2, s2, r2, q2⟩ => ?_
  exact hr E I2 H2 ls2 v w x y Q R2 (r1.mono s2) r2 q2 _ fun z H3 h3 => k z H3 (h3.up (s1.trans s2))

/-! ### in -/
theorem op_in_dct (hu : X.A.units + 1 < cLine) : OpR X (compareOp .In) (fun x y H Q => ∃ a o, y = .ref a ∧ DGet H a x o ∧ Q (.bl o.isSome) H) := by
  intro pins s σ H x y v u Q I rx ry h
  obtain ⟨a, o, rfl, g, q⟩ := h
  cases (show u = Value.ref a from ry)
  exact d_in hu I g rx fun s3 I3 => ⟨.bl o.isSome, H, I3, rfl, q⟩
theorem op_notIn_dct (hu : X.A.units + 1 < cLine) : OpR X (compareOp .NotIn) (fun x y H Q => ∃ a o, y = .ref a ∧ DGet H a x o ∧ Q (.bl (!o.isSome)) H) := by
  intro pins s σ H x y v u Q I rx ry h
  obtain ⟨a, o, rfl, g, q⟩ := h
  cases (show u = Value.ref a from ry)
  exact d_notIn hu I g rx fun s3 I3 => ⟨.bl (!o.isSome), H, I3, rfl, q⟩
@[reducible] def isFlat : PyData -> Bool
  | .list _ => false
  | .tuple _ => false
  | .dict _ => false
  | _ => true
/-- what x in y is -/
@[reducible] def inD (x : D) (y : D) (ls : Ls) (b : Bool) : Prop := match x, y with
  | .d (.str i), .d (.str j) => b = !(Builtin.Str.occurrences j i 0 j.length 1).isEmpty
  | .d x, .d (.tuple ds) => (isFlat x = true ∧ ds.all isFlat = true) ∧ b = ds.any fun z => PyData.eqv z x
  | .d x, .d (.list ds) => (SeqAt.shaped x = true ∧ SeqAt.shaped (.list ds) = true) ∧ b = ds.any fun z => PyData.eqv z x
  | .d x, .a p => ∃ (n : Nat) (l : LO), ls[n]? = some (p, l) ∧ (match l, x with
    | .dct kvs, .tuple ks => ∃ k, keysD ks = some k ∧ b = (gV kvs k).isSome
    | .dctL _ _ kvs, .tuple ks => ∃ k, keysD ks = some k ∧ b = (gV kvs k).isSome
    | .dki kvs, x => ∃ k, keyD x = some k ∧ b = (gV kvs k).isSome
    | .dkiL _ _ kvs, x => ∃ k, keyD x = some k ∧ b = (gV kvs k).isSome
    | _, _ => False)
  | _, _ => False
@[reducible] def jIn : jR2 := fun x y ls Q => ∃ b, inD x y ls b ∧ Q (.d (.bool b)) ls
@[reducible] def jNotIn : jR2 := fun x y ls Q => ∃ b, inD x y ls b ∧ Q (.d (.bool (!b))) ls
theorem flat_eqv {I : Hp} {v w : V} {a b : PyData} (rx : Dn I v a) (ry : Dn I w b) (fa : isFlat a = true) (fb : isFlat b = true) : eqV v w = PyData.eqv a b ∧ flatV v = true ∧ flatV w = true := by
  cases rx <;> cases ry <;> first | (simp [isFlat] at fa; done) | (simp [isFlat] at fb; done) | (refine ⟨?_, rfl, rfl⟩; first | rfl | (simp [eqV, PyData.eqv]))
theorem flat_any {I : Hp} {x : V} {d : PyData} (rx : Dn I x d) (fd : isFlat d = true) : ∀ {vs : List V} {ds : List PyData}, DnAll I vs ds -> ds.all isFlat = true -> inV x vs = (ds.any fun z => PyData.eqv z d) ∧ vs.all flatV = true
  | _, _, .nil, _ => ⟨rfl, rfl⟩
  | _, _, .cons a t, h => by
    simp only [List.all_cons, Bool.and_eq_true] at h
    obtain ⟨h1, h2⟩ := flat_any rx fd t h.2
    obtain ⟨e1, e2, _⟩ := flat_eqv a rx h.1 fd
    unfold inV at h1 ⊢
    simp only [List.any_cons, List.all_cons]
    rw [e1, e2, h1, h2]
    exact ⟨rfl, rfl⟩
theorem flat_v {I : Hp} {v : V} {a : PyData} (rx : Dn I v a) (fa : isFlat a = true) : flatV v = true := by
  cases rx <;> first | (simp [isFlat] at fa; done) | rfl
theorem in_run (hu : X.A.units + 65 < cLine) {E : Ent} {I H : Hp} {ls : Ls} {v w : V} {x y : D} {b : Bool} (R : Rel E X.K I H ls) (rx : RD X.K I v x) (ry : RD X.K I w y) (h : inD x y ls b) :
    (∃ r0, OpR X (compareOp .In) r0 ∧ ∀ W : VK, W (.bl b) H -> r0 v w H W) ∧ (∃ r0, OpR X (compareOp .NotIn) r0 ∧ ∀ W : VK, W (.bl (!b)) H -> r0 v w H W) := by
  unfold inD at h
  split at h
  · cases rx with | d rx => cases rx; cases ry with | d ry => cases ry; subst h; exact ⟨⟨_, op_in_str, fun W h => ⟨_, _, rfl, rfl, h⟩⟩, ⟨_, op_notIn_str, fun W h => ⟨_, _, rfl, rfl, h⟩⟩⟩
  · cases rx with | d rx => cases ry with | d ry =>
      obtain ⟨a, xs, rfl, h1, t⟩ := ry.tupI
      obtain ⟨e1, e2⟩ := flat_any rx h.1.1 t h.1.2
      have fx := flat_v rx h.1.1
      obtain ⟨_, h⟩ := h
      subst h
      rw [← e1]
      exact ⟨⟨_, op_in_seq, fun W h => ⟨_, _, rfl, .inr (SqT.of (R.sub _ _ h1)), fx, e2, h⟩⟩, ⟨_, op_notIn_seq, fun W h => ⟨_, _, rfl, .inr (SqT.of (R.sub _ _ h1)), fx, e2, h⟩⟩⟩
  · cases rx with | d rx => cases ry with | d ry =>
      obtain ⟨⟨s1, s2⟩, h⟩ := h
      subst h
      exact ⟨⟨_, op_inD hu, fun W h => ⟨_, _, rx.dp R.sub, ry.dp R.sub, s1, s2, h⟩⟩, ⟨_, op_notInD hu, fun W h => ⟨_, _, rx.dp R.sub, ry.dp R.sub, s1, s2, h⟩⟩⟩
  · obtain ⟨n, l, hn, h⟩ := h
    have hu1 : X.A.units + 1 < cLine := by omega
    cases ry
    split at h
    · obtain ⟨k, hk, h⟩ := h
      obtain ⟨⟨vs, h1, h2⟩, _⟩ := R.find hn rfl
      have g := dt_get R (.inl h1) h2 rx hk
      subst h
      rw [← kv_is h2]
      exact ⟨⟨_, op_in_dct hu1, fun W h => ⟨_, _, rfl, g, h⟩⟩, ⟨_, op_notIn_dct hu1, fun W h => ⟨_, _, rfl, g, h⟩⟩⟩
    · obtain ⟨k, hk, h⟩ := h
      obtain ⟨⟨h1, h2⟩, _⟩ := R.find hn rfl
      have g := dt_get R (.inr ⟨_, h1⟩) h2 rx hk
      subst h
      rw [← kv_is h2]
      exact ⟨⟨_, op_in_dct hu1, fun W h => ⟨_, _, rfl, g, h⟩⟩, ⟨_, op_notIn_dct hu1, fun W h => ⟨_, _, rfl, g, h⟩⟩⟩
    · obtain ⟨k, hk, h⟩ := h
      obtain ⟨⟨vs, h1, h2⟩, _⟩ := R.find hn rfl
      cases rx with | d rx =>
        have g : DGet H _ v (valV vs k) := .inl ⟨vs, k, .inl h1, keyD_v hk rx, rfl⟩
        subst h
        rw [← kv_is h2]
        exact ⟨⟨_, op_in_dct hu1, fun W h => ⟨_, _, rfl, g, h⟩⟩, ⟨_, op_notIn_dct hu1, fun W h => ⟨_, _, rfl, g, h⟩⟩⟩
    · obtain ⟨k, hk, h⟩ := h
      obtain ⟨⟨h1, h2⟩, _⟩ := R.find hn rfl
      cases rx with | d rx =>
        have g : DGet H _ v _ := .inl ⟨_, k, .inr ⟨_, h1⟩, keyD_v hk rx, rfl⟩
        subst h
        rw [← kv_is h2]
        exact ⟨⟨_, op_in_dct hu1, fun W h => ⟨_, _, rfl, g, h⟩⟩, ⟨_, op_notIn_dct hu1, fun W h => ⟨_, _, rfl, g, h⟩⟩⟩
    · exact h.elim
  · exact h.elim
theorem ojIn (hu : X.A.units + 65 < cLine) : OpJ X (compareOp .In) jIn := fun E I H ls v w x y Q R rx ry q W k => by
  obtain ⟨b, h, q⟩ := q
  obtain ⟨⟨r0, h1, h2⟩, _⟩ := in_run hu R rx ry h
  exact ⟨r0, h1, h2 W (k _ _ (.of R (.d (.bl _)) q))⟩
theorem ojNotIn (hu : X.A.units + 65 < cLine) : OpJ X (compareOp .NotIn) jNotIn := fun E I H ls v w x y Q R rx ry q W k => by
  obtain ⟨b, h, q⟩ := q
  obtain ⟨_, r0, h1, h2⟩ := in_run hu R rx ry h
  exact ⟨r0, h1, h2 W (k _ _ (.of R (.d (.bl _)) q))⟩
end

/-! ### argument lists, displays -/
@[reducible] def jNil : jTA := fun _ ls Q => Q [] ls
@[reducible] def jCons (ta : jTE) (tr : jTA) : jTA := fun δ ls Q => ta δ ls fun x ls1 => tr δ ls1 fun xs ls2 => Q (x :: xs) ls2
@[reducible] def jTup (ta : jTA) : jTE := fun δ ls Q => ta δ ls fun xs ls1 => xs.length ≤ sizeLine ∧ jNewT xs ls1 Q
@[reducible] def jLst (ta : jTA) : jTE := fun δ ls Q => ta δ ls fun xs ls1 => xs.length ≤ sizeLine ∧ jNewL xs ls1 Q
section
variable {X : Cx} {e : Expr} {es : List Expr} {te : jTE} {t : jTA} {pos : Pos}
theorem paNil : PAJ X [] jNil := ⟨_, pa_nil, fun E I H ls σ δ Q R V h W k => k _ _ ⟨I, ls, [], R, Same.refl I, .nil, h⟩⟩
theorem paCons (ha : PEJ X e te) (hr : PAJ X es t) (hs : starEach (e :: es) X.env = (false, eval e X.env) :: starEach es X.env := by rfl) : PAJ X (e :: es) (jCons te t) := by
  obtain ⟨t1, p1, j1⟩ := ha
  obtain ⟨t2, p2, j2⟩ := hr
  refine ⟨_, pa_cons p1 p2 hs, fun E I H ls σ δ Q R V h W k => ?_⟩
  refine j1 E I H ls σ δ _ R V h _ fun v H1 ⟨I1, ls1, x, R1, s1, r1, q1⟩ => ?_
  exact j2 E I1 H1 ls1 σ δ _ R1 (V.mono s1) q1 _ fun w H2 ⟨I2, ls2, y, R2, s2, r2, q2⟩ => k _ _ ⟨I2, ls2, _, R2, s1.trans s2, .cons (r1.mono s2) r2, q2⟩
theorem pjTup {x1} (h : PAJ X es t) : PEJ X (.Tuple es x1 pos) (jTup t) := by
  obtain ⟨t1, p1, j1⟩ := h
  refine ⟨_, pe_tup p1, fun E I H ls σ δ Q R V h W k => ?_⟩
  refine j1 E I H ls σ δ _ R V h _ fun v H1 ⟨I1, ls1, x, R1, s1, r1, q1⟩ => ?_
  exact ⟨by rw [r1.length]; exact q1.1, newT R1 r1 q1.2 fun z H' h => k z H' (h.up s1)⟩
theorem pjLst (h : PAJ X es t) : PEJ X (.List es pos) (jLst t) := by
  obtain ⟨t1, p1, j1⟩ := h
  refine ⟨_, pe_lst p1, fun E I H ls σ δ Q R V h W k => ?_⟩
  refine j1 E I H ls σ δ _ R V h _ fun v H1 ⟨I1, ls1, x, R1, s1, r1, q1⟩ => ?_
  exact ⟨by rw [r1.length]; exact q1.1, newL R1 r1 q1.2 fun z H' h => k z H' (h.up s1)⟩
end

/-! ### calls of built-ins by name -/
@[reducible] def jCB (r : jRA) (t : jTA) : jTE := fun δ ls Q => t δ ls fun xs ls1 => r xs ls1 Q
section
variable {X : Cx} {e : Expr} {es : List Expr} {t : jTA} {x : Str} {p pos : Pos} {r : jRA}
theorem pjB {id : String} (hc : CallJ X (.builtin id) r) (hg : Gl X x) (hm : X.mg x = none) (hv : bootBuiltins x = some (.builtin id)) (ha : PAJ X (e :: es) t)
    (hp : ∀ {t0 : TA}, PA X (e :: es) t0 -> PE X (.Call (.Name x p) (e :: es) [] pos) (tCB (fun xs H Q => ∃ r, CallR X (.builtin id) r ∧ r xs H Q) t0)) : PEJ X (.Call (.Name x p) (e :: es) [] pos) (jCB r t) := by
  obtain ⟨t1, p1, j1⟩ := ha
  refine ⟨_, hp p1, fun E I H ls σ δ Q R V h W k => ?_⟩
  refine j1 E I H ls σ δ _ R V h _ fun v H1 ⟨I1, ls1, x, R1, s1, r1, q1⟩ => ?_
  exact hc E I1 H1 ls1 v x Q R1 r1 q1 _ fun z H' h => k z H' (h.up s1)
theorem pjTy {T : String} (hc : CallJ X (.type T) r) (hg : Gl X x) (hm : X.mg x = none) (hv : bootBuiltins x = some (.type T)) (ha : PAJ X (e :: es) t)
    (hp : ∀ {t0 : TA}, PA X (e :: es) t0 -> PE X (.Call (.Name x p) (e :: es) [] pos) (tCB (fun xs H Q => ∃ r, CallR X (.type T) r ∧ r xs H Q) t0)) : PEJ X (.Call (.Name x p) (e :: es) [] pos) (jCB r t) := by
  obtain ⟨t1, p1, j1⟩ := ha
  refine ⟨_, hp p1, fun E I H ls σ δ Q R V h W k => ?_⟩
  refine j1 E I H ls σ δ _ R V h _ fun v H1 ⟨I1, ls1, x, R1, s1, r1, q1⟩ => ?_
  exact hc E I1 H1 ls1 v x Q R1 r1 q1 _ fun z H' h => k z H' (h.up s1)
/-- an answer that is data, the heap as it was -/
theorem CallJ.of {f : Value} {r : jRA} (h : ∀ (E : Ent) (I H : Hp) (ls : Ls) (vs : List V) (xs : List D) (Q : D -> Ls -> Prop), Rel E X.K I H ls -> RDs X.K I vs xs -> r xs ls Q ->
    ∃ r0, CallR X f r0 ∧ ∃ z y', (∀ W : VK, W z H -> r0 vs H W) ∧ RD X.K I z y' ∧ Q y' ls) : CallJ X f r := fun E I H ls vs xs Q R rx q W k => by
  obtain ⟨r0, h0, z, y', h1, h2, h3⟩ := h E I H ls vs xs Q R rx q
  exact ⟨r0, h0, h1 W (k z H (.of R h2 h3))⟩
@[reducible] def jAbs : jRA := fun xs ls Q => match xs with
  | [.d (.int i)] => Q (.d (.int (if i < 0 then -i else i))) ls
  | _ => False
theorem cjAbs : CallJ X (.builtin "abs") jAbs := .of fun E I H ls vs xs Q R rx q => by
  unfold jAbs at q
  split at q
  · cases rx with | cons a t => cases t; cases a with | d a => cases a; exact ⟨_, call_abs, _, _, fun W h => ⟨_, rfl, h⟩, .d (.int _), q⟩
  · exact q.elim
@[reducible] def jInt : jRA := fun xs ls Q => match xs with
  | [.d (.int i)] => Q (.d (.int i)) ls
  | [.d (.bool b)] => Q (.d (.int (if b = true then 1 else 0))) ls
  | [.d (.str s)] => s.length ≤ 640 ∧ ∃ n, PySem.intText? s = some n ∧ Q (.d (.int n)) ls
  | _ => False
theorem cjInt : CallJ X (.type "int") jInt := .of fun E I H ls vs xs Q R rx q => by
  unfold jInt at q
  split at q
  · cases rx with | cons a t => cases t; cases a with | d a => cases a; exact ⟨_, call_int1, _, _, fun W h => .inl ⟨_, rfl, h⟩, .d (.int _), q⟩
  · cases rx with | cons a t => cases t; cases a with | d a => cases a; exact ⟨_, call_int1, _, _, fun W h => .inr ⟨_, rfl, h⟩, .d (.int _), q⟩
  · cases rx with | cons a t => cases t; cases a with | d a => cases a; obtain ⟨hl, n, hn, q⟩ := q; exact ⟨_, call_int_str, _, _, fun W h => ⟨_, n, rfl, hn, hl, h⟩, .d (.int n), q⟩
  · exact q.elim
@[reducible] def jStr : jRA := fun xs ls Q => match xs with
  | [.d (.int i)] => i.natAbs.log2 < 1920 ∧ Q (.d (.str (toString i))) ls
  | _ => False
theorem cjStr : CallJ X (.type "str") jStr := .of fun E I H ls vs xs Q R rx q => by
  unfold jStr at q
  split at q
  · cases rx with | cons a t => cases t; cases a with | d a => cases a; exact ⟨_, call_str_int, _, _, fun W h => ⟨_, rfl, q.1, h⟩, .d (.str _), q.2⟩
  · exact q.elim
@[reducible] def jOrd : jRA := fun xs ls Q => match xs with
  | [.d (.str s)] => s.length = 1 ∧ Q (.d (.int (s.cps.getD 0 0 : Nat))) ls
  | _ => False
theorem cjOrd : CallJ X (.builtin "ord") jOrd := .of fun E I H ls vs xs Q R rx q => by
  unfold jOrd at q
  split at q
  · cases rx with | cons a t => cases t; cases a with | d a => cases a; exact ⟨_, call_ord, _, _, fun W h => ⟨_, rfl, q.1, h⟩, .d (.int _), q.2⟩
  · exact q.elim
@[reducible] def jLen : jRA := fun xs ls Q => match xs with
  | [.d (.list ds)] => Q (.d (.int ds.length)) ls
  | [.d (.tuple ds)] => Q (.d (.int ds.length)) ls
  | [.d (.str s)] => s.length ≤ sizeLine ∧ Q (.d (.int s.length)) ls
  | [.t ds] => Q (.d (.int ds.length)) ls
  | [.scr ns] => Q (.d (.int ns.length)) ls
  | [.a p] => ∃ (n : Nat) (xs : List D), ls[n]? = some (p, .lst xs) ∧ Q (.d (.int xs.length)) ls
  | _ => False
theorem cjLen : CallJ X (.builtin "len") jLen := .of fun E I H ls vs xs Q R rx q => by
  unfold jLen at q
  split at q
  · cases rx with | cons a t => cases t; cases a with | d a => obtain ⟨b, ys, rfl, h, t⟩ := a.lstI; exact ⟨_, call_len, _, _, fun W h2 => ⟨_, _, rfl, .inl ⟨ys, SqL.of (R.sub _ _ h), rfl⟩, h2⟩, .d (.int _), by rw [t.length]; exact q⟩
  · cases rx with | cons a t => cases t; cases a with | d a => obtain ⟨b, ys, rfl, h, t⟩ := a.tupI; exact ⟨_, call_len, _, _, fun W h2 => ⟨_, _, rfl, .inr ⟨ys, SqT.of (R.sub _ _ h), rfl⟩, h2⟩, .d (.int _), by rw [t.length]; exact q⟩
  · cases rx with | cons a t => cases t; cases a with | d a => cases a; exact ⟨_, call_len, _, _, fun W h2 => ⟨_, _, rfl, ⟨q.1, rfl⟩, h2⟩, .d (.int _), q.2⟩
  · cases rx with | cons a t => cases t; cases a with | t h t => exact ⟨_, call_len, _, _, fun W h2 => ⟨_, _, rfl, .inr ⟨_, sqt_mono R.sub h, rfl⟩, h2⟩, .d (.int _), by rw [t.length]; exact q⟩
  · cases rx with | cons a t => cases t; cases a with | scr h => exact ⟨_, call_len, _, _, fun W h2 => ⟨_, _, rfl, .inl ⟨_, R.sub.seq h, rfl⟩, h2⟩, .d (.int _), by rw [List.length_map]; exact q⟩
  · obtain ⟨n, xs, hn, q⟩ := q
    obtain ⟨⟨vs, h1, h2⟩, _⟩ := R.find hn rfl
    cases rx with | cons a t => cases t; cases a; exact ⟨_, call_len, _, _, fun W h3 => ⟨_, _, rfl, .inl ⟨_, SqL.of h1, rfl⟩, h3⟩, .d (.int _), by rw [h2.length]; exact q⟩
  · exact q.elim
/-- lists of ints -/
def intsD : List PyData -> Option (List Int)
  | [] => some []
  | .int i :: r => (intsD r).map (i :: ·)
  | _ :: _ => none
theorem intsD_eq : ∀ {xs : List PyData} {ns : List Int}, intsD xs = some ns -> xs = ns.map .int
  | [], _, h => by simp [intsD] at h; subst h; rfl
  | .int i :: r, _, h => by
    simp only [intsD, Option.map_eq_some_iff] at h
    obtain ⟨es, h1, rfl⟩ := h
    rw [intsD_eq h1]; rfl
  | .none :: _, _, h => by simp [intsD] at h
  | .bool _ :: _, _, h => by simp [intsD] at h
  | .str _ :: _, _, h => by simp [intsD] at h
  | .list _ :: _, _, h => by simp [intsD] at h
  | .tuple _ :: _, _, h => by simp [intsD] at h
  | .dict _ :: _, _, h => by simp [intsD] at h
theorem intsD_map : ∀ ns : List Int, intsD (ns.map .int) = some ns
  | [] => rfl
  | i :: r => by simp [intsD, intsD_map r]
theorem ints_v {I : Hp} : ∀ {vs : List V} {ns : List Int}, DnAll I vs (ns.map .int) -> vs = ns.map V.int
  | _, [], .nil => rfl
  | _, _ :: _, .cons a t => by cases a; rw [ints_v t]; rfl
@[reducible] def jMax : jRA := fun xs ls Q => match xs with
  | [.d (.int i), .d (.int j)] => Q (.d (.int (if j > i then j else i))) ls
  | [.d (.list ds)] => ∃ ns, intsD ds = some ns ∧ 0 < ns.length ∧ ∀ m, m ∈ ns -> (∀ y, y ∈ ns -> y ≤ m) -> Q (.d (.int m)) ls
  | _ => False
theorem cjMax (hc : X.calm = true) : CallJ X (.builtin "max") jMax := fun E I H ls vs xs Q R rx q W k => by
  unfold jMax at q
  split at q
  · cases rx with | cons a t => cases a with | d a => cases a; cases t with | cons b t => cases t; cases b with | d b => cases b; exact ⟨_, call_max2 hc, _, _, rfl, k _ _ (.of R (.d (.int _)) q)⟩
  · obtain ⟨ns, h, h0, q⟩ := q
    cases rx with | cons a t => cases t; cases a with | d a =>
      obtain ⟨b, ys, rfl, h1, t⟩ := a.lstI
      rw [intsD_eq h] at t
      refine ⟨_, cr_max hc, b, ns, rfl, ?_, h0, fun m hm hl => k _ _ (.of R (.d (.int m)) (q m hm hl))⟩
      rw [← ints_v t]; exact SqL.of (R.sub _ _ h1)
  · exact q.elim
@[reducible] def jMin : jRA := fun xs ls Q => match xs with
  | [.d (.int i), .d (.int j)] => Q (.d (.int (if j < i then j else i))) ls
  | [.d (.list ds)] => ∃ ns, intsD ds = some ns ∧ 0 < ns.length ∧ ∀ m, m ∈ ns -> (∀ y, y ∈ ns -> m ≤ y) -> Q (.d (.int m)) ls
  | _ => False
theorem cjMin (hc : X.calm = true) : CallJ X (.builtin "min") jMin := fun E I H ls vs xs Q R rx q W k => by
  unfold jMin at q
  split at q
  · cases rx with | cons a t => cases a with | d a => cases a; cases t with | cons b t => cases t; cases b with | d b => cases b; exact ⟨_, call_min2 hc, _, _, rfl, k _ _ (.of R (.d (.int _)) q)⟩
  · obtain ⟨ns, h, h0, q⟩ := q
    cases rx with | cons a t => cases t; cases a with | d a =>
      obtain ⟨b, ys, rfl, h1, t⟩ := a.lstI
      rw [intsD_eq h] at t
      refine ⟨_, cr_min hc, b, ns, rfl, ?_, h0, fun m hm hl => k _ _ (.of R (.d (.int m)) (q m hm hl))⟩
      rw [← ints_v t]; exact SqL.of (R.sub _ _ h1)
  · exact q.elim
@[reducible] def jSum : jRA := fun xs ls Q => match xs with
  | [.d (.list ds)] => ∃ ns, intsD ds = some ns ∧ Q (.d (.int ns.sum)) ls
  | _ => False
theorem cjSum (hc : X.calm = true) : CallJ X (.builtin "sum") jSum := fun E I H ls vs xs Q R rx q W k => by
  unfold jSum at q
  split at q
  · obtain ⟨ns, h, q⟩ := q
    cases rx with | cons a t => cases t; cases a with | d a =>
      obtain ⟨b, ys, rfl, h1, t⟩ := a.lstI
      rw [intsD_eq h] at t
      refine ⟨_, cr_sum hc, b, ns, rfl, ?_, k _ _ (.of R (.d (.int _)) q)⟩
      rw [← ints_v t]; exact SqL.of (R.sub _ _ h1)
  · exact q.elim
/-- lists of bools -/
def boolsD : List PyData -> Option (List Bool)
  | [] => some []
  | .bool i :: r => (boolsD r).map (i :: ·)
  | _ :: _ => none
theorem bools_v {I : Hp} : ∀ {vs : List V} {ds : List PyData} {ns : List Bool}, boolsD ds = some ns -> DnAll I vs ds -> vs = ns.map V.bl
  | _, [], _, h, .nil => by simp [boolsD] at h; subst h; rfl
  | _, .bool i :: r, _, h, .cons a t => by
    simp only [boolsD, Option.map_eq_some_iff] at h
    obtain ⟨es, h1, rfl⟩ := h
    cases a; rw [bools_v h1 t]; rfl
theorem boolsD_map : ∀ ns : List Bool, boolsD (ns.map .bool) = some ns
  | [] => rfl
  | i :: r => by simp [boolsD, boolsD_map r]
@[reducible] def jAll : jRA := fun xs ls Q => match xs with
  | [.d (.list ds)] => ∃ ns, boolsD ds = some ns ∧ Q (.d (.bool (ns.all id))) ls
  | _ => False
theorem cjAll (hc : X.calm = true) : CallJ X (.builtin "all") jAll := fun E I H ls vs xs Q R rx q W k => by
  unfold jAll at q
  split at q
  · obtain ⟨ns, h, q⟩ := q
    cases rx with | cons a t => cases t; cases a with | d a =>
      obtain ⟨b, ys, rfl, h1, t⟩ := a.lstI
      refine ⟨_, cr_all hc, b, ns, rfl, ?_, k _ _ (.of R (.d (.bl _)) q)⟩
      rw [← bools_v h t]; exact SqL.of (R.sub _ _ h1)
  · exact q.elim
/-- list(x) -/
@[reducible] def jList : jRA := fun xs ls Q => match xs with
  | [.d (.list ds)] => jNewL (ds.map .d) ls Q
  | [.d (.tuple ds)] => jNewL (ds.map .d) ls Q
  | [.a p] => ∃ (n : Nat) (xs : List D), ls[n]? = some (p, .lst xs) ∧ jNewL xs ls Q
  | _ => False
theorem cjList : CallJ X (.type "list") jList := fun E I H ls vs xs Q R rx q W k => by
  unfold jList at q
  split at q
  · cases rx with | cons a t => cases t; cases a with | d a =>
      obtain ⟨b, ys, rfl, h, t⟩ := a.lstI
      exact ⟨_, call_list_of, b, ys, rfl, .inl (SqL.of (R.sub _ _ h)), newL R t.rds q k⟩
  · cases rx with | cons a t => cases t; cases a with | d a =>
      obtain ⟨b, ys, rfl, h, t⟩ := a.tupI
      exact ⟨_, call_list_of, b, ys, rfl, .inr (SqT.of (R.sub _ _ h)), newL R t.rds q k⟩
  · obtain ⟨n, xs, hn, q⟩ := q
    obtain ⟨⟨vs, h1, h2⟩, _⟩ := R.find hn rfl
    cases rx with | cons a t => cases t; cases a; exact ⟨_, call_list_of, _, vs, rfl, .inl (SqL.of h1), newL R h2 q k⟩
  · exact q.elim
/-- tuple(x) of a list -/
@[reducible] def jTuple : jRA := fun xs ls Q => match xs with
  | [.d (.list ds)] => Q (.d (.tuple ds)) ls
  | _ => False
theorem cjTuple : CallJ X (.type "tuple") jTuple := fun E I H ls vs xs Q R rx q W k => by
  unfold jTuple at q
  split at q
  · rename_i ds
    cases rx with | cons a t => cases t; cases a with | d a =>
      obtain ⟨b, ys, rfl, h, t⟩ := a.lstI
      exact ⟨_, call_tuple_of, b, ys, rfl, .inl ⟨SqL.of (R.sub _ _ h), newT R (xs := ds.map .d) t.rds (by unfold jNewT; rw [allD_map]; exact q) k⟩⟩
  · exact q.elim
end

/-! ### isinstance of a built-in class -/
@[reducible] def tyN : D -> Option String
  | .d .none => some "NoneType"
  | .d (.bool _) => some "bool"
  | .d (.int _) => some "int"
  | .d (.str _) => some "str"
  | .d (.list _) => some "list"
  | .d (.tuple _) => some "tuple"
  | _ => none
@[reducible] def jIsi (T : String) (ta : jTE) : jTE := fun δ ls Q => ta δ ls fun x ls1 => ∃ t b, tyN x = some t ∧ kitB t T = some b ∧ Q (.d (.bool b)) ls1
section
variable {X : Cx} {a : Expr} {ta : jTE} {p q pos : Pos}
theorem tyx {K : PySem.W.Frag} {I H : Hp} {v : V} {x : D} {t : String} (e : Same I H) (r : RD K I v x) (h : tyN x = some t) : TyX K H v (.type t) := by
  cases r with
  | d r =>
    cases r with
    | non => cases h; exact .base .non
    | bl b => cases h; exact .base (.bl b)
    | int b => cases h; exact .base (.int b)
    | str b => cases h; exact .base (.str b)
    | lst q _ => cases h; exact .base (.lst (e _ _ q))
    | tup q _ => cases h; exact .base (.tup (e _ _ q))
  | _ => cases h
theorem pjIsi {y : Str} {T : String} (hg : Gl X "isinstance") (hm : X.mg "isinstance" = none) (hg2 : Gl X y) (hm2 : X.mg y = none) (hv2 : bootBuiltins y = some (.type T)) (ha : PEJ X a ta) (hn2 : y ≠ "__name__" := by decide) (hd2 : (y == ("__debug__" : Str)) = false := by decide)
    (hs : starEach [a, .Name y q] X.env = (false, eval a X.env) :: starEach [.Name y q] X.env := by rfl) (hs2 : starEach [.Name y q] X.env = (false, eval (.Name y q) X.env) :: starEach [] X.env := by rfl)
    (hp : ∀ {t0 : TA}, PA X [a, .Name y q] t0 -> PE X (.Call (.Name "isinstance" p) [a, .Name y q] [] pos) (tCB (rIsi X.K) t0)) : PEJ X (.Call (.Name "isinstance" p) [a, .Name y q] [] pos) (jIsi T ta) := by
  obtain ⟨t1, p1, j1⟩ := ha
  refine ⟨_, hp (pa_cons p1 (pa_cons (pe_bltn (v := .ty T) hg2 hm2 hv2 rfl hn2 hd2) pa_nil hs2) hs), fun E I H ls σ δ Q R V h W k => ?_⟩
  refine j1 E I H ls σ δ _ R V h _ fun v H1 ⟨I1, ls1, x, R1, s1, r1, t, b, h1, h2, q1⟩ => ?_
  exact ⟨_, _, _, _, b, rfl, .ty T, tyx R1.sub r1 h1, kit_ty h2, k _ _ ⟨I1, ls1, _, R1, s1, .d (.bl b), q1⟩⟩
end
end J

/-! J3: own calls, fields, methods of built-ins, slices, statements, loops over data. -/
namespace J
open PySem PySem.Spec PyProof.Rows L2

/-! ### calls of the program's own defs -/
@[reducible] def jCall (js : JSp) (t : jTA) : jTE := fun δ ls Q => t δ ls fun xs ls1 => js xs ls1 Q
/-- an object of the class at C, without an attribute m -/
@[reducible] def isObj (C : Addr) (m : Str) (x : D) (ls : Ls) : Prop := match x with
  | .ins C' gs => C' = C ∧ gs.lookup m = none
  | .a p => ∃ fs, (p, LO.obj C fs) ∈ flats ls ∧ fs.lookup m = none
  | _ => False
@[reducible] def jMeth (C : Addr) (m : Str) (js : JSp) (ta : jTE) (t : jTA) : jTE := fun δ ls Q => ta δ ls fun x ls1 => isObj C m x ls1 ∧ t δ ls1 fun xs ls2 => js (x :: xs) ls2 Q
@[reducible] def allF : List (Str × D) -> Option (List (Str × PyData))
  | [] => some []
  | (f, .d x) :: r => (allF r).map ((f, x) :: ·)
  | _ :: _ => none
theorem allF_eq : ∀ {xs : List (Str × D)} {ds : List (Str × PyData)}, allF xs = some ds -> xs = ds.map fun p => (p.1, .d p.2)
  | [], _, h => by simp [allF] at h; subst h; rfl
  | (f, .d x) :: r, _, h => by
    simp only [allF, Option.map_eq_some_iff] at h
    obtain ⟨es, h1, rfl⟩ := h
    rw [allF_eq h1]; rfl
  | (_, .a _) :: _, _, h => by simp [allF] at h
  | (_, .t _) :: _, _, h => by simp [allF] at h
  | (_, .scr _) :: _, _, h => by simp [allF] at h
  | (_, .ins _ _) :: _, _, h => by simp [allF] at h
/-- a new instance; it may be left as it is -/
@[reducible] def jMake (C : Addr) (js : JSp) (t : jTA) : jTE := fun δ ls Q => t δ ls fun xs ls1 => ∀ p, js (.a p :: xs) ((p, .obj C []) :: ls1) fun v ls2 => v = .d .none ∧
  (Q (.a p) ls2 ∨ ∃ (n : Nat) (fs : List (Str × D)) (gs : List (Str × PyData)), ls2[n]? = some (p, .obj C fs) ∧ allF fs = some gs ∧ Q (.ins C gs) (ls2.eraseIdx n))
theorem kv_look {K : PySem.W.Frag} {I : Hp} {vs : List (Str × V)} {kvs : List (Str × D)} (r : KvR K I vs kvs) (k : Str) : (vs.lookup k = none ∧ kvs.lookup k = none) ∨ ∃ v x, vs.lookup k = some v ∧ kvs.lookup k = some x ∧ RD K I v x := by
  induction r with
  | nil => exact .inl ⟨rfl, rfl⟩
  | @cons a b as bs h t ih =>
    obtain ⟨a1, a2⟩ := a
    obtain ⟨b1, b2⟩ := b
    obtain ⟨e, rd⟩ := h
    have e : a1 = b1 := e
    subst e
    cases c : k == a1 with
    | true => exact .inr ⟨a2, b2, by simp [List.lookup, c], by simp [List.lookup, c], rd⟩
    | false => simp only [List.lookup, c]; exact ih
theorem fs_look {I : Hp} {vs : List (Str × V)} {kvs : List (Str × PyData)} (r : Paired (fun (a : Str × V) (b : Str × PyData) => a.1 = b.1 ∧ Dn I a.2 b.2) vs kvs) (k : Str) : (vs.lookup k = none ∧ kvs.lookup k = none) ∨ ∃ v x, vs.lookup k = some v ∧ kvs.lookup k = some x ∧ Dn I v x := by
  induction r with
  | nil => exact .inl ⟨rfl, rfl⟩
  | @cons a b as bs h t ih =>
    obtain ⟨a1, a2⟩ := a
    obtain ⟨b1, b2⟩ := b
    obtain ⟨e, rd⟩ := h
    have e : a1 = b1 := e
    subst e
    cases c : k == a1 with
    | true => exact .inr ⟨a2, b2, by simp [List.lookup, c], by simp [List.lookup, c], rd⟩
    | false => simp only [List.lookup, c]; exact ih
theorem kv_fs {K : PySem.W.Frag} {I : Hp} : ∀ {vs : List (Str × V)} {gs : List (Str × PyData)}, KvR K I vs (gs.map fun p => (p.1, .d p.2)) -> Paired (fun (a : Str × V) (b : Str × PyData) => a.1 = b.1 ∧ Dn I a.2 b.2) vs gs
  | _, [], .nil => .nil
  | (_, v) :: _, (_, x) :: _, .cons h t => .cons ⟨h.1, by have h2 : RD K I v (.d x) := h.2; cases h2 with | d q => exact q⟩ (kv_fs t)
section
variable {X : Cx} {e o : Expr} {es : List Expr} {t : jTA} {ta : jTE} {x m : Str} {p pos apos : Pos} {js : JSp} {k : Nat} {f C : Addr} {fd : FuncData} {ps : List Str}
theorem jcall_run {E : Ent} {I H : Hp} {ls : Ls} {vs : List V} {xs : List D} {Q : D -> Ls -> Prop} {W : VK} {Ex : XK} (R : Rel E X.K I H ls) (r : RDs X.K I vs xs) (q : js xs ls Q) (k : ∀ z H', PoE E X.K I Q z H' -> W z H') : spJ X.K js (vs ++ []) H W Ex := by
  rw [List.append_nil]
  exact ⟨I, ls, xs, Q, R.self, r, q, fun y ls' v I' H' R' r' q' => k v H' ⟨I', ls', y, R.back R', R'.up, r', q'⟩⟩
theorem pjCall (F : FnOk X.prog X.w X.K X.mg X.base CX0 k f fd ps (spJ X.K js)) (ha : PAJ X (e :: es) t)
    (hp : ∀ {t0 : TA}, PA X (e :: es) t0 -> PE X (.Call (.Name x p) (e :: es) [] pos) (tCall (spJ X.K js) [] E0 t0)) : PEJ X (.Call (.Name x p) (e :: es) [] pos) (jCall js t) := by
  obtain ⟨t1, p1, j1⟩ := ha
  refine ⟨_, hp p1, fun E I H ls σ δ Q R V h W k => ?_⟩
  exact j1 E I H ls σ δ _ R V h _ fun v H1 ⟨I1, ls1, xs, R1, s1, r1, q1⟩ => jcall_run R1 r1 q1 fun z H' h => k z H' (h.up s1)
theorem pjMeth (he : PEJ X o ta) (ha : PAJ X (e :: es) t)
    (hp : ∀ {t0 : TE} {t1 : TA}, PE X o t0 -> PA X (e :: es) t1 -> PE X (.Call (.Attribute o m apos) (e :: es) [] pos) (tMeth C m (spJ X.K js) [] E0 t0 t1)) : PEJ X (.Call (.Attribute o m apos) (e :: es) [] pos) (jMeth C m js ta t) := by
  obtain ⟨t0, p0, j0⟩ := he
  obtain ⟨t1, p1, j1⟩ := ha
  refine ⟨_, hp p0 p1, fun E I H ls σ δ Q R V h W k => ?_⟩
  refine j0 E I H ls σ δ _ R V h _ fun v H1 ⟨I1, ls1, y, R1, s1, r1, q0, q1⟩ => ?_
  have fin : ∀ v, RD X.K I1 v y -> t1 σ H1 fun vs H2 => spJ X.K js (v :: (vs ++ [])) H2 W E0 := fun v rv => by
    refine j1 E I1 H1 ls1 σ δ _ R1 (V.mono s1) q1 _ fun vs H2 ⟨I2, ls2, xs, R2, s2, r2, q2⟩ => ?_
    exact jcall_run (vs := v :: vs) R2 (.cons (rv.mono s2) r2) q2 fun z H' h => k z H' (h.up (s1.trans s2))
  unfold isObj at q0
  split at q0
  · cases r1 with | ins h1 h2 =>
      obtain ⟨rfl, h3⟩ := q0
      rcases fs_look h2 m with ⟨l1, _⟩ | ⟨_, _, _, l2, _⟩
      · exact ⟨_, _, _, rfl, R1.sub _ _ h1, l1, fin _ (.ins h1 h2)⟩
      · rw [l2] at h3; cases h3
  · obtain ⟨fs, hm, h3⟩ := q0
    cases r1
    obtain ⟨dx, vs, h1, h2⟩ := (R1.loc _ hm).2
    rcases kv_look h2 m with ⟨l1, _⟩ | ⟨_, _, _, l2, _⟩
    · exact ⟨_, dx, vs, rfl, h1, l1, fin _ .a⟩
    · rw [l2] at h3; cases h3
  · exact q0.elim
theorem pjMeth0 (he : PEJ X o ta)
    (hp : ∀ {t0 : TE}, PE X o t0 -> PE X (.Call (.Attribute o m apos) [] [] pos) (tMeth C m (spJ X.K js) [] E0 t0 tNil)) : PEJ X (.Call (.Attribute o m apos) [] [] pos) (jMeth C m js ta jNil) := by
  obtain ⟨t0, p0, j0⟩ := he
  refine ⟨_, hp p0, fun E I H ls σ δ Q R V h W k => ?_⟩
  refine j0 E I H ls σ δ _ R V h _ fun v H1 ⟨I1, ls1, y, R1, s1, r1, q0, q1⟩ => ?_
  have fin : ∀ v, RD X.K I1 v y -> spJ X.K js (v :: ([] ++ [])) H1 W E0 := fun v rv =>
    jcall_run (Ex := E0) (vs := [v]) (xs := [y]) R1 (.cons rv .nil) q1 fun z H' h => k z H' (h.up s1)
  unfold isObj at q0
  split at q0
  · cases r1 with | ins h1 h2 =>
      obtain ⟨rfl, h3⟩ := q0
      rcases fs_look h2 m with ⟨l1, _⟩ | ⟨_, _, _, l2, _⟩
      · exact ⟨_, _, _, rfl, R1.sub _ _ h1, l1, fin _ (.ins h1 h2)⟩
      · rw [l2] at h3; cases h3
  · obtain ⟨fs, hm, h3⟩ := q0
    cases r1
    obtain ⟨dx, vs, h1, h2⟩ := (R1.loc _ hm).2
    rcases kv_look h2 m with ⟨l1, _⟩ | ⟨_, _, _, l2, _⟩
    · exact ⟨_, dx, vs, rfl, h1, l1, fin _ .a⟩
    · rw [l2] at h3; cases h3
  · exact q0.elim
theorem pjMake (ha : PAJ X (e :: es) t)
    (hp : ∀ {t0 : TA}, PA X (e :: es) t0 -> PE X (.Call (.Name x p) (e :: es) [] pos) (tMake C (spJ X.K js) [] E0 t0)) : PEJ X (.Call (.Name x p) (e :: es) [] pos) (jMake C js t) := by
  obtain ⟨t1, p1, j1⟩ := ha
  refine ⟨_, hp p1, fun E I H ls σ δ Q R V h W k => ?_⟩
  refine j1 E I H ls σ δ _ R V h _ fun vs H1 ⟨I1, ls1, xs, R1, s1, r1, q1⟩ y dx hy hdx ne => ?_
  have Ra : Rel E X.K I1 (upd H1 dx (.own y)) ls1 := R1.side hdx (fun _ z => nomatch z)
  have hy2 : (upd H1 dx (.own y)) y = none := by rw [upd_ne (fun z => ne z.symm)]; exact hy
  have R2 : Rel E X.K I1 (upd (upd H1 dx (.own y)) y (.ins C dx [])) ((y, .obj C []) :: ls1) := Ra.fresh hy2 rfl ⟨dx, [], upd_same, .nil⟩
  refine jcall_run (vs := .ref y :: vs) (xs := .a y :: xs) R2 (.cons .a r1) (q1 y) fun z H' ⟨I3, ls3, u, R3, s3, r3, e3, q3⟩ => ?_
  subst e3
  refine ⟨by cases r3 with | d r3 => cases r3; rfl, ?_⟩
  rcases q3 with q3 | ⟨n, fs, gs, hn, hg, q3⟩
  · exact k _ _ ⟨I3, ls3, _, R3, s1.trans s3, .a, q3⟩
  · obtain ⟨⟨dx', vs', h1, h2⟩, _⟩ := R3.find hn rfl
    obtain ⟨R4, s4⟩ := R3.pub hn rfl h1
    rw [allF_eq hg] at h2
    exact k _ _ ⟨_, _, _, R4, (s1.trans s3).trans s4, .ins upd_same (Paired.mapP (kv_fs h2) fun _ _ q => ⟨q.1, q.2.mono s4⟩), q3⟩
end

/-! ### fields -/
@[reducible] def jFld (C : Addr) (f : Str) (ta : jTE) : jTE := fun δ ls Q => ta δ ls fun x ls1 => match x with
  | .ins C' gs => C' = C ∧ ∃ v, gs.lookup f = some v ∧ Q (.d v) ls1
  | .a p => ∃ fs v, (p, LO.obj C fs) ∈ flats ls1 ∧ fs.lookup f = some v ∧ Q v ls1
  | _ => False
def pF (f : Str) (v : D) : List (Str × D) -> List (Str × D)
  | [] => [(f, v)]
  | (g, x) :: r => if g = f then (g, v) :: r else (g, x) :: pF f v r
theorem pF_put {K : PySem.W.Frag} {I : Hp} {f : Str} {v : V} {x : D} (h : RD K I v x) : ∀ {vs : List (Str × V)} {fs : List (Str × D)}, KvR K I vs fs -> KvR K I (putF f v vs) (pF f x fs)
  | [], [], .nil => .cons ⟨rfl, h⟩ .nil
  | (g, y) :: _, (g', z) :: _, .cons q t => by
    have e : g = g' := q.1
    subst e
    unfold putF pF
    split
    · exact .cons ⟨rfl, h⟩ t
    · exact .cons q (pF_put h t)
@[reducible] def jSFld (C : Addr) (f : Str) (ta tv : jTE) : jTS := fun N δ ls => tv δ ls fun y ls1 => ta δ ls1 fun x ls2 => match x with
  | .a p => ∃ (n : Nat) (fs : List (Str × D)), ls2[n]? = some (p, .obj C fs) ∧ fs.length < 1000 ∧ N.nx δ (ls2.set n (p, .obj C (pF f y fs)))
  | _ => False
section
variable {X : Cx} {e o value : Expr} {ta tv : jTE} {f : Str} {C : Addr} {pos pos' : Pos}
theorem pjFld (c : Cls X.K C) (n : NoAttr X.K C f) (he : PEJ X e ta) (hb : attributeBase e f X.env (eval e X.env) = eval e X.env := by rfl) : PEJ X (.Attribute e f pos) (jFld C f ta) := by
  obtain ⟨t0, p0, j0⟩ := he
  refine ⟨_, pe_fld p0 hb, fun E I H ls σ δ Q R V h W k => ?_⟩
  refine j0 E I H ls σ δ _ R V h _ fun v H1 ⟨I1, ls1, y, R1, s1, r1, q0⟩ => ?_
  dsimp only at q0
  split at q0
  · obtain ⟨rfl, u, hu, q⟩ := q0
    cases r1 with | ins h1 h2 =>
      rcases fs_look h2 f with ⟨_, l2⟩ | ⟨w, z, l1, l2, rd⟩
      · rw [l2] at hu; cases hu
      · rw [l2] at hu; cases hu
        exact ⟨_, _, _, _, w, rfl, R1.sub _ _ h1, c, n, l1, k _ _ ⟨I1, ls1, _, R1, s1, .d rd, q⟩⟩
  · obtain ⟨fs, u, hm, hu, q⟩ := q0
    cases r1
    obtain ⟨dx, vs, h1, h2⟩ := (R1.loc _ hm).2
    rcases kv_look h2 f with ⟨_, l2⟩ | ⟨w, z, l1, l2, rd⟩
    · rw [l2] at hu; cases hu
    · rw [l2] at hu; cases hu
      exact ⟨_, C, dx, vs, w, rfl, h1, c, n, l1, k _ _ ⟨I1, ls1, _, R1, s1, rd, q⟩⟩
  · exact q0.elim
theorem psFld (c : Cls X.K C) (n : NoAttr X.K C f) (ho : PEJ X o ta) (hv : PEJ X value tv) (hs : swapsWith value (some (.Attribute o f pos')) pos.line X.env = pure false := by rfl) : PSJ X (.Assign [.Attribute o f pos'] value pos) (jSFld C f ta tv) := by
  obtain ⟨t0, p0, j0⟩ := ho
  obtain ⟨t1, p1, j1⟩ := hv
  refine ⟨_, ps_fld p0 p1 hs, fun E I H ls σ δ N M R V k h => ?_⟩
  refine j1 E I H ls σ δ _ R V h _ fun v H1 ⟨I1, ls1, y, R1, s1, r1, q1⟩ => ?_
  refine j0 E I1 H1 ls1 σ δ _ R1 (V.mono s1) q1 _ fun w H2 ⟨I2, ls2, x, R2, s2, r2, q2⟩ => ?_
  dsimp only at q2
  split at q2
  rotate_left 1
  · exact q2.elim
  rename_i p
  obtain ⟨m, fs, hm, hl, q2⟩ := q2
  cases r2
  obtain ⟨⟨dx, vs, h1, h2⟩, _⟩ := R2.find hm rfl
  refine ⟨p, C, dx, vs, rfl, h1, c, n, by rw [kv_len h2]; exact hl, ?_⟩
  have ok : LOk X.K I2 (upd H2 p (.ins C dx (putF f v vs))) p (.obj C (pF f y fs)) := ⟨dx, _, upd_same, pF_put (r1.mono s2) h2⟩
  exact k.nx _ _ _ _ _ (R2.upd hm rfl rfl ok) (V.mono (s1.trans s2)) q2
end

/-! ### methods of texts -/
@[reducible] def jMS (r : Str -> List D -> Ls -> (D -> Ls -> Prop) -> Prop) (ta : jTE) (t : jTA) : jTE := fun δ ls Q => ta δ ls fun x ls1 => match x with
  | .d (.str s) => t δ ls1 fun xs ls2 => r s xs ls2 Q
  | _ => False
abbrev jRS := Str -> List D -> Ls -> (D -> Ls -> Prop) -> Prop
def MsJ (X : Cx) (id : String) (r : jRS) : Prop := ∀ (E : Ent) (I H : Hp) (ls : Ls) (s : Str) (vs : List V) (xs : List D) (Q : D -> Ls -> Prop), Rel E X.K I H ls -> RDs X.K I vs xs -> r s xs ls Q -> ∀ W : VK, (∀ z H', PoE E X.K I Q z H' -> W z H') -> ∃ r0, MtR X id r0 ∧ r0 (.str s) vs H W
section
variable {X : Cx} {e o : Expr} {es : List Expr} {ta : jTE} {t : jTA} {m : Str} {id : String} {pos apos : Pos} {r : jRS}
theorem pjMS (hc : MsJ X id r) (he : PEJ X o ta) (ha : PAJ X (e :: es) t)
    (hp : ∀ {t0 : TE} {t1 : TA}, PE X o t0 -> PA X (e :: es) t1 -> PE X (.Call (.Attribute o m apos) (e :: es) [] pos) (tBM X.K "str" (fun x xs H Q => ∃ r, MtR X id r ∧ r x xs H Q) t0 t1)) : PEJ X (.Call (.Attribute o m apos) (e :: es) [] pos) (jMS r ta t) := by
  obtain ⟨t0, p0, j0⟩ := he
  obtain ⟨t1, p1, j1⟩ := ha
  refine ⟨_, hp p0 p1, fun E I H ls σ δ Q R V h W k => ?_⟩
  refine j0 E I H ls σ δ _ R V h _ fun v H1 ⟨I1, ls1, y, R1, s1, r1, q0⟩ => ?_
  dsimp only at q0
  split at q0
  · rename_i s
    cases r1 with | d r1 =>
      cases r1
      refine ⟨rfl, ?_⟩
      refine j1 E I1 H1 ls1 σ δ _ R1 (V.mono s1) q0 _ fun vs H2 ⟨I2, ls2, xs, R2, s2, r2, q2⟩ => ?_
      exact hc E I2 H2 ls2 s vs xs Q R2 r2 q2 _ fun z H' h => k z H' (h.up (s1.trans s2))
  · exact q0.elim
theorem pjMS0 (hc : MsJ X id r) (he : PEJ X o ta)
    (hp : ∀ {t0 : TE}, PE X o t0 -> PE X (.Call (.Attribute o m apos) [] [] pos) (tBM0 X.K "str" (fun x xs H Q => ∃ r, MtR X id r ∧ r x xs H Q) t0)) : PEJ X (.Call (.Attribute o m apos) [] [] pos) (jMS r ta jNil) := by
  obtain ⟨t0, p0, j0⟩ := he
  refine ⟨_, hp p0, fun E I H ls σ δ Q R V h W k => ?_⟩
  refine j0 E I H ls σ δ _ R V h _ fun v H1 ⟨I1, ls1, y, R1, s1, r1, q0⟩ => ?_
  dsimp only at q0
  split at q0
  · rename_i s
    cases r1 with | d r1 =>
      cases r1
      exact ⟨rfl, hc E I1 H1 ls1 s [] [] Q R1 .nil q0 _ fun z H' h => k z H' (h.up s1)⟩
  · exact q0.elim
def strsD : List PyData -> Option (List Str)
  | [] => some []
  | .str i :: r => (strsD r).map (i :: ·)
  | _ :: _ => none
theorem strs_v {I : Hp} : ∀ {vs : List V} {ds : List PyData} {ns : List Str}, strsD ds = some ns -> DnAll I vs ds -> vs = ns.map V.str
  | _, [], _, h, .nil => by simp [strsD] at h; subst h; rfl
  | _, .str i :: r, _, h, .cons a t => by
    simp only [strsD, Option.map_eq_some_iff] at h
    obtain ⟨es, h1, rfl⟩ := h
    cases a; rw [strs_v h1 t]; rfl
theorem strsD_map : ∀ ns : List Str, strsD (ns.map .str) = some ns
  | [] => rfl
  | i :: r => by simp [strsD, strsD_map r]
end

/-! ### lists that grow -/
@[reducible] def jAppend (ta : jTE) (t : jTA) : jTE := fun δ ls Q => ta δ ls fun x ls1 => match x with
  | .a p => (∃ (n : Nat) (xs : List D), ls1[n]? = some (p, .lst xs)) ∧ t δ ls1 fun ys ls2 => match ys with
    | [y] => ∃ (n : Nat) (xs : List D), ls2[n]? = some (p, .lst xs) ∧ xs.length < sizeLine ∧ Q (.d .none) (ls2.set n (p, .lst (xs ++ [y])))
    | _ => False
  | _ => False
@[reducible] def jExtend (ta : jTE) (t : jTA) : jTE := fun δ ls Q => ta δ ls fun x ls1 => match x with
  | .a p => (∃ (n : Nat) (xs : List D), ls1[n]? = some (p, .lst xs)) ∧ t δ ls1 fun ys ls2 => match ys with
    | [.d (.list ds)] => ∃ (n : Nat) (xs : List D), ls2[n]? = some (p, .lst xs) ∧ xs.length + ds.length ≤ sizeLine ∧ Q (.d .none) (ls2.set n (p, .lst (xs ++ ds.map .d)))
    | _ => False
  | _ => False
section
variable {X : Cx} {e o : Expr} {ta : jTE} {t : jTA} {pos apos : Pos}
theorem pjAppend (he : PEJ X o ta) (ha : PAJ X [e] t)
    (hp : ∀ {t0 : TE} {t1 : TA}, PE X o t0 -> PA X [e] t1 -> PE X (.Call (.Attribute o "append" apos) [e] [] pos) (tBM X.K "list" rAppend t0 t1)) : PEJ X (.Call (.Attribute o "append" apos) [e] [] pos) (jAppend ta t) := by
  obtain ⟨t0, p0, j0⟩ := he
  obtain ⟨t1, p1, j1⟩ := ha
  refine ⟨_, hp p0 p1, fun E I H ls σ δ Q R V h W k => ?_⟩
  refine j0 E I H ls σ δ _ R V h _ fun v H1 ⟨I1, ls1, y, R1, s1, r1, q0⟩ => ?_
  dsimp only at q0
  split at q0
  rotate_left 1
  · exact q0.elim
  rename_i p
  obtain ⟨⟨n, xs, hn⟩, q0⟩ := q0
  cases r1
  obtain ⟨⟨vs, h1, h2⟩, _⟩ := R1.find hn rfl
  refine ⟨.inl ⟨rfl, vs, SqL.of h1⟩, ?_⟩
  refine j1 E I1 H1 ls1 σ δ _ R1 (V.mono s1) q0 _ fun ws H2 ⟨I2, ls2, ys, R2, s2, r2, q2⟩ => ?_
  dsimp only at q2
  split at q2
  rotate_left 1
  · exact q2.elim
  rename_i y
  obtain ⟨n, xs, hn, hl, q2⟩ := q2
  cases r2 with | cons ry tt =>
    cases tt
    obtain ⟨⟨vs, h1, h2⟩, _⟩ := R2.find hn rfl
    have ok : LOk X.K I2 (upd H2 p (.lst (vs ++ [_]))) p (.lst (xs ++ [y])) := ⟨_, upd_same, h2.append (.cons ry .nil)⟩
    exact ⟨p, vs, _, rfl, rfl, h1, by rw [h2.length]; exact hl, k _ _ ⟨I2, _, _, R2.upd hn rfl rfl ok, s1.trans s2, .d .non, q2⟩⟩
theorem pjExtend (he : PEJ X o ta) (ha : PAJ X [e] t)
    (hp : ∀ {t0 : TE} {t1 : TA}, PE X o t0 -> PA X [e] t1 -> PE X (.Call (.Attribute o "extend" apos) [e] [] pos) (tBM X.K "list" rExtend t0 t1)) : PEJ X (.Call (.Attribute o "extend" apos) [e] [] pos) (jExtend ta t) := by
  obtain ⟨t0, p0, j0⟩ := he
  obtain ⟨t1, p1, j1⟩ := ha
  refine ⟨_, hp p0 p1, fun E I H ls σ δ Q R V h W k => ?_⟩
  refine j0 E I H ls σ δ _ R V h _ fun v H1 ⟨I1, ls1, y, R1, s1, r1, q0⟩ => ?_
  dsimp only at q0
  split at q0
  rotate_left 1
  · exact q0.elim
  rename_i p
  obtain ⟨⟨n, xs, hn⟩, q0⟩ := q0
  cases r1
  obtain ⟨⟨vs, h1, h2⟩, _⟩ := R1.find hn rfl
  refine ⟨.inl ⟨rfl, vs, SqL.of h1⟩, ?_⟩
  refine j1 E I1 H1 ls1 σ δ _ R1 (V.mono s1) q0 _ fun ws H2 ⟨I2, ls2, ys, R2, s2, r2, q2⟩ => ?_
  dsimp only at q2
  split at q2
  rotate_left 1
  · exact q2.elim
  rename_i ds
  obtain ⟨n, xs, hn, hl, q2⟩ := q2
  cases r2 with | cons ry tt =>
    cases tt
    cases ry with | d ry =>
      obtain ⟨b, us, rfl, hb, tb⟩ := ry.lstI
      obtain ⟨⟨vs, h1, h2⟩, _⟩ := R2.find hn rfl
      have ok : LOk X.K I2 (upd H2 p (.lst (vs ++ us))) p (.lst (xs ++ ds.map .d)) := ⟨_, upd_same, h2.append tb.rds⟩
      exact ⟨p, b, vs, us, rfl, rfl, h1, R2.sub _ _ hb, by rw [h2.length, tb.length]; exact hl, k _ _ ⟨I2, _, _, R2.upd hn rfl rfl ok, s1.trans s2, .d .non, q2⟩⟩
end

/-! ### d.get(k, x) -/
@[reducible] def isDct (l : LO) : Prop := match l with | .dct _ => True | .dctL _ _ _ => True | .dki _ => True | .dkiL _ _ _ => True | _ => False
@[reducible] def jGetL (l : LO) (y z : D) (ls : Ls) (Q : D -> Ls -> Prop) : Prop := match l, y with
    | .dct kvs, .d (.tuple ks) => ∃ k, keysD ks = some k ∧ Q ((gV kvs k).getD z) ls
    | .dctL _ _ kvs, .d (.tuple ks) => ∃ k, keysD ks = some k ∧ Q ((gV kvs k).getD z) ls
    | .dki kvs, .d y => ∃ k, keyD y = some k ∧ Q ((gV kvs k).getD z) ls
    | .dkiL _ _ kvs, .d y => ∃ k, keyD y = some k ∧ Q ((gV kvs k).getD z) ls
    | _, _ => False
@[reducible] def jGet (td ty tx : jTE) : jTE := fun δ ls Q => td δ ls fun x ls1 => match x with
  | .a p => (∃ (n : Nat) (l : LO), ls1[n]? = some (p, l) ∧ isDct l) ∧ ty δ ls1 fun y ls2 => tx δ ls2 fun z ls3 => ∃ (n : Nat) (l : LO), ls3[n]? = some (p, l) ∧ jGetL l y z ls3 Q
  | _ => False
section
variable {X : Cx} {o e f : Expr} {td ty tx : jTE} {apos cpos : Pos}
theorem kv_getD {κ : Type} [DecidableEq κ] {K : PySem.W.Frag} {I : Hp} {vs : List (κ × V)} {kvs : List (κ × D)} (r : KvR K I vs kvs) (k : κ) {w : V} {z : D} (h : RD K I w z) : RD K I ((valV vs k).getD w) ((gV kvs k).getD z) := by
  rcases kv_get r k with ⟨a, b⟩ | ⟨v, y, a, b, c⟩ <;> rw [a, b]
  · exact h
  · exact c
theorem pjGet (hu : X.A.units + 1 < cLine) (ho : PEJ X o td) (he : PEJ X e ty) (hf : PEJ X f tx) (m : M2 X o "get" apos e f cpos) : PEJ X (.Call (.Attribute o "get" apos) [e, f] [] cpos) (jGet td ty tx) := by
  obtain ⟨t0, p0, j0⟩ := ho
  obtain ⟨t1, p1, j1⟩ := he
  obtain ⟨t2, p2, j2⟩ := hf
  refine ⟨_, pe_dget2 hu p0 p1 p2 m, fun E I H ls σ δ Q R V h W k => ?_⟩
  refine j0 E I H ls σ δ _ R V h _ fun v H1 ⟨I1, ls1, y, R1, s1, r1, q0⟩ => ?_
  dsimp only at q0
  split at q0
  rotate_left 1
  · exact q0.elim
  rename_i p
  obtain ⟨⟨n, l, hn, hl⟩, q0⟩ := q0
  cases r1
  refine ⟨p, rfl, ?_, ?_⟩
  · unfold isDct at hl
    split at hl
    · obtain ⟨⟨vs, h1, _⟩, _⟩ := R1.find hn rfl; exact .inr ⟨vs, .inl h1⟩
    · obtain ⟨⟨h1, _⟩, _⟩ := R1.find hn rfl; exact .inr ⟨_, .inr ⟨_, h1⟩⟩
    · obtain ⟨⟨vs, h1, _⟩, _⟩ := R1.find hn rfl; exact .inl ⟨vs, .inl h1⟩
    · obtain ⟨⟨h1, _⟩, _⟩ := R1.find hn rfl; exact .inl ⟨_, .inr ⟨_, h1⟩⟩
    · exact hl.elim
  · refine j1 E I1 H1 ls1 σ δ _ R1 (V.mono s1) q0 _ fun u H2 ⟨I2, ls2, y, R2, s2, r2, q2⟩ => ?_
    refine j2 E I2 H2 ls2 σ δ _ R2 (V.mono (s1.trans s2)) q2 _ fun w H3 ⟨I3, ls3, z, R3, s3, r3, n, l, hn, q3⟩ => ?_
    have e : Same I I3 := (s1.trans s2).trans s3
    unfold jGetL at q3
    split at q3
    · obtain ⟨kk, hk, q3⟩ := q3
      obtain ⟨⟨vs, h1, h2⟩, _⟩ := R3.find hn rfl
      exact ⟨_, dt_get R3 (.inl h1) h2 (r2.mono s3) hk, k _ _ ⟨I3, ls3, _, R3, e, kv_getD h2 kk r3, q3⟩⟩
    · obtain ⟨kk, hk, q3⟩ := q3
      obtain ⟨⟨h1, h2⟩, _⟩ := R3.find hn rfl
      exact ⟨_, dt_get R3 (.inr ⟨_, h1⟩) h2 (r2.mono s3) hk, k _ _ ⟨I3, ls3, _, R3, e, kv_getD h2 kk r3, q3⟩⟩
    · obtain ⟨kk, hk, q3⟩ := q3
      obtain ⟨⟨vs, h1, h2⟩, _⟩ := R3.find hn rfl
      cases r2 with | d r2 => exact ⟨_, .inl ⟨vs, kk, .inl h1, keyD_v hk r2, rfl⟩, k _ _ ⟨I3, ls3, _, R3, e, kv_getD h2 kk r3, q3⟩⟩
    · obtain ⟨kk, hk, q3⟩ := q3
      obtain ⟨⟨h1, h2⟩, _⟩ := R3.find hn rfl
      cases r2 with | d r2 => exact ⟨_, .inl ⟨_, kk, .inr ⟨_, h1⟩, keyD_v hk r2, rfl⟩, k _ _ ⟨I3, ls3, _, R3, e, kv_getD h2 kk r3, q3⟩⟩
    · exact q3.elim
end
end J

/-! J4: slices, targets, statements, loops over data. -/
namespace J
open PySem PySem.Spec PyProof.Rows L2

/-! ### slices -/
def cutG {α : Type} (xs : List α) (lo hi : Option Int) : List α := (xs.drop (HT.sIx xs.length 0 lo)).take (HT.sIx xs.length xs.length hi - HT.sIx xs.length 0 lo)
@[reducible] def jPart (t : Option jTE) : Env -> Ls -> (Option Int -> Ls -> Prop) -> Prop := match t with
  | none => fun _ ls Q => Q none ls
  | some t => fun δ ls Q => t δ ls fun x ls1 => match x with
    | .d (.int i) => Q (some i) ls1
    | _ => False
@[reducible] def jCut (x : D) (lo hi : Option Int) (ls : Ls) (Q : D -> Ls -> Prop) : Prop := match x with
  | .d (.list ds) => jNewL (cutG (ds.map .d) lo hi) ls Q
  | .d (.tuple ds) => ¬ (HT.sIx ds.length 0 lo = 0 ∧ HT.sIx ds.length ds.length hi = ds.length) ∧ Q (.d (.tuple (cutG ds lo hi))) ls
  | .d (.str s) => s.length ≤ sizeLine ∧ Q (.d (.str (cutS s lo hi))) ls
  | .scr ns => Q (.d (.list ((cutG ns lo hi).map .int))) ls
  | .a p => ∃ (n : Nat) (xs : List D), ls[n]? = some (p, .lst xs) ∧ jNewL (cutG xs lo hi) ls Q
  | _ => False
@[reducible] def jSl (ta : jTE) (lo hi : Option jTE) : jTE := fun δ ls Q => ta δ ls fun x ls1 => jPart lo δ ls1 fun l ls2 => jPart hi δ ls2 fun u ls3 => jCut x l u ls3 Q
section
variable {K : PySem.W.Frag} {I : Hp}
theorem RDs.drop : ∀ {vs : List V} {xs : List D} (n : Nat), RDs K I vs xs -> RDs K I (vs.drop n) (xs.drop n)
  | _, _, 0, h => h
  | _, _, n + 1, .nil => .nil
  | _, _, n + 1, .cons _ t => RDs.drop n t
theorem RDs.take : ∀ {vs : List V} {xs : List D} (n : Nat), RDs K I vs xs -> RDs K I (vs.take n) (xs.take n)
  | _, _, 0, h => .nil
  | _, _, n + 1, .nil => .nil
  | _, _, n + 1, .cons a t => .cons a (RDs.take n t)
theorem RDs.cut {vs : List V} {xs : List D} (h : RDs K I vs xs) (lo hi : Option Int) : RDs K I (cutV vs lo hi) (cutG xs lo hi) := by
  unfold cutV cutG
  rw [h.length]
  exact (h.drop _).take _
theorem cutG_map {α β : Type} (f : α -> β) (xs : List α) (lo hi : Option Int) : cutG (xs.map f) lo hi = (cutG xs lo hi).map f := by
  unfold cutG
  rw [List.length_map, ← List.map_drop, ← List.map_take]
end
section
variable {X : Cx} {e : Expr} {ta : jTE} {pos p2 : Pos}
structure POJ (X : Cx) (e : Option Expr) (t : Option jTE) : Prop where
  run : ∃ te, PO X e te ∧ ∀ (E : Ent) (I H : Hp) (ls : Ls) (σ : L2.St) (δ : Env) (Q : Option Int -> Ls -> Prop), Rel E X.K I H ls -> EnvR X.K I σ δ -> jPart t δ ls Q -> ∀ W : Option Int -> Hp -> Prop, (∀ v H' I' ls', Rel E X.K I' H' ls' -> Same I I' -> Q v ls' -> W v H') -> te σ H W
theorem poN : POJ X none none := ⟨_, po_none, fun E I H ls σ δ Q R V h W k => k _ _ I ls R (Same.refl I) h⟩
theorem poS {t : jTE} (h : PEJ X e t) : POJ X (some e) (some t) := by
  obtain ⟨t0, p0, j0⟩ := h
  refine ⟨_, po_some p0, fun E I H ls σ δ Q R V h W k => ?_⟩
  refine j0 E I H ls σ δ _ R V h _ fun v H1 ⟨I1, ls1, y, R1, s1, r1, q0⟩ => ?_
  dsimp only at q0
  split at q0
  · cases r1 with | d r1 => cases r1; exact ⟨_, rfl, k _ _ I1 ls1 R1 s1 q0⟩
  · exact q0.elim
theorem cut_j {E : Ent} {I H : Hp} {ls : Ls} {v : V} {x : D} {lo hi : Option Int} {Q : D -> Ls -> Prop} {W : VK} (R : Rel E X.K I H ls) (rx : RD X.K I v x) (q : jCut x lo hi ls Q) (k : ∀ z H', PoE E X.K I Q z H' -> W z H') : ∃ r, SlR X r ∧ r v lo hi H W := by
  unfold jCut at q
  split at q
  · cases rx with | d rx =>
      obtain ⟨a, xs, rfl, h, t⟩ := rx.lstI
      exact ⟨_, sl_list, a, xs, rfl, SqL.of (R.sub _ _ h), newL R (t.rds.cut lo hi) q k⟩
  · rename_i ds
    cases rx with | d rx =>
      obtain ⟨a, xs, rfl, h, t⟩ := rx.tupI
      refine ⟨_, sl_tup, a, xs, rfl, SqT.of (R.sub _ _ h), by rw [t.length]; exact q.1, newT R (t.rds.cut lo hi) ?_ k⟩
      unfold jNewT
      rw [cutG_map, allD_map]
      exact q.2
  · cases rx with | d rx => cases rx; exact ⟨_, sl_str, _, rfl, q.1, k _ _ (.of R (.d (.str _)) q.2)⟩
  · rename_i ns
    cases rx with | scr h =>
      refine ⟨_, sl_list, _, _, rfl, R.sub.seq h, fun p hp => ?_⟩
      have e : cutV (ns.map V.int) lo hi = (cutG ns lo hi).map V.int := by
        unfold cutV cutG; rw [List.length_map, ← List.map_drop, ← List.map_take]
      rw [e]
      have all : ∀ ms : List Int, DnAll I (ms.map V.int) (ms.map .int) := fun ms => by
        induction ms with
        | nil => exact .nil
        | cons m r ih => exact .cons (.int m) ih
      refine newL R (xs := ((cutG ns lo hi).map PyData.int).map .d) (all _).rds (.inl ⟨_, allD_map _, q⟩) k p hp
  · obtain ⟨n, xs, hn, q⟩ := q
    obtain ⟨⟨vs, h1, h2⟩, _⟩ := R.find hn rfl
    cases rx
    exact ⟨_, sl_list, _, vs, rfl, SqL.of h1, newL R (h2.cut lo hi) q k⟩
  · exact q.elim
theorem pjSl {lo hi : Option Expr} {tl th : Option jTE} (he : PEJ X e ta) (hl : POJ X lo tl) (hh : POJ X hi th) : PEJ X (.Subscript e (.Slice lo hi none p2) pos) (jSl ta tl th) := by
  obtain ⟨t0, p0, j0⟩ := he
  obtain ⟨t1, p1, j1⟩ := hl.run
  obtain ⟨t2, p3, j2⟩ := hh.run
  refine ⟨_, pe_slice slU p0 p1 p3, fun E I H ls σ δ Q R V h W k => ?_⟩
  refine j0 E I H ls σ δ _ R V h _ fun v H1 ⟨I1, ls1, y, R1, s1, r1, q1⟩ => ?_
  refine j1 E I1 H1 ls1 σ δ _ R1 (V.mono s1) q1 _ fun l H2 I2 ls2 R2 s2 q2 => ?_
  refine j2 E I2 H2 ls2 σ δ _ R2 (V.mono (s1.trans s2)) q2 _ fun u H3 I3 ls3 R3 s3 q3 => ?_
  exact cut_j R3 (r1.mono (s2.trans s3)) q3 fun z H' h => k z H' (h.up ((s1.trans s2).trans s3))
end

/-! ### targets -/
abbrev jTG := D -> Env -> Ls -> (Env -> Ls -> Prop) -> Prop
abbrev jTGs := List D -> Env -> Ls -> (Env -> Ls -> Prop) -> Prop
@[reducible] def st : Env -> Nat -> D -> Env
  | [], _, _ => []
  | _ :: r, 0, v => some v :: r
  | x :: r, n + 1, v => x :: st r n v
theorem st_eq : ∀ (δ : Env) (n : Nat) (v : D), st δ n v = δ.set n (some v)
  | [], _, _ => by simp [st]
  | _ :: _, 0, _ => by simp [st]
  | x :: r, n + 1, v => by simp [st, st_eq r n v]
def JG (K : PySem.W.Frag) (tg : TG) (g : jTG) : Prop := ∀ (E : Ent) (I H : Hp) (ls : Ls) (σ : L2.St) (δ : Env) (v : V) (x : D) (Q : Env -> Ls -> Prop), Rel E K I H ls -> EnvR K I σ δ -> RD K I v x -> g x δ ls Q ->
  ∀ W : L2.St -> Hp -> Prop, (∀ σ' H' I' δ' ls', Rel E K I' H' ls' -> EnvR K I' σ' δ' -> Same I I' -> Q δ' ls' -> W σ' H') -> tg v σ H W
def JGs (K : PySem.W.Frag) (tg : TGs) (g : jTGs) : Prop := ∀ (E : Ent) (I H : Hp) (ls : Ls) (σ : L2.St) (δ : Env) (v : List V) (x : List D) (Q : Env -> Ls -> Prop), Rel E K I H ls -> EnvR K I σ δ -> RDs K I v x -> g x δ ls Q ->
  ∀ W : L2.St -> Hp -> Prop, (∀ σ' H' I' δ' ls', Rel E K I' H' ls' -> EnvR K I' σ' δ' -> Same I I' -> Q δ' ls' -> W σ' H') -> tg v σ H W
def PGJ (X : Cx) (e : Expr) (g : jTG) : Prop := ∃ t, PG X e t ∧ JG X.K t g
def PGsJ (X : Cx) (e : List Expr) (g : jTGs) : Prop := ∃ t, PGs X e t ∧ JGs X.K t g
@[reducible] def jgName (i : Nat) : jTG := fun x δ ls Q => Q (st δ i x) ls
@[reducible] def jgNil : jTGs := fun xs δ ls Q => xs = [] ∧ Q δ ls
@[reducible] def jgCons (g : jTG) (u : jTGs) : jTGs := fun xs δ ls Q => match xs with
  | x :: r => g x δ ls fun δ1 ls1 => u r δ1 ls1 Q
  | [] => False
@[reducible] def mapD : List PyData -> List D
  | [] => []
  | x :: r => .d x :: mapD r
theorem mapD_eq : ∀ ds : List PyData, mapD ds = ds.map .d
  | [] => rfl
  | x :: r => by rw [mapD, mapD_eq r]; rfl
@[reducible] def jgTup (n : Nat) (u : jTGs) : jTG := fun x δ ls Q => match x with
  | .d (.tuple ds) => ds.length = n ∧ u (mapD ds) δ ls Q
  | .t xs => xs.length = n ∧ u xs δ ls Q
  | _ => False
/-- o[i] = v by values -/
@[reducible] def jSetAt (o i v : D) (ls : Ls) (Q : Ls -> Prop) : Prop := match o with
  | .a p => ∃ (n : Nat) (l : LO), ls[n]? = some (p, l) ∧ (match l, i with
    | .lst xs, .d (.int k) => ∃ j, ixN xs.length k = some j ∧ Q (ls.set n (p, .lst (xs.set j v)))
    | .dct kvs, .d (.tuple ks) => ∃ k, keysD ks = some k ∧ kvs.length < sizeLine ∧ Q (ls.set n (p, .dct (gP kvs k v)))
    | .dki kvs, .d y => ∃ k, keyD y = some k ∧ kvs.length < sizeLine ∧ Q (ls.set n (p, .dki (gP kvs k v)))
    | _, _ => False)
  | _ => False
@[reducible] def jgSub (to ti : jTE) : jTG := fun v δ ls Q => to δ ls fun o ls1 => ti δ ls1 fun i ls2 => jSetAt o i v ls2 fun ls3 => Q δ ls3
section
variable {X : Cx} {pos : Pos}
theorem pgName {i : Nat} {x : Str} (hN : X.N.Nodup) (hi : X.N[i]? = some x := by rfl) (hx : Loc X.env.scope x := by first | exact .inl rfl | exact .inr rfl) (hf : X.fn x = true ∨ X.env.scope.names.lookup x = some .local := by first | exact .inl rfl | exact .inr rfl | assumption) : PGJ X (.Name x pos) (jgName i) := by
  refine ⟨_, pg_name hN hi hx hf, fun E I H ls σ δ v x Q R V r q W k => ?_⟩
  unfold jgName at q
  rw [st_eq] at q
  exact k _ _ I _ ls R (V.set r i) (Same.refl I) q
theorem pgNil : PGsJ X [] jgNil := ⟨_, pgs_nil, fun E I H ls σ δ v x Q R V r q W k => by
  obtain ⟨rfl, q⟩ := q
  cases r
  exact ⟨rfl, k _ _ I _ ls R V (Same.refl I) q⟩⟩
theorem pgCons {e : Expr} {es : List Expr} {g : jTG} {u : jTGs} (h1 : PGJ X e g) (h2 : PGsJ X es u)
    (hs : (assignEach (e :: es) X.env).map (·.2) = assign e X.env :: (assignEach es X.env).map (·.2) := by rfl) : PGsJ X (e :: es) (jgCons g u) := by
  obtain ⟨t0, p0, j0⟩ := h1
  obtain ⟨t1, p1, j1⟩ := h2
  refine ⟨_, pgs_cons p0 p1 hs, fun E I H ls σ δ v x Q R V r q W k => ?_⟩
  unfold jgCons at q
  split at q
  · cases r with | cons r t =>
      refine ⟨_, _, rfl, j0 E I H ls σ δ _ _ _ R V r q _ fun σ' H' I' δ' ls' R' V' s' q' => ?_⟩
      exact j1 E I' H' ls' σ' δ' _ _ _ R' V' (t.mono s') q' _ fun σ2 H2 I2 δ2 ls2 R2 V2 s2 q2 => k _ _ _ _ _ R2 V2 (s'.trans s2) q2
  · exact q.elim
theorem pgTup {es : List Expr} {k : Nat} {u : jTGs} {n : Nat} (hc : X.calm = true) (h : PGsJ X es u)
    (hn : (assignEach es X.env).length = n := by rfl) (hst : (assignEach es X.env).findIdx? (·.1) = none := by rfl) : PGJ X (.Tuple es k pos) (jgTup n u) := by
  obtain ⟨t0, p0, j0⟩ := h
  refine ⟨_, pg_tup hc p0 hn hst, fun E I H ls σ δ v x Q R V r q W k => ?_⟩
  unfold jgTup at q
  split at q
  · cases r with | d r =>
      obtain ⟨a, xs, rfl, h, t⟩ := r.tupI
      exact ⟨a, xs, rfl, SqT.of (R.sub _ _ h), by rw [t.length]; exact q.1, j0 E I H ls σ δ _ _ _ R V t.rds (by rw [← mapD_eq]; exact q.2) _ k⟩
  · cases r with | t h t => exact ⟨_, _, rfl, sqt_mono R.sub h, by rw [t.length]; exact q.1, j0 E I H ls σ δ _ _ _ R V t q.2 _ k⟩
  · exact q.elim
theorem set_dct (hu : X.A.units + 1 < cLine) : PSet X (fun o i v H Q => ∃ a H', o = .ref a ∧ DPut H a i v H' ∧ Q H') := by
  intro pins s σ H o i v ov iv u Q I ro ri rv h
  obtain ⟨a, H', rfl, g, q⟩ := h
  cases (show ov = Value.ref a from ro)
  exact d_setItem hu I g ri rv fun s4 I4 => ⟨H', I4, q⟩
theorem setAt_j (hu : X.A.units + 1 < cLine) {E : Ent} {I H : Hp} {ls : Ls} {vo vi vv : V} {o i v : D} {Q : Ls -> Prop} {W : Hp -> Prop} (R : Rel E X.K I H ls) (ro : RD X.K I vo o) (ri : RD X.K I vi i) (rv : RD X.K I vv v) (q : jSetAt o i v ls Q)
    (k : ∀ H' ls', Rel E X.K I H' ls' -> Q ls' -> W H') : ∃ r, PSet X r ∧ r vo vi vv H W := by
  unfold jSetAt at q
  split at q
  · obtain ⟨n, l, hn, q⟩ := q
    cases ro
    rename_i p
    split at q
    · rename_i xs kk0
      obtain ⟨j, hj, q⟩ := q
      obtain ⟨⟨vs, h1, h2⟩, _⟩ := R.find hn rfl
      cases ri with | d ri =>
        cases ri
        have st : ∀ (j : Nat) (vs : List V) (xs : List D), RDs X.K I vs xs -> RDs X.K I (vs.set j vv) (xs.set j v) := fun j vs xs h => by
          induction xs generalizing vs j with
          | nil => cases h; exact .nil
          | cons y r ih =>
            cases h with | cons a t =>
            cases j with
            | zero => exact .cons rv t
            | succ j => exact .cons a (ih j _ t)
        exact ⟨_, set_list, p, vs, _, j, rfl, rfl, h1, by rw [h2.length]; exact hj, k _ _ (R.upd (l' := .lst (xs.set j v)) hn rfl rfl ⟨_, upd_same, st _ _ _ h2⟩) q⟩
    · rename_i kvs ks
      obtain ⟨kk, hk, hl, q⟩ := q
      obtain ⟨⟨vs, h1, h2⟩, _⟩ := R.find hn rfl
      cases ri with | d ri =>
        obtain ⟨b, ys, rfl, h, t⟩ := ri.tupI
        have eb : H b = some (.tup (kk.map kV)) := by rw [← keysD_v hk t]; exact R.sub _ _ h
        exact ⟨_, set_dct hu, p, _, rfl, DPut.t h1 eb (by rw [kv_len h2]; exact hl), k _ _ (R.upd (l' := .dct (gP kvs kk v)) hn rfl rfl ⟨_, upd_same, kv_put h2 rv⟩) q⟩
    · rename_i kvs y
      obtain ⟨kk, hk, hl, q⟩ := q
      obtain ⟨⟨vs, h1, h2⟩, _⟩ := R.find hn rfl
      cases ri with | d ri =>
        exact ⟨_, set_dct hu, p, _, rfl, by rw [keyD_v hk ri]; exact DPut.k h1 (by rw [kv_len h2]; exact hl), k _ _ (R.upd (o := .dK (putK vs kk vv)) (l' := .dki (gP kvs kk v)) hn rfl rfl ⟨_, upd_same, kv_put h2 rv⟩) q⟩
    · exact q.elim
  · exact q.elim
theorem pgSub (hu : X.A.units + 1 < cLine) {o i : Expr} {to ti : jTE} (ho : PEJ X o to) (hi : PEJ X i ti)
    (hp : ∀ {t0 t1 : TE}, PE X o t0 -> PE X i t1 -> PG X (.Subscript o i pos) (gSub t0 t1 (fun o i v H Q => ∃ r, PSet X r ∧ r o i v H Q))) : PGJ X (.Subscript o i pos) (jgSub to ti) := by
  obtain ⟨t0, p0, j0⟩ := ho
  obtain ⟨t1, p1, j1⟩ := hi
  refine ⟨_, hp p0 p1, fun E I H ls σ δ v x Q R V r q W k => ?_⟩
  refine j0 E I H ls σ δ _ R V q _ fun u H1 ⟨I1, ls1, y, R1, s1, r1, q1⟩ => ?_
  refine j1 E I1 H1 ls1 σ δ _ R1 (V.mono s1) q1 _ fun w H2 ⟨I2, ls2, z, R2, s2, r2, q2⟩ => ?_
  exact setAt_j hu R2 (r1.mono s2) r2 (r.mono (s1.trans s2)) q2 fun H' ls' R' q' => k _ _ I2 _ _ R' (V.mono (s1.trans s2)) (s1.trans s2) q'
end

/-! ### statements -/
@[reducible] def jNext : jTS := fun N δ ls => N.nx δ ls
@[reducible] def jSeq (t u : jTS) : jTS := fun N δ ls => t { N with nx := u N } δ ls
@[reducible] def jDrop (te : jTE) : jTS := fun N δ ls => te δ ls fun _ ls1 => N.nx δ ls1
/-- a list of one's own is handed back: as it is, or as data from now on -/
def jPubA (p : Addr) (ls : Ls) (Q : D -> Ls -> Prop) : Prop := Q (.a p) ls ∨ ∃ (n : Nat) (xs : List D) (ds : List PyData), ls[n]? = some (p, .lst xs) ∧ allD xs = some ds ∧ Q (.d (.list ds)) (ls.eraseIdx n)
@[reducible] def jPub (x : D) (ls : Ls) (Q : D -> Ls -> Prop) : Prop := match x with
  | .a p => jPubA p ls Q
  | _ => Q x ls
theorem pubN {p : Addr} {ls : Ls} {Q : D -> Ls -> Prop} (q : Q (.a p) ls) : jPubA p ls Q := .inl q
theorem pubY {p : Addr} {ls : Ls} {Q : D -> Ls -> Prop} (n : Nat) {xs : List D} (ds : List PyData) (h : ls[n]? = some (p, .lst xs)) (e : xs = ds.map .d) (q : Q (.d (.list ds)) (ls.eraseIdx n)) : jPubA p ls Q := .inr ⟨n, xs, ds, h, by rw [e]; exact allD_map ds, q⟩
theorem pub_run {E : Ent} {K : PySem.W.Frag} {I H : Hp} {ls : Ls} {v : V} {x : D} {Q : D -> Ls -> Prop} (R : Rel E K I H ls) (r : RD K I v x) (q : jPub x ls Q) : ∃ I' ls' x', Rel E K I' H ls' ∧ Same I I' ∧ RD K I' v x' ∧ Q x' ls' := by
  unfold jPub at q
  split at q
  · rcases q with q | ⟨n, xs, ds, hn, hd, q⟩
    · exact ⟨I, ls, _, R, Same.refl I, r, q⟩
    · cases r
      obtain ⟨⟨vs, h1, h2⟩, _⟩ := R.find hn rfl
      obtain ⟨R4, s4⟩ := R.pub hn rfl h1
      rw [allD_eq hd] at h2
      exact ⟨_, _, _, R4, s4, .d (.lst upd_same (h2.dn.mono s4)), q⟩
  · exact ⟨I, ls, _, R, Same.refl I, r, q⟩
@[reducible] def jRet (te : jTE) : jTS := fun N δ ls => te δ ls fun x ls1 => jPub x ls1 N.rt
/-- from here on a name's list is data -/
@[reducible] def jGhost (i : Nat) (u : jTS) : jTS := fun N δ ls => match lk δ i with
  | some (.a p) => ∃ (n : Nat) (xs : List D) (ds : List PyData), ls[n]? = some (p, .lst xs) ∧ xs = ds.map .d ∧ u N (st δ i (.d (.list ds))) (ls.eraseIdx n)
  | _ => u N δ ls
@[reducible] def jRetN : jTS := fun N _ ls => N.rt (.d .none) ls
@[reducible] def jIf (c : jTT) (t u : jTS) : jTS := fun N δ ls => c δ ls fun b ls1 => if b = true then t N δ ls1 else u N δ ls1
@[reducible] def jNever : jTS := fun _ _ _ => False
@[reducible] def jAsg (te : jTE) (g : jTG) : jTS := fun N δ ls => te δ ls fun x ls1 => g x δ ls1 N.nx
@[reducible] def jAug (i : Nat) (te : jTE) (r : jR2) : jTS := fun N δ ls => match lk δ i with
  | some x => te δ ls fun y ls1 => r x y ls1 fun z ls2 => N.nx (st δ i z) ls2
  | none => False
@[reducible] def jWhile (c : jTT) (tb : jTS) : jTS := fun N δ ls => ∃ Inv : Nat -> Env -> Ls -> Prop, (∃ m, Inv m δ ls) ∧ ∀ m δ ls, Inv m δ ls ->
  c δ ls fun b ls1 => if b = true then tb { N with nx := fun δ ls => ∃ m', m' < m ∧ Inv m' δ ls, ct := fun δ ls => ∃ m', m' < m ∧ Inv m' δ ls, bk := N.nx } δ ls1 else N.nx δ ls1
section
variable {X : Cx} {pos : Pos}
theorem pbNil : PBJ X [] jNext := ⟨_, pss_nil, fun E I H ls σ δ N M R V k h => k.nx _ _ _ _ _ R V h⟩
theorem pbCons {s : Stmt} {r : List Stmt} {t u : jTS} (h1 : PSJ X s t) (h2 : PBJ X r u) : PBJ X (s :: r) (jSeq t u) := by
  obtain ⟨t0, p0, j0⟩ := h1
  obtain ⟨t1, p1, j1⟩ := h2
  refine ⟨_, pss_cons p0 p1, fun E I H ls σ δ N M R V k h => ?_⟩
  exact j0 E I H ls σ δ { N with nx := u N } _ R V ⟨fun I' H' ls' σ' δ' R' V' q => j1 E I' H' ls' σ' δ' N M R' V' k q, k.rt, k.bk, k.ct⟩ h
theorem pbOne {s : Stmt} {t : jTS} (h1 : PSJ X s t) : PBJ X [s] t := by obtain ⟨t0, p0, j0⟩ := h1; exact ⟨_, pss_one p0, j0⟩
theorem psPass : PSJ X (.Pass pos) jNext := ⟨_, ps_pass, fun E I H ls σ δ N M R V k h => k.nx _ _ _ _ _ R V h⟩
theorem psNever {s : Stmt} : PSJ X s jNever := ⟨_, ps_never, fun E I H ls σ δ N M R V k h => h.elim⟩
theorem pbNever {s : List Stmt} : PBJ X s jNever := ⟨_, pss_never, fun E I H ls σ δ N M R V k h => h.elim⟩
theorem psExpr {e : Expr} {te : jTE} (he : PEJ X e te) (hs : swapsWith e none pos.line X.env = pure false := by rfl) : PSJ X (.Expr e pos) (jDrop te) := by
  obtain ⟨t0, p0, j0⟩ := he
  refine ⟨_, ps_expr p0 hs, fun E I H ls σ δ N M R V k h => ?_⟩
  exact j0 E I H ls σ δ _ R V h _ fun v H1 ⟨I1, ls1, y, R1, s1, r1, q1⟩ => k.nx _ _ _ _ _ R1 (V.mono s1) q1
theorem psRet {e : Expr} {te : jTE} (he : PEJ X e te) : PSJ X (.Return (some e) pos) (jRet te) := by
  obtain ⟨t0, p0, j0⟩ := he
  refine ⟨_, ps_ret p0, fun E I H ls σ δ N M R V k h => ?_⟩
  exact j0 E I H ls σ δ _ R V h _ fun v H1 ⟨I1, ls1, y, R1, s1, r1, q1⟩ => by
    obtain ⟨I2, ls2, y2, R2, s2, r2, q2⟩ := pub_run R1 r1 q1
    exact k.rt _ _ _ _ _ R2 r2 q2
theorem pbGhost (i : Nat) {r : List Stmt} {u : jTS} (h : PBJ X r u) : PBJ X r (jGhost i u) := by
  obtain ⟨t0, p0, j0⟩ := h
  refine ⟨_, p0, fun E I H ls σ δ N M R V k q => ?_⟩
  unfold jGhost at q
  split at q
  · rename_i p hp
    obtain ⟨n, xs, ds, hn, hd, q⟩ := q
    obtain ⟨⟨vs, h1, h2⟩, _⟩ := R.find hn rfl
    obtain ⟨R4, s4⟩ := R.pub hn rfl h1
    rw [hd] at h2
    obtain ⟨v, a, b⟩ := V.2 i _ (lk_get _ _ _ hp)
    cases b
    have V4 := (V.mono s4).set (RD.d (K := X.K) (.lst upd_same (h2.dn.mono s4))) i
    have e : σ.set i (some (.ref p)) = σ := by
      apply List.ext_getElem?
      intro j
      by_cases hj : i = j
      · subst hj
        have hl : i < σ.length := (List.getElem?_eq_some_iff.mp a).1
        rw [List.getElem?_set_self hl, a]
      · rw [List.getElem?_set_ne hj]
    rw [e, ← st_eq] at V4
    exact j0 E _ H _ σ _ N M R4 V4 k q
  · exact j0 E I H ls σ δ N M R V k q
theorem psRetN : PSJ X (.Return none pos) jRetN := ⟨_, ps_retN, fun E I H ls σ δ N M R V k h => k.rt _ _ _ _ _ R (.d .non) h⟩
theorem psIf {c : Expr} {a b : List Stmt} {tc : jTT} {t u : jTS} (hc : PTJ X c tc) (ha : PBJ X a t) (hb : PBJ X b u) : PSJ X (.If c a b pos) (jIf tc t u) := by
  obtain ⟨t0, p0, j0⟩ := hc
  obtain ⟨t1, p1, j1⟩ := ha
  obtain ⟨t2, p2, j2⟩ := hb
  refine ⟨_, ps_if p0 p1 p2, fun E I H ls σ δ N M R V k h => ?_⟩
  refine j0 E I H ls σ δ _ R V h _ fun b H1 ⟨I1, ls1, R1, s1, q1⟩ => ?_
  cases b with
  | true => exact j1 E I1 H1 ls1 σ δ N M R1 (V.mono s1) k q1
  | false => exact j2 E I1 H1 ls1 σ δ N M R1 (V.mono s1) k q1
theorem psAsg {tg e : Expr} {te : jTE} {g : jTG} (he : PEJ X e te) (hg : PGJ X tg g) (hs : swapsWithSole [tg] e pos.line X.env = pure false := by rfl) (hw : swappedStores [tg] e X.env = pure none := by rfl)
    (h1 : (assignEach [tg] X.env).map (·.2) = [assign tg X.env] := by rfl) : PSJ X (.Assign [tg] e pos) (jAsg te g) := by
  obtain ⟨t0, p0, j0⟩ := he
  obtain ⟨t1, p1, j1⟩ := hg
  refine ⟨_, ps_asg p0 p1 hs hw h1, fun E I H ls σ δ N M R V k h => ?_⟩
  refine j0 E I H ls σ δ _ R V h _ fun v H1 ⟨I1, ls1, y, R1, s1, r1, q1⟩ => ?_
  exact j1 E I1 H1 ls1 σ δ v y _ R1 (V.mono s1) r1 q1 _ fun σ' H' I' δ' ls' R' V' s' q' => k.nx _ _ _ _ _ R' V' q'
theorem psAug {i : Nat} {x : Str} {e : Expr} {te : jTE} {op : Operator} {r : jR2} {pos' : Pos} (ho : OpJ X (inplaceOp op) r) (he : PEJ X e te)
    (hp : ∀ {t0 : TE}, PE X e t0 -> PS X (.AugAssign (.Name x pos') op e pos) (tAug i t0 (fun x y H Q => ∃ r, OpR X (inplaceOp op) r ∧ r x y H Q))) : PSJ X (.AugAssign (.Name x pos') op e pos) (jAug i te r) := by
  obtain ⟨t0, p0, j0⟩ := he
  refine ⟨_, hp p0, fun E I H ls σ δ N M R V k h => ?_⟩
  unfold jAug at h
  split at h
  · rename_i y hy
    obtain ⟨v, a, b⟩ := V.2 i y (lk_get _ _ _ hy)
    refine ⟨v, a, ?_⟩
    refine j0 E I H ls σ δ _ R V h _ fun w H1 ⟨I1, ls1, z, R1, s1, r1, q1⟩ => ?_
    refine ho E I1 H1 ls1 v w y z _ R1 (b.mono s1) r1 q1 _ fun u H2 ⟨I2, ls2, z2, R2, s2, r2, q2⟩ => ?_
    dsimp only at q2
    rw [st_eq] at q2
    exact k.nx _ _ _ _ _ R2 ((V.mono (s1.trans s2)).set r2 i) q2
  · exact h.elim
theorem ipU {op : Operator} : PIp X op (fun x y H Q => ∃ r, OpR X (inplaceOp op) r ∧ r x y H Q) := fun pins s σ H x y v u Q I rx ry ⟨r, h, q⟩ => h pins s σ H x y v u Q I rx ry q
theorem psWhile {c : Expr} {body : List Stmt} {tc : jTT} {tb : jTS} (hp : PassesOwn (model X.prog X.w) X.A X.env X.xe) (hc : PTJ X c tc) (hb : PBJ X body tb) : PSJ X (.While c body [] pos) (jWhile tc tb) := by
  obtain ⟨t0, p0, j0⟩ := hc
  obtain ⟨t1, p1, j1⟩ := hb
  refine ⟨_, ps_while hp p0 p1, fun E I H ls σ δ N M R V k h => ?_⟩
  obtain ⟨Inv, ⟨m, h0⟩, hs⟩ := h
  refine ⟨fun m σ H => ∃ I δ ls, Rel E X.K I H ls ∧ EnvR X.K I σ δ ∧ Inv m δ ls, ⟨m, I, δ, ls, R, V, h0⟩, ?_⟩
  rintro m σ H ⟨I, δ, ls, R, V, hi⟩
  refine j0 E I H ls σ δ _ R V (hs m δ ls hi) _ fun b H1 ⟨I1, ls1, R1, s1, q1⟩ => ?_
  cases b with
  | false => exact k.nx _ _ _ _ _ R1 (V.mono s1) q1
  | true =>
    refine ⟨fun σ' H' => ∃ m', m' < m ∧ ∃ I δ ls, Rel E X.K I H' ls ∧ EnvR X.K I σ' δ ∧ Inv m' δ ls, fun σ' H' z => z, ?_⟩
    exact j1 E I1 H1 ls1 σ δ { N with nx := fun δ ls => ∃ m', m' < m ∧ Inv m' δ ls, ct := fun δ ls => ∃ m', m' < m ∧ Inv m' δ ls, bk := N.nx } _ R1 (V.mono s1) ⟨fun I' H' ls' σ' δ' R' V' ⟨m', hm, q⟩ => ⟨m', hm, I', δ', ls', R', V', q⟩, k.rt, k.nx, fun I' H' ls' σ' δ' R' V' ⟨m', hm, q⟩ => ⟨m', hm, I', δ', ls', R', V', q⟩⟩ q1
end
end J

/-! J5: loops and comprehensions over data. -/
namespace J
open PySem PySem.Spec PyProof.Rows L2

/-- an iterator that gives the items xs as long as ls is as Pl says -/
structure Yl (K : PySem.W.Frag) (I0 : Hp) (J : It) (xs : List D) (Pl : Ls -> Prop) : Prop where
  go : ∀ (E : Ent) (i : Nat) (I H : Hp) (ls : Ls), Rel E K I H ls -> Same I0 I -> Pl ls -> i < xs.length -> J.go i H
  stop : ∀ (E : Ent) (i : Nat) (I H : Hp) (ls : Ls), Rel E K I H ls -> Same I0 I -> Pl ls -> xs.length ≤ i -> J.stop i H
  yld : ∀ (E : Ent) (i : Nat) (I H : Hp) (ls : Ls) (v : V) (H' : Hp), Rel E K I H ls -> Same I0 I -> Pl ls -> i < xs.length -> J.yld i H v H' -> ∃ I' x, Rel E K I' H' ls ∧ Same I I' ∧ xs[i]? = some x ∧ RD K I' v x
abbrev jTI := Env -> Ls -> (List D -> (Ls -> Prop) -> Ls -> Prop) -> Prop
def JI (K : PySem.W.Frag) (wi : TI) (ji : jTI) : Prop := ∀ (E : Ent) (I H : Hp) (ls : Ls) (σ : L2.St) (δ : Env) (Q : List D -> (Ls -> Prop) -> Ls -> Prop), Rel E K I H ls -> EnvR K I σ δ -> ji δ ls Q ->
  ∀ W : It -> Hp -> Prop, (∀ J H' I' ls' xs Pl, Rel E K I' H' ls' -> Same I I' -> Yl K I' J xs Pl -> Q xs Pl ls' -> W J H') -> wi σ H W
def PIJ (X : Cx) (tg iter : Expr) (ji : jTI) : Prop := ∃ wi, PI X tg iter wi ∧ JI X.K wi ji

def anyLs : Ls -> Prop := fun _ => True
section
variable {K : PySem.W.Frag} {I : Hp}
theorem yl_sql {a : Addr} {vs : List V} {xs : List D} {Pl : Ls -> Prop} (r : RDs K I vs xs) (h : ∀ (E : Ent) (I' H : Hp) (ls : Ls), Rel E K I' H ls -> Same I I' -> Pl ls -> SqL K H a vs) : Yl K I (Itl K a) xs Pl where
  go := fun E i I' H ls R s p hi => by
    have hl := r.length
    exact ⟨vs, vs[i]'(by omega), h E I' H ls R s p, by simp⟩
  stop := fun E i I' H ls R s p hi => ⟨vs, h E I' H ls R s p, by rw [r.length]; exact hi⟩
  yld := fun E i I' H ls v H' R s p hi y => by
    obtain ⟨e, y⟩ := y
    subst e
    obtain ⟨u, h1, h2⟩ := r.get (List.getElem?_eq_getElem hi)
    have e := y vs (h E I' _ ls R s p)
    rw [h1] at e; cases e
    exact ⟨I', xs[i], R, Same.refl I', List.getElem?_eq_getElem hi, h2.mono s⟩
theorem yl_sqt {a : Addr} {vs : List V} {xs : List D} {Pl : Ls -> Prop} (r : RDs K I vs xs) (h : ∀ (E : Ent) (I' H : Hp) (ls : Ls), Rel E K I' H ls -> Same I I' -> Pl ls -> SqT K H a vs) : Yl K I (Itt K a) xs Pl where
  go := fun E i I' H ls R s p hi => by
    have hl := r.length
    exact ⟨vs, vs[i]'(by omega), h E I' H ls R s p, by simp⟩
  stop := fun E i I' H ls R s p hi => ⟨vs, h E I' H ls R s p, by rw [r.length]; exact hi⟩
  yld := fun E i I' H ls v H' R s p hi y => by
    obtain ⟨e, y⟩ := y
    subst e
    obtain ⟨u, h1, h2⟩ := r.get (List.getElem?_eq_getElem hi)
    have e := y vs (h E I' _ ls R s p)
    rw [h1] at e; cases e
    exact ⟨I', xs[i], R, Same.refl I', List.getElem?_eq_getElem hi, h2.mono s⟩
end
def intsFrom (lo : Int) (n : Nat) : List D := (List.range n).map fun i : Nat => D.d (.int (lo + (i : Int)))
/-- what a for walks -/
@[reducible] def jiSeq (x : D) (ls : Ls) (Q : List D -> (Ls -> Prop) -> Ls -> Prop) : Prop := match x with
  | .d (.list ds) => Q (ds.map .d) anyLs ls
  | .scr ns => Q (ns.map fun n => .d (.int n)) anyLs ls
  | .a p => ∃ (n : Nat) (xs : List D), ls[n]? = some (p, .lst xs) ∧ Q xs (fun ls' => ∃ m : Nat, ls'[m]? = some (p, LO.lst xs)) ls
  | _ => False
@[reducible] def jiList (t : jTE) : jTI := fun δ ls Q => t δ ls fun x ls1 => jiSeq x ls1 Q
@[reducible] def jiTup (t : jTE) : jTI := fun δ ls Q => t δ ls fun x ls1 => match x with
  | .d (.tuple ds) => Q (ds.map .d) anyLs ls1
  | .t xs => Q xs anyLs ls1
  | _ => False
@[reducible] def jiRng1 (t : jTA) : jTI := fun δ ls Q => t δ ls fun xs ls1 => match xs with
  | [.d (.int j)] => (-(2 ^ 62) ≤ j ∧ j < 2 ^ 62) ∧ Q (intsFrom 0 j.toNat) anyLs ls1
  | _ => False
@[reducible] def jiRng2 (t : jTA) : jTI := fun δ ls Q => t δ ls fun xs ls1 => match xs with
  | [.d (.int i), .d (.int j)] => (-(2 ^ 62) ≤ i ∧ i < 2 ^ 62 ∧ -(2 ^ 62) ≤ j ∧ j < 2 ^ 62) ∧ Q (intsFrom i (j - i).toNat) anyLs ls1
  | _ => False
@[reducible] def jiStr (t : jTE) : jTI := fun δ ls Q => t δ ls fun x ls1 => match x with
  | .d (.str s) => Q (s.cps.toList.map fun c => .d (.str ⟨#[c]⟩)) anyLs ls1
  | _ => False
/-- pairs of a place and an item -/
def pairsFrom : Nat -> List PyData -> List D
  | _, [] => []
  | i, x :: r => .d (.tuple [.int (i : Nat), x]) :: pairsFrom (i + 1) r
theorem pairsFrom_len : ∀ (xs : List PyData) (i : Nat), (pairsFrom i xs).length = xs.length
  | [], _ => rfl
  | _ :: r, i => congrArg (· + 1) (pairsFrom_len r (i + 1))
theorem pairsFrom_get : ∀ (xs : List PyData) (i j : Nat), (pairsFrom i xs)[j]? = (xs[j]?).map fun x => .d (.tuple [.int ((i + j : Nat) : Int), x])
  | [], i, j => by simp [pairsFrom]
  | x :: r, i, 0 => by simp [pairsFrom]
  | x :: r, i, j + 1 => by
    simp only [pairsFrom, List.getElem?_cons_succ]
    rw [pairsFrom_get r (i + 1) j]
    have e : i + 1 + j = i + (j + 1) := by omega
    rw [e]
@[reducible] def jiEnum (t : jTE) : jTI := fun δ ls Q => t δ ls fun x ls1 => match x with
  | .d (.list ds) => Q (pairsFrom 0 ds) anyLs ls1
  | _ => False
section
variable {X : Cx} {tg e : Expr} {te : jTE} {ta : jTA} {p pos tpos : Pos}
theorem piList (h : PEJ X e te) : PIJ X tg e (jiList te) := by
  obtain ⟨t0, p0, j0⟩ := h
  refine ⟨_, pi_list p0, fun E I H ls σ δ Q R V q W k => ?_⟩
  refine j0 E I H ls σ δ _ R V q _ fun v H1 ⟨I1, ls1, x, R1, s1, r1, q1⟩ => ?_
  unfold jiSeq at q1
  dsimp only at q1
  split at q1
  · cases r1 with | d r1 =>
      obtain ⟨a, vs, rfl, h, t⟩ := r1.lstI
      exact ⟨a, rfl, ⟨vs, SqL.of (R1.sub _ _ h)⟩, k _ _ _ _ _ _ R1 s1 (yl_sql t.rds fun E I' H ls R s _ => SqL.of (R.sub _ _ (s _ _ h))) q1⟩
  · rename_i ns
    cases r1 with | scr h =>
      refine ⟨_, rfl, ⟨_, R1.sub.seq h⟩, k _ _ _ _ _ _ R1 s1 (yl_sql ?_ fun E I' H ls R s _ => R.sub.seq (s.seq h)) q1⟩
      have all : ∀ ms : List Int, RDs X.K I1 (ms.map L2.V.int) (ms.map fun n => .d (.int n)) := fun ms => by
        induction ms with
        | nil => exact .nil
        | cons m r ih => exact .cons (.d (.int m)) ih
      exact all ns
  · obtain ⟨n, xs, hn, q1⟩ := q1
    cases r1
    obtain ⟨⟨vs, h1, h2⟩, _⟩ := R1.find hn rfl
    refine ⟨_, rfl, ⟨vs, SqL.of h1⟩, ?_⟩
    refine k _ _ _ _ _ _ R1 s1 ⟨fun E i I' H ls R s pl hi => ?_, fun E i I' H ls R s pl hi => ?_, fun E i I' H ls v H' R s pl hi y => ?_⟩ q1
    · obtain ⟨m, hm⟩ := pl
      obtain ⟨⟨us, g1, g2⟩, _⟩ := R.find hm rfl
      exact ⟨us, us[i]'(by rw [g2.length]; exact hi), SqL.of g1, by simp⟩
    · obtain ⟨m, hm⟩ := pl
      obtain ⟨⟨us, g1, g2⟩, _⟩ := R.find hm rfl
      exact ⟨us, SqL.of g1, by rw [g2.length]; exact hi⟩
    · obtain ⟨e, y⟩ := y
      subst e
      obtain ⟨m, hm⟩ := pl
      obtain ⟨⟨us, g1, g2⟩, _⟩ := R.find hm rfl
      obtain ⟨u, f1, f2⟩ := g2.get (List.getElem?_eq_getElem hi)
      have e := y us (SqL.of g1)
      rw [f1] at e; cases e
      exact ⟨I', xs[i], R, Same.refl I', List.getElem?_eq_getElem hi, f2⟩
  · exact q1.elim
theorem piTup (h : PEJ X e te) : PIJ X tg e (jiTup te) := by
  obtain ⟨t0, p0, j0⟩ := h
  refine ⟨_, pi_tup p0, fun E I H ls σ δ Q R V q W k => ?_⟩
  refine j0 E I H ls σ δ _ R V q _ fun v H1 ⟨I1, ls1, x, R1, s1, r1, q1⟩ => ?_
  dsimp only at q1
  split at q1
  · cases r1 with | d r1 =>
      obtain ⟨a, vs, rfl, h, t⟩ := r1.tupI
      exact ⟨a, rfl, ⟨vs, SqT.of (R1.sub _ _ h)⟩, k _ _ _ _ _ _ R1 s1 (yl_sqt t.rds fun E I' H ls R s _ => SqT.of (R.sub _ _ (s _ _ h))) q1⟩
  · cases r1 with | t h t => exact ⟨_, rfl, ⟨_, sqt_mono R1.sub h⟩, k _ _ _ _ _ _ R1 s1 (yl_sqt t fun E I' H ls R s _ => sqt_mono (s.trans R.sub) h) q1⟩
  · exact q1.elim
theorem yl_rng {K : PySem.W.Frag} {I : Hp} (lo : Int) (n : Nat) : Yl K I (Itr lo n) (intsFrom lo n) anyLs where
  go := fun E i I' H ls R s p hi => by
    have hi : i < (intsFrom lo n).length := hi
    simpa [intsFrom, Itr] using hi
  stop := fun E i I' H ls R s p hi => by
    have hi : (intsFrom lo n).length ≤ i := hi
    simpa [intsFrom, Itr] using hi
  yld := fun E i I' H ls v H' R s p hi y => by
    obtain ⟨e, y⟩ := y
    subst e y
    have hi : i < n := by simpa [intsFrom] using hi
    exact ⟨I', .d (.int (lo + i)), R, Same.refl I', by simp [intsFrom, hi], .d (.int _)⟩
theorem piRng1 {a : Expr} (hg : Gl X "range") (hm : X.mg "range" = none) (ha : PAJ X [a] ta) (hs : starEach [a] X.env = [(false, eval a X.env)] := by rfl) : PIJ X tg (.Call (.Name "range" p) [a] [] pos) (jiRng1 ta) := by
  obtain ⟨t0, p0, j0⟩ := ha
  refine ⟨_, pi_range1 hg hm p0 hs, fun E I H ls σ δ Q R V q W k => ?_⟩
  refine j0 E I H ls σ δ _ R V q _ fun v H1 ⟨I1, ls1, x, R1, s1, r1, q1⟩ => ?_
  dsimp only at q1
  split at q1
  · cases r1 with | cons r t => cases t; cases r with | d r => cases r; exact ⟨_, rfl, q1.1.1, q1.1.2, k _ _ _ _ _ _ R1 s1 (yl_rng 0 _) q1.2⟩
  · exact q1.elim
theorem piRng2 {a b : Expr} (hg : Gl X "range") (hm : X.mg "range" = none) (ha : PAJ X [a, b] ta) (hs : starEach [a, b] X.env = [(false, eval a X.env), (false, eval b X.env)] := by rfl) (hs2 : starEach [b] X.env = [(false, eval b X.env)] := by rfl) :
    PIJ X tg (.Call (.Name "range" p) [a, b] [] pos) (jiRng2 ta) := by
  obtain ⟨t0, p0, j0⟩ := ha
  refine ⟨_, pi_range2 hg hm p0 hs hs2, fun E I H ls σ δ Q R V q W k => ?_⟩
  refine j0 E I H ls σ δ _ R V q _ fun v H1 ⟨I1, ls1, x, R1, s1, r1, q1⟩ => ?_
  dsimp only at q1
  split at q1
  · cases r1 with | cons r t => cases t with | cons r2 t2 => cases t2; cases r with | d r => cases r; cases r2 with | d r2 => cases r2; exact ⟨_, _, rfl, q1.1, k _ _ _ _ _ _ R1 s1 (yl_rng _ _) q1.2⟩
  · exact q1.elim
theorem piStr (h : PEJ X e te) : PIJ X tg e (jiStr te) := by
  obtain ⟨t0, p0, j0⟩ := h
  refine ⟨_, pi_str p0, fun E I H ls σ δ Q R V q W k => ?_⟩
  refine j0 E I H ls σ δ _ R V q _ fun v H1 ⟨I1, ls1, x, R1, s1, r1, q1⟩ => ?_
  dsimp only at q1
  split at q1
  · rename_i s
    cases r1 with | d r1 =>
      cases r1
      refine ⟨s, rfl, k _ _ _ _ _ _ R1 s1 ⟨fun E i I' H ls R _ p hi => ?_, fun E i I' H ls R _ p hi => ?_, fun E i I' H ls v H' R _ p hi y => ?_⟩ q1⟩
      · simpa [Its] using hi
      · simpa [Its] using hi
      · obtain ⟨e, c, hc, y⟩ := y
        subst e y
        refine ⟨I', .d (.str ⟨#[c]⟩), R, Same.refl I', ?_, .d (.str _)⟩
        have hc : s.cps[i]? = some c := hc
        rw [List.getElem?_map, Array.getElem?_toList, hc]; rfl
  · exact q1.elim
theorem piEnum {elts : List Expr} {kk : Nat} (hg : Gl X "enumerate") (hm : X.mg "enumerate" = none) (he : PEJ X e te) (hs : starEach [e] X.env = [(false, eval e X.env)] := by rfl) (hs2 : starEach [e] X.env = (false, eval e X.env) :: starEach [] X.env := by rfl) :
    PIJ X (.Tuple elts kk tpos) (.Call (.Name "enumerate" p) [e] [] pos) (jiEnum te) := by
  obtain ⟨t0, p0, j0⟩ := he
  refine ⟨_, pi_enum hg hm (pa_cons p0 pa_nil hs2) hs, fun E I H ls σ δ Q R V q W k => ?_⟩
  refine j0 E I H ls σ δ _ R V q _ fun v H1 ⟨I1, ls1, x, R1, s1, r1, q1⟩ => ?_
  dsimp only at q1
  split at q1
  · rename_i ds
    cases r1 with | d r1 =>
      obtain ⟨a, vs, rfl, h, t⟩ := r1.lstI
      have sq : ∀ (E : Ent) (I' H : Hp) (ls : Ls), Rel E X.K I' H ls -> Same I1 I' -> SqL X.K H a vs := fun E I' H ls R s => SqL.of (R.sub _ _ (s _ _ h))
      have hl := t.length
      refine ⟨a, vs, rfl, SqL.of (R1.sub _ _ h), k _ _ _ _ _ _ R1 s1 ⟨fun E i I' H ls R s p hi => ?_, fun E i I' H ls R s p hi => ?_, fun E i I' H ls v H' R s p hi y => ?_⟩ q1⟩
      · rw [pairsFrom_len] at hi
        exact ⟨vs, vs[i]'(by omega), sq E I' H ls R s, by simp⟩
      · rw [pairsFrom_len] at hi
        exact ⟨vs, sq E I' H ls R s, by omega⟩
      · rw [pairsFrom_len] at hi
        obtain ⟨T, x, e1, hT, e2, y⟩ := y
        subst e1 e2
        have hx := y vs (sq E I' _ ls R s)
        obtain ⟨u, f1, f2⟩ := (t.rds (K := X.K)).get (i := i) (x := .d ds[i]) (by rw [List.getElem?_map, List.getElem?_eq_getElem hi]; rfl)
        rw [hx] at f1; cases f1
        obtain ⟨R2, s2⟩ := R.new (o := .tup [.int ((i : Nat) : Int), x]) hT
        refine ⟨_, .d (.tuple [.int ((i : Nat) : Int), ds[i]]), R2, s2, ?_, .d (.tup upd_same (.cons (.int _) (.cons ?_ .nil)))⟩
        · rw [pairsFrom_get, List.getElem?_eq_getElem hi, Nat.zero_add]; rfl
        · cases f2 with | d f2 => exact (f2.mono s).mono s2
  · exact q1.elim
end

/-! ### for -/
@[reducible] def jFor (ji : jTI) (g : jTG) (tb : jTS) : jTS := fun N δ ls => ji δ ls fun xs Pl ls1 => ∃ Iv : Nat -> Env -> Ls -> Prop, Iv 0 δ ls1 ∧
  (∀ i x δ ls, xs[i]? = some x -> Iv i δ ls -> Pl ls ∧ g x δ ls fun δ2 ls2 => tb { N with nx := Iv (i + 1), ct := Iv (i + 1), bk := N.nx } δ2 ls2) ∧ ∀ δ ls, Iv xs.length δ ls -> Pl ls ∧ N.nx δ ls
section
variable {X : Cx} {tg iter : Expr} {body : List Stmt} {ji : jTI} {g : jTG} {tb : jTS} {pos : Pos}
theorem psFor (hp : PassesOwn (model X.prog X.w) X.A X.env X.xe) (hc : X.calm = true) (hi : PIJ X tg iter ji) (hg : PGJ X tg g) (hb : PBJ X body tb)
    (hx : ∀ {wi : TI} {t0 : TG} {t1 : TS}, PI X tg iter wi -> PG X tg t0 -> PSs X body t1 -> PS X (.For tg iter body [] pos) (tFor wi t0 t1)) : PSJ X (.For tg iter body [] pos) (jFor ji g tb) := by
  obtain ⟨wi, p0, j0⟩ := hi
  obtain ⟨t1, p1, j1⟩ := hg
  obtain ⟨t2, p2, j2⟩ := hb
  refine ⟨_, hx p0 p1 p2, fun E I H ls σ δ N M R V k h => ?_⟩
  refine j0 E I H ls σ δ _ R V h _ fun J H1 I1 ls1 xs Pl R1 s1 Y ⟨Iv, h0, hs, hd⟩ => ?_
  have Rb : ∀ {I2 H2 ls2}, Rel ⟨I1, H1, adrs ls1⟩ X.K I2 H2 ls2 -> Rel E X.K I2 H2 ls2 := fun R2 => R1.back R2
  refine ⟨fun i m σ H => ∃ I δ ls, Rel ⟨I1, H1, adrs ls1⟩ X.K I H ls ∧ EnvR X.K I σ δ ∧ i + m = xs.length ∧ Iv i δ ls, ⟨xs.length, I1, δ, ls1, R1.self, V.mono s1, by omega, h0⟩, ?_⟩
  rintro i m σ H ⟨I, δ, ls, R2, V2, hm, hi⟩
  by_cases hlt : i < xs.length
  · obtain ⟨pl, q⟩ := hs i xs[i] δ ls (List.getElem?_eq_getElem hlt) hi
    refine .inr ⟨Y.go _ i I H ls R2 R2.up pl hlt, fun σ' H' => ∃ I δ ls, Rel ⟨I1, H1, adrs ls1⟩ X.K I H' ls ∧ EnvR X.K I σ' δ ∧ Iv (i + 1) δ ls, fun σ' H' ⟨I', δ', ls', R', V', z⟩ => ⟨m - 1, by omega, I', δ', ls', R', V', by omega, z⟩, fun v H' y => ?_⟩
    obtain ⟨I', x, R3, s3, hx, rx⟩ := Y.yld _ i I H ls v H' R2 R2.up pl hlt y
    rw [List.getElem?_eq_getElem hlt] at hx
    cases hx
    refine j1 _ I' H' ls σ δ v _ _ R3 (V2.mono s3) rx q _ fun σ2 H2 I4 δ2 ls2 R4 V4 s4 q4 => ?_
    exact j2 _ I4 H2 ls2 σ2 δ2 { N with nx := Iv (i + 1), ct := Iv (i + 1), bk := N.nx } _ R4 V4
      ⟨fun I' H' ls' σ' δ' R' V' q => ⟨I', δ', ls', R', V', q⟩, fun I' H' ls' v x R' r q => k.rt _ _ _ _ _ (Rb R') r q, fun I' H' ls' σ' δ' R' V' q => k.nx _ _ _ _ _ (Rb R') V' q, fun I' H' ls' σ' δ' R' V' q => ⟨I', δ', ls', R', V', q⟩⟩ q4
  · have e : i = xs.length := by omega
    subst e
    obtain ⟨pl, q⟩ := hd δ ls hi
    exact .inl ⟨Y.stop _ _ I H ls R2 R2.up pl (Nat.le_refl _), k.nx _ _ _ _ _ (Rb R2) V2 q⟩
end

/-! ### comprehensions -/
@[reducible] def wpe : Env -> Nat -> Env
  | [], _ => []
  | _ :: r, 0 => none :: r
  | x :: r, n + 1 => x :: wpe r n
theorem wpe_eq : ∀ (δ : Env) (n : Nat), wpe δ n = δ.set n none
  | [], _ => by simp [wpe]
  | _ :: _, 0 => by simp [wpe]
  | x :: r, n + 1 => by simp [wpe, wpe_eq r n]
@[reducible] def jwipe (δ : Env) : List Nat -> Env
  | [] => δ
  | v :: vs => wpe (jwipe δ vs) v
theorem wipe_env {K : PySem.W.Frag} {I : Hp} {σ : L2.St} {δ : Env} (V : EnvR K I σ δ) : ∀ vs : List Nat, EnvR K I (wipe σ vs) (jwipe δ vs)
  | [] => V
  | v :: vs => by
    have h := wipe_env V vs
    unfold wipe jwipe
    rw [wpe_eq]
    refine ⟨by rw [List.length_set, List.length_set]; exact h.1, fun j y q => ?_⟩
    by_cases hj : v = j
    · subst hj
      by_cases hl : v < (jwipe δ vs).length
      · rw [List.getElem?_set_self hl] at q; cases q
      · rw [List.getElem?_eq_none (by rw [List.length_set]; omega)] at q; cases q
    · rw [List.getElem?_set_ne hj] at q ⊢
      exact h.2 j y q
/-- the target sets the slots vs alone -/
def Sets (t : TG) (vs : List Nat) : Prop := ∀ v σ H Q, t v σ H Q -> t v σ H fun σ2 H2 => wipe σ2 vs = wipe σ vs ∧ Q σ2 H2
def SetsL (t : TGs) (vs : List Nat) : Prop := ∀ v σ H Q, t v σ H Q -> t v σ H fun σ2 H2 => wipe σ2 vs = wipe σ vs ∧ Q σ2 H2
theorem wipe_set {σ : L2.St} {i : Nat} {x : Option V} : ∀ {vs : List Nat}, i ∈ vs -> wipe (σ.set i x) vs = wipe σ vs
  | v :: vs, h => by
    unfold wipe
    by_cases hv : i ∈ vs
    · rw [wipe_set hv]
    · have e : i = v := by
        rcases List.mem_cons.mp h with h | h
        · exact h
        · exact absurd h hv
      subst e
      have aux : ∀ us : List Nat, i ∉ us -> wipe (σ.set i x) us = (wipe σ us).set i x := fun us => by
        induction us with
        | nil => intro _; rfl
        | cons u us ih =>
          intro hu
          simp only [List.mem_cons, not_or] at hu
          unfold wipe
          rw [ih hu.2, List.set_comm _ _ hu.1]
      rw [aux vs hv, List.set_set]
theorem wipe_wipe (σ : L2.St) : ∀ vs : List Nat, wipe (wipe σ vs) vs = wipe σ vs
  | [] => rfl
  | v :: vs => by
    have h := wipe_wipe σ vs
    have e : wipe (wipe σ (v :: vs)) (v :: vs) = wipe (wipe σ vs) (v :: vs) := wipe_set (vs := v :: vs) (List.mem_cons_self ..)
    rw [e]
    show (wipe (wipe σ vs) vs).set v none = (wipe σ vs).set v none
    rw [h]
def PGCJ (Xb : Shared -> Hp -> Addr -> List (Str × Addr) -> List Addr -> Cx) (K : PySem.W.Frag) (vs : List Nat) (e : Expr) (g : jTG) : Prop := ∃ t, (∀ s H C cl fp, PG (Xb s H C cl fp) e t) ∧ JG K t g ∧ Sets t vs
theorem pgcName {Xb : Shared -> Hp -> Addr -> List (Str × Addr) -> List Addr -> Cx} {K : PySem.W.Frag} {vs : List Nat} {x : Str} {pos : Pos} (i : Nat) (hi : i ∈ vs) (h : ∀ s H C cl fp, PG (Xb s H C cl fp) (.Name x pos) (gName i)) : PGCJ Xb K vs (.Name x pos) (jgName i) := by
  refine ⟨_, h, fun E I H ls σ δ v x Q R V r q W k => ?_, fun v σ H Q q => ⟨wipe_set hi, q⟩⟩
  unfold jgName at q
  rw [st_eq] at q
  exact k _ _ I _ ls R (V.set r i) (Same.refl I) q
theorem pgcTup2 {Xb : Shared -> Hp -> Addr -> List (Str × Addr) -> List Addr -> Cx} {K : PySem.W.Frag} {vs : List Nat} {e : Expr} (i j : Nat) (hi : i ∈ vs) (hj : j ∈ vs) (h : ∀ s H C cl fp, PG (Xb s H C cl fp) e (gTup K 2 (gCons (gName i) (gCons (gName j) gNil)))) :
    PGCJ Xb K vs e (jgTup 2 (jgCons (jgName i) (jgCons (jgName j) jgNil))) := by
  refine ⟨_, h, fun E I H ls σ δ v x Q R V r q W k => ?_, fun v σ H Q q => ?_⟩
  · have fin : ∀ us ys, RDs K I us ys -> jgCons (jgName i) (jgCons (jgName j) jgNil) ys δ ls Q -> gCons (gName i) (gCons (gName j) gNil) us σ H W := fun us ys rs q => by
      cases rs with
      | nil => exact q.elim
      | cons r1 t =>
        cases t with
        | nil => exact q.elim
        | cons r2 t =>
          obtain ⟨e, q⟩ := q
          cases t with
          | cons _ _ => cases e
          | nil =>
            rw [st_eq, st_eq] at q
            exact ⟨_, _, rfl, _, _, rfl, rfl, k _ _ I _ ls R ((V.set r1 i).set r2 j) (Same.refl I) q⟩
    unfold jgTup at q
    split at q
    · cases r with | d r =>
        obtain ⟨a, us, rfl, h1, t⟩ := r.tupI
        exact ⟨a, us, rfl, SqT.of (R.sub _ _ h1), by rw [t.length]; exact q.1, fin _ _ t.rds (by rw [← mapD_eq]; exact q.2)⟩
    · cases r with | t h1 t => exact ⟨_, _, rfl, sqt_mono R.sub h1, by rw [t.length]; exact q.1, fin _ _ t q.2⟩
    · exact q.elim
  · obtain ⟨a, us, e1, h1, h2, v1, r1, e2, v2, r2, e3, e4, q⟩ := q
    exact ⟨a, us, e1, h1, h2, v1, r1, e2, v2, r2, e3, e4, by rw [wipe_set hj, wipe_set hi], q⟩
@[reducible] def jLc (ji : jTI) (g : jTG) (tt : jTT) (te : jTE) (vs : List Nat) : jTE := fun δ ls Q => ji δ ls fun xs Pl ls1 => ∃ Iv : Nat -> List D -> Ls -> Prop, Iv 0 [] ls1 ∧
  (∀ i x acc ls, xs[i]? = some x -> Iv i acc ls -> Pl ls ∧ g x (jwipe δ vs) ls fun δ2 ls2 => tt δ2 ls2 fun b ls3 => if b = true then te δ2 ls3 fun y ls4 => acc.length < sizeLine ∧ Iv (i + 1) (acc ++ [y]) ls4 else Iv (i + 1) acc ls3) ∧
  ∀ acc ls, Iv xs.length acc ls -> Pl ls ∧ jNewL acc ls Q
@[reducible] def jYes : jTT := fun _ ls Q => Q true ls
/-- the tests of a clause -/
def PTsJ (Xb : Shared -> Hp -> Addr -> List (Str × Addr) -> List Addr -> Cx) (K : PySem.W.Frag) (ifs : List Expr) (t : jTT) : Prop := ∃ tt, (∀ s H C cl fp, PTs (Xb s H C cl fp) ifs tt) ∧ JT K tt t
theorem ptsN {Xb : Shared -> Hp -> Addr -> List (Str × Addr) -> List Addr -> Cx} {K : PySem.W.Frag} : PTsJ Xb K [] jYes := ⟨_, fun _ _ _ _ _ => pts_nil, fun E I H ls σ δ Q R V h W k => k _ _ ⟨I, ls, R, Same.refl I, h⟩⟩
theorem ptsU {Xb : Shared -> Hp -> Addr -> List (Str × Addr) -> List Addr -> Cx} {K : PySem.W.Frag} {c : Expr} {t : jTT} (hK : ∀ s H C cl fp, (Xb s H C cl fp).K = K) (h : ∀ s H C cl fp, PTJ (Xb s H C cl fp) c t) : PTsJ Xb K [c] t := by
  refine ⟨fun σ H Q => ∀ s H0 C cl fp, ∃ tt, PT (Xb s H0 C cl fp) c tt ∧ tt σ H Q, fun s H0 C cl fp => pts_one ⟨fun pins s1 σ H Q I hw => ?_⟩, fun E I H ls σ δ Q R V q W k s H0 C cl fp => ?_⟩
  · obtain ⟨tt, h1, h2⟩ := hw s H0 C cl fp
    exact h1.run pins s1 σ H Q I h2
  · obtain ⟨tt, h1, h2⟩ := h s H0 C cl fp
    rw [hK] at h2
    exact ⟨tt, h1, h2 E I H ls σ δ Q R V q W k⟩
/-- the element -/
def PEsJ (Xb : Shared -> Hp -> Addr -> List (Str × Addr) -> List Addr -> Cx) (K : PySem.W.Frag) (e : Expr) (t : jTE) : Prop := ∃ tt, (∀ s H C cl fp, PE (Xb s H C cl fp) e tt) ∧ JE K tt t
theorem pesU {Xb : Shared -> Hp -> Addr -> List (Str × Addr) -> List Addr -> Cx} {K : PySem.W.Frag} {c : Expr} {t : jTE} (hK : ∀ s H C cl fp, (Xb s H C cl fp).K = K) (h : ∀ s H C cl fp, PEJ (Xb s H C cl fp) c t) : PEsJ Xb K c t := by
  refine ⟨fun σ H Q => ∀ s H0 C cl fp, ∃ tt, PE (Xb s H0 C cl fp) c tt ∧ tt σ H Q, fun s H0 C cl fp => ⟨fun pins s1 σ H Q I hw => ?_⟩, fun E I H ls σ δ Q R V q W k s H0 C cl fp => ?_⟩
  · obtain ⟨tt, h1, h2⟩ := hw s H0 C cl fp
    exact h1.run pins s1 σ H Q I h2
  · obtain ⟨tt, h1, h2⟩ := h s H0 C cl fp
    rw [hK] at h2
    exact ⟨tt, h1, h2 E I H ls σ δ Q R V q W k⟩
theorem jlc_run {K : PySem.W.Frag} {wi : TI} {g : TG} {tt : TT} {te : TE} {vs : List Nat} {ji : jTI} {jg : jTG} {jt : jTT} {je : jTE} (hi : JI K wi ji) (hg : JG K g jg) (hs : Sets g vs) (ht : JT K tt jt) (he : JE K te je) : JE K (tLc wi g tt te vs) (jLc ji jg jt je vs) := by
  intro E I H ls σ δ Q R V h W k
  refine hi E I H ls σ δ _ R V h _ fun J H1 I1 ls1 xs Pl R1 s1 Y ⟨Iv, h0, hst, hd⟩ A hA => ?_
  have Rb : ∀ {I2 H2 ls2}, Rel ⟨I1, H1, adrs ls1⟩ K I2 H2 ls2 -> Rel E K I2 H2 ls2 := fun R2 => R1.back R2
  have start : Rel ⟨I1, H1, adrs ls1⟩ K I1 (upd H1 A (.lst [])) ((A, .lst []) :: ls1) := R1.self.fresh hA rfl ⟨[], upd_same, .nil⟩
  refine ⟨fun i m H => ∃ I ls acc, Rel ⟨I1, H1, adrs ls1⟩ K I H ((A, .lst acc) :: ls) ∧ i + m = xs.length ∧ Iv i acc ls, ⟨xs.length, I1, ls1, [], start, by omega, h0⟩, ?_⟩
  rintro i m H ⟨I2, ls2, acc, R2, hm, hi2⟩
  have R2d : Rel ⟨I1, H1, adrs ls1⟩ K I2 H ls2 := R2.drop (n := 0)
  by_cases hlt : i < xs.length
  · obtain ⟨pl, q⟩ := hst i xs[i] acc ls2 (List.getElem?_eq_getElem hlt) hi2
    refine .inr ⟨Y.go _ i I2 H ls2 R2d R2.up pl hlt, fun H' => ∃ I ls acc, Rel ⟨I1, H1, adrs ls1⟩ K I H' ((A, .lst acc) :: ls) ∧ Iv (i + 1) acc ls, fun H' ⟨I', ls', acc', R', z⟩ => ⟨m - 1, by omega, I', ls', acc', R', by omega, z⟩, fun v H' y => ?_⟩
    have R3 := Y.yld _ i I2 H ls2 v H' R2d.self R2.up pl hlt y
    obtain ⟨I', x, R3, s3, hx, rx⟩ := R3
    rw [List.getElem?_eq_getElem hlt] at hx
    cases hx
    have back : ∀ {I6 H6 ls6}, Rel ⟨I2, H, adrs ls2⟩ K I6 H6 ls6 -> Rel ⟨I1, H1, adrs ls1⟩ K I6 H6 ((A, .lst acc) :: ls6) := fun C => R2.frame (A := [(A, .lst acc)]) C
    have V3 : EnvR K I' (wipe σ vs) (jwipe δ vs) := wipe_env (((V.mono s1).mono R2.up).mono s3) vs
    have hs2 := fun W => hs v (wipe σ vs) H' W
    rw [wipe_wipe] at hs2
    refine hs2 _ ?_
    refine hg _ I' H' ls2 _ _ v _ _ R3 V3 rx q _ fun σ2 H2 I4 δ2 ls4 R4 V4 s4 q4 => ?_
    refine ht _ I4 H2 ls4 σ2 δ2 _ R4 V4 q4 _ fun b H5 ⟨I5, ls5, R5, s5, q5⟩ => ?_
    cases b with
    | false => exact ⟨I5, ls5, acc, back R5, q5⟩
    | true =>
      refine he _ I5 H5 ls5 σ2 δ2 _ R5 (V4.mono s5) q5 _ fun y H6 ⟨I6, ls6, z, R6, s6, r6, hl, q6⟩ => ?_
      have R7 := back R6
      obtain ⟨⟨us, h1, h2⟩, _⟩ := R7.find (n := 0) rfl rfl
      have ok : LOk K I6 (upd H6 A (.lst (us ++ [y]))) A (.lst (acc ++ [z])) := ⟨_, upd_same, h2.append (.cons r6 .nil)⟩
      exact ⟨us, h1, by rw [h2.length]; exact hl, I6, ls6, acc ++ [z], R7.upd (n := 0) rfl rfl rfl ok, q6⟩
  · have e : i = xs.length := by omega
    subst e
    obtain ⟨pl, q⟩ := hd acc ls2 hi2
    refine .inl ⟨Y.stop _ _ I2 H ls2 R2d R2.up pl (Nat.le_refl _), ?_⟩
    obtain ⟨⟨us, h1, h2⟩, _⟩ := (Rb R2).find (n := 0) rfl rfl
    rcases q with ⟨ds, hds, q⟩ | q
    · obtain ⟨R4, s4⟩ := (Rb R2).pub (n := 0) rfl rfl h1
      rw [allD_eq hds] at h2
      exact k _ _ ⟨_, ls2, _, R4, (s1.trans R2.up).trans s4, .d (.lst upd_same (h2.dn.mono s4)), q⟩
    · exact k _ _ ⟨I2, _, _, Rb R2, s1.trans R2.up, .a, q A⟩
section
variable {X : Cx} {elt tg iter : Expr} {ifs : List Expr} {scope : Scope} {own : List (Str × Nat)} {pos : Pos} {ji : jTI} {g : jTG} {tt : jTT} {te : jTE}
/-- the contexts of a comprehension's block -/
abbrev blkX (X : Cx) (scope : Scope) : Shared -> Hp -> Addr -> List (Str × Addr) -> List Addr -> Cx := fun s H C cl fp => X.blk s H scope (compEnvC scope cl C X.env) fp
theorem pjLc (hi : PIJ X tg iter ji) (hg : PGCJ (blkX X scope) X.K (own.map (·.2)) tg g) (ht : PTsJ (blkX X scope) X.K ifs tt) (he : PEsJ (blkX X scope) X.K elt te)
    (hp : ∀ {wi : TI} {t0 : TG} {t1 : TT} {t2 : TE}, PI X tg iter wi -> (∀ s H C cl fp, PG (blkX X scope s H C cl fp) tg t0) -> (∀ s H C cl fp, PTs (blkX X scope s H C cl fp) ifs t1) -> (∀ s H C cl fp, PE (blkX X scope s H C cl fp) elt t2) ->
      PE X (.ListComp elt [⟨tg, iter, ifs, 0⟩] scope pos) (tLc wi t0 t1 t2 (own.map (·.2)))) : PEJ X (.ListComp elt [⟨tg, iter, ifs, 0⟩] scope pos) (jLc ji g tt te (own.map (·.2))) := by
  obtain ⟨wi, p0, j0⟩ := hi
  obtain ⟨t1, p1, j1, s1⟩ := hg
  obtain ⟨t2, p2, j2⟩ := ht
  obtain ⟨t3, p3, j3⟩ := he
  exact ⟨_, hp p0 p1 p2 p3, jlc_run j0 j1 s1 j2 j3⟩
theorem psSetLc {i : Nat} {y : Str} {py spos : Pos} (hi : PIJ X tg iter ji) (hg : PGCJ (blkX X scope) X.K (own.map (·.2)) tg g) (ht : PTsJ (blkX X scope) X.K ifs tt) (he : PEsJ (blkX X scope) X.K elt te)
    (hp : ∀ {wi : TI} {t0 : TG} {t1 : TT} {t2 : TE}, PI X tg iter wi -> (∀ s H C cl fp, PG (blkX X scope s H C cl fp) tg t0) -> (∀ s H C cl fp, PTs (blkX X scope s H C cl fp) ifs t1) -> (∀ s H C cl fp, PE (blkX X scope s H C cl fp) elt t2) ->
      PS X (.Assign [.Name y py] (.ListComp elt [⟨tg, iter, ifs, 0⟩] scope pos) spos) (tAsg (tLc wi t0 t1 t2 (own.map (·.2))) (gName i))) :
    PSJ X (.Assign [.Name y py] (.ListComp elt [⟨tg, iter, ifs, 0⟩] scope pos) spos) (jAsg (jLc ji g tt te (own.map (·.2))) (jgName i)) := by
  obtain ⟨wi, p0, j0⟩ := hi
  obtain ⟨t1, p1, j1, s1⟩ := hg
  obtain ⟨t2, p2, j2⟩ := ht
  obtain ⟨t3, p3, j3⟩ := he
  refine ⟨_, hp p0 p1 p2 p3, fun E I H ls σ δ N M R V k h => ?_⟩
  refine jlc_run j0 j1 s1 j2 j3 E I H ls σ δ _ R V h _ fun v H1 ⟨I1, ls1, y, R1, s1, r1, q1⟩ => ?_
  unfold jgName at q1
  dsimp only at q1
  rw [st_eq] at q1
  exact k.nx _ _ _ _ _ R1 ((V.mono s1).set r1 i) q1
end
end J

/-! J6: defs that may be called, short words for the printed terms. -/
namespace J
open PySem PySem.Spec PyProof.Rows L2

@[reducible] def startR : List Str -> List D -> Env
  | [], _ => []
  | _ :: r, [] => none :: startR r []
  | _ :: r, d :: ds => some d :: startR r ds
theorem startR_nil : ∀ N : List Str, startR N [] = List.replicate N.length none
  | [] => rfl
  | _ :: r => by rw [startR, startR_nil r]; rfl
theorem startR_eq : ∀ (N : List Str) (ds : List D), ds.length ≤ N.length -> startR N ds = startJ N ds
  | [], [], _ => rfl
  | x :: r, [], _ => by rw [startR_nil]; simp [startJ]
  | x :: r, d :: ds, h => by
    rw [startR, startR_eq r ds (by simpa using h)]
    simp [startJ]
  | [], d :: ds, h => by simp at h

section
variable (P : Program) (w : World) (K : PySem.W.Frag) (mg : Str -> Option Value) (base : Heap)
/-- a def of the module, to be called -/
def Cal (k : Nat) (x : Str) (ps : List Str) (js : JSp) : Prop := ∃ f fd, FnOk P w K mg base CX0 k f fd ps (spJ K js) ∧ mg x = some (.ref f) ∧ PySem.W.keepIn K (.ref f) = true ∧ Binds K fd ps []
/-- a method, to be called -/
def Cam (k : Nat) (C : Addr) (m : Str) (ps : List Str) (js : JSp) : Prop := ∃ f fd, FnOk P w K mg base CX0 k f fd ps (spJ K js) ∧ Meth K C m f ∧ Binds K fd ps []
/-- a class, to be called -/
def Cak (k : Nat) (x : Str) (C : Addr) (ps : List Str) (js : JSp) : Prop := ∃ f fd, FnOk P w K mg base CX0 k f fd ps (spJ K js) ∧ Mk K C f ∧ mg x = some (.ref C) ∧ Binds K fd ps []
end
/-- the def's text stands there -/
def Df (K : PySem.W.Frag) (mg : Str -> Option Value) (x : Str) (st : Stmt) : Prop := ∃ f fd, Fun K x x st f fd ∧ mg x = some (.ref f)
def Dm (K : PySem.W.Frag) (C : Addr) (m qual : Str) (st : Stmt) : Prop := ∃ f fd, Fun K m qual st f fd ∧ Meth K C m f
def Dk (K : PySem.W.Frag) (mg : Str -> Option Value) (x : Str) (C : Addr) (qual : Str) (st : Stmt) : Prop := ∃ f fd, Fun K "__init__" qual st f fd ∧ Mk K C f ∧ mg x = some (.ref C)

section
variable {P : Program} {w : World} {K : PySem.W.Frag} {mg : Str -> Option Value} {base : Heap}
/-- a def's body runs here -/
abbrev cx (P : Program) (w : World) (K : PySem.W.Frag) (mg : Str -> Option Value) (base : Heap) (N : List Str) (qual : Str) (st : Stmt) (f : Addr) (cdv : Value) (A : Around) (outer : List PySem.Env) (s : Shared) (H : Hp) (E : XK) : Cx :=
  (cxOf CX0 P w K mg base N qual (defScope st) f cdv A outer s H E).nox
abbrev rm (k : Nat) (qual : Str) (st : Stmt) (f : Addr) (cdv : Value) (A : Around) (s : Shared) : Prop := Room k (A.deeper (envOfC qual (defScope st) s.heap.objs.size f cdv))
def Body (P : Program) (w : World) (K : PySem.W.Frag) (mg : Str -> Option Value) (base : Heap) (k : Nat) (N : List Str) (qual : Str) (st : Stmt) (js : JSp) : Prop :=
  ∀ (f : Addr) (cdv : Value) (A : Around) (outer : List PySem.Env) (s : Shared) (H : Hp) (E : XK), rm k qual st f cdv A s ->
    ∃ t, PBJ (cx P w K mg base N qual st f cdv A outer s H E) (defBody st) t ∧ ∀ ds ls R, js ds ls R -> t { nx := fun _ ls' => R (.d .none) ls', rt := R } (startR N ds) ls
theorem Body.ok {x qual : Str} {st : Stmt} {f : Addr} {fd : FuncData} {N ps : List Str} {k : Nat} {js : JSp} (F : Fun K x qual st f fd) (S : FnScope N ps (defScope st)) (len : ∀ ds ls Q, js ds ls Q -> ds.length = ps.length) (h : Body P w K mg base k N qual st js) :
    FnOk P w K mg base CX0 (k + 1) f fd ps (spJ K js) := by
  refine fnJ F S len fun cdv A outer s H vs Q E hr => ?_
  obtain ⟨t, h1, h2⟩ := h f cdv A outer s H E hr
  refine ⟨t, h1, fun ds ls R q => ?_⟩
  have hl := len _ _ _ q
  have hp : ps.length ≤ N.length := by
    have e := congrArg List.length S.pre
    rw [List.length_take] at e
    omega
  rw [← startR_eq N ds (by omega)]
  exact h2 ds ls R q
abbrev BindsH (x qual : Str) (st : Stmt) (ps : List Str) : Prop := ∀ (kV doc pm : Value) (an : Option Addr) (cdv ct : Value) (us : List Value), us.length = ps.length -> bindArgs (PySem.W.fnOf x qual (defArgs st) (defBody st) (defScope st) .none kV doc pm an cdv ct) ⟨us, []⟩ = pure (ps.zip us)
theorem Df.cal {x : Str} {st : Stmt} {N ps : List Str} {k : Nat} {js : JSp} (D : Df K mg x st) (b : BindsH x x st ps) (S : FnScope N ps (defScope st)) (len : ∀ ds ls Q, js ds ls Q -> ds.length = ps.length) (h : Body P w K mg base k N x st js) : Cal P w K mg base (k + 1) x ps js := by
  obtain ⟨f, fd, F, m⟩ := D
  exact ⟨f, fd, h.ok F S len, m, F.kp, F.binds b⟩
theorem Dm.cam {C : Addr} {x qual : Str} {st : Stmt} {N ps : List Str} {k : Nat} {js : JSp} (D : Dm K C x qual st) (b : BindsH x qual st ps) (S : FnScope N ps (defScope st)) (len : ∀ ds ls Q, js ds ls Q -> ds.length = ps.length) (h : Body P w K mg base k N qual st js) : Cam P w K mg base (k + 1) C x ps js := by
  obtain ⟨f, fd, F, m⟩ := D
  exact ⟨f, fd, h.ok F S len, m, F.binds b⟩
theorem Dk.cak {C : Addr} {x qual : Str} {st : Stmt} {N ps : List Str} {k : Nat} {js : JSp} (D : Dk K mg x C qual st) (b : BindsH "__init__" qual st ps) (S : FnScope N ps (defScope st)) (len : ∀ ds ls Q, js ds ls Q -> ds.length = ps.length) (h : Body P w K mg base k N qual st js) : Cak P w K mg base (k + 1) x C ps js := by
  obtain ⟨f, fd, F, m, g⟩ := D
  exact ⟨f, fd, h.ok F S len, m, g, F.binds b⟩
end

/-! ### what a def has laid and leaves behind may be forgotten -/
theorem Rel.dropN {E : Ent} {K : PySem.W.Frag} {I H : Hp} : ∀ (k : Nat) {ls : Ls}, Rel E K I H ls -> Rel E K I H (ls.drop k)
  | 0, _, R => R
  | _ + 1, [], R => R
  | k + 1, x :: r, R => Rel.dropN k (ls := r) (R.drop (n := 0))
abbrev Gb (R : D -> Ls -> Prop) : D -> Ls -> Prop := fun x ls => ∃ k : Nat, R x (ls.drop k)
section
variable {P : Program} {w : World} {K : PySem.W.Frag} {mg : Str -> Option Value} {base : Heap}
def BodyG (P : Program) (w : World) (K : PySem.W.Frag) (mg : Str -> Option Value) (base : Heap) (k : Nat) (N : List Str) (qual : Str) (st : Stmt) (js : JSp) : Prop :=
  ∀ (f : Addr) (cdv : Value) (A : Around) (outer : List PySem.Env) (s : Shared) (H : Hp) (E : XK), rm k qual st f cdv A s ->
    ∃ t, PBJ (cx P w K mg base N qual st f cdv A outer s H E) (defBody st) t ∧ ∀ ds ls R, js ds ls R -> t { nx := fun _ ls' => Gb R (.d .none) ls', rt := Gb R } (startR N ds) ls
theorem BodyG.ok {x qual : Str} {st : Stmt} {f : Addr} {fd : FuncData} {N ps : List Str} {k : Nat} {js : JSp} (F : Fun K x qual st f fd) (S : FnScope N ps (defScope st)) (len : ∀ ds ls Q, js ds ls Q -> ds.length = ps.length) (hb : BodyG P w K mg base k N qual st js) :
    FnOk P w K mg base CX0 (k + 1) f fd ps (spJ K js) := by
  refine F.ok S (fun vs H Q E h => ?_) (fun cdv A outer s H vs Q E hr h => ?_)
  · obtain ⟨I, ls, ds, W, R, r, h, _⟩ := h
    rw [r.length]; exact len _ _ _ h
  · obtain ⟨I, ls, ds, W, R, r, h, kk⟩ := h
    obtain ⟨t, ⟨ts, h1, h2⟩, h3⟩ := hb f cdv A outer s H E hr
    have hl := len _ _ _ h
    have hp : ps.length ≤ N.length := by
      have e := congrArg List.length S.pre
      rw [List.length_take] at e
      omega
    have h3 := h3 _ _ _ h
    rw [startR_eq N ds (by omega)] at h3
    refine ⟨ts, h1, h2 ⟨I, H, adrs ls⟩ I H ls _ _ { nx := fun _ ls' => Gb W (.d .none) ls', rt := Gb W } _ R (start_env r) ⟨fun I' H' ls' σ δ R' _ ⟨n, q⟩ => ?_, fun I' H' ls' v x R' r' ⟨n, q⟩ => ?_, fun _ _ _ _ _ _ _ (q : False) => q.elim, fun _ _ _ _ _ _ _ (q : False) => q.elim⟩ h3⟩
    · exact kk _ _ _ I' H' (R'.dropN n) (.d .non) q
    · exact kk _ _ _ I' H' (R'.dropN n) r' q
theorem Df.calG {x : Str} {st : Stmt} {N ps : List Str} {k : Nat} {js : JSp} (D : Df K mg x st) (b : BindsH x x st ps) (S : FnScope N ps (defScope st)) (len : ∀ ds ls Q, js ds ls Q -> ds.length = ps.length) (h : BodyG P w K mg base k N x st js) : Cal P w K mg base (k + 1) x ps js := by
  obtain ⟨f, fd, F, m⟩ := D
  exact ⟨f, fd, h.ok F S len, m, F.kp, F.binds b⟩
theorem Dm.camG {C : Addr} {x qual : Str} {st : Stmt} {N ps : List Str} {k : Nat} {js : JSp} (D : Dm K C x qual st) (b : BindsH x qual st ps) (S : FnScope N ps (defScope st)) (len : ∀ ds ls Q, js ds ls Q -> ds.length = ps.length) (h : BodyG P w K mg base k N qual st js) : Cam P w K mg base (k + 1) C x ps js := by
  obtain ⟨f, fd, F, m⟩ := D
  exact ⟨f, fd, h.ok F S len, m, F.binds b⟩
theorem Dk.cakG {C : Addr} {x qual : Str} {st : Stmt} {N ps : List Str} {k : Nat} {js : JSp} (D : Dk K mg x C qual st) (b : BindsH "__init__" qual st ps) (S : FnScope N ps (defScope st)) (len : ∀ ds ls Q, js ds ls Q -> ds.length = ps.length) (h : BodyG P w K mg base k N qual st js) : Cak P w K mg base (k + 1) x C ps js := by
  obtain ⟨f, fd, F, m, g⟩ := D
  exact ⟨f, fd, h.ok F S len, m, g, F.binds b⟩
end

section
variable {X : Cx} {k j : Nat}
theorem hu1 (hr : Room k X.A) : X.A.units + 1 < cLine := by have := hr.un; omega
theorem hu64 (hr : Room k X.A) : X.A.units + 64 < cLine := by have := hr.un; omega
theorem hu65 (hr : Room k X.A) : X.A.units + 65 < cLine := by have := hr.un; omega
variable {x m : Str} {ps : List Str} {js : JSp} {e o : Expr} {es : List Expr} {t : jTA} {ta : jTE} {p pos apos : Pos} {C : Addr}
theorem pjC (c : Cal X.prog X.w X.K X.mg X.base k x ps js) (hr : Room j X.A) (ha : PAJ X (e :: es) t) (hk : k ≤ j := by first | decide | omega) (hg : Gl X x := by rfl) (hdb : (x == ("__debug__" : Str)) = false := by decide)
    (he : starEach (e :: es) X.env = (false, eval e X.env) :: starEach es X.env := by rfl) (hpl : (backTo pos (starEach es X.env)).any (·.1) = false := by rfl) : PEJ X (.Call (.Name x p) (e :: es) [] pos) (jCall js t) := by
  obtain ⟨f, fd, F, m, kp, b⟩ := c
  exact pjCall F ha fun p0 => pe_call F (hr.mono hk) hg m kp b .nil pass0 p0 hdb he hpl
theorem pjMt {pl : Sem Bool} (c : Cls X.K C) (M : Cam X.prog X.w X.K X.mg X.base k C m ps js) (hr : Room j X.A) (ho : PEJ X o ta) (ha : PAJ X (e :: es) t) (hk : k ≤ j := by first | decide | omega)
    (hst : starEach (e :: es) X.env = (false, eval e X.env) :: starEach es X.env := by rfl) (hpl : (backTo pos (starEach es X.env)).any (·.1) = false := by rfl)
    (ht : eval (.Call (.Attribute o m apos) (e :: es) [] pos) X.env = (do
      let ov ← eval o X.env
      standAt apos.atName
      let (f, first) ← holding [ov] (getMethod ov m pl)
      callWith pos f first (backTo pos (starEach (e :: es) X.env)) (backToKw pos (keywordEach [] X.env))) := by rfl) : PEJ X (.Call (.Attribute o m apos) (e :: es) [] pos) (jMeth C m js ta t) := by
  obtain ⟨f, fd, F, mt, b⟩ := M
  exact pjMeth ho ha fun p0 p1 => pe_meth p0 c mt F (hr.mono hk) b .nil pass0 p1 hst hpl ht
theorem pjMk (M : Cak X.prog X.w X.K X.mg X.base k x C ps js) (hr : Room j X.A) (ha : PAJ X (e :: es) t) (hk : k + 1 ≤ j := by first | decide | omega) (hg : Gl X x := by rfl) (hdb : (x == ("__debug__" : Str)) = false := by decide)
    (he : starEach (e :: es) X.env = (false, eval e X.env) :: starEach es X.env := by rfl) (hpl : (backTo pos (starEach es X.env)).any (·.1) = false := by rfl) : PEJ X (.Call (.Name x p) (e :: es) [] pos) (jMake C js t) := by
  obtain ⟨f, fd, F, mk, m, b⟩ := M
  exact pjMake ha fun p0 => pe_make mk F (hr.mono hk) hg m b .nil pass0 p0 hdb he hpl
theorem pjBi {id : String} {r : jRA} (hc : CallJ X (.builtin id) r) (hm : X.mg x = none) (ha : PAJ X (e :: es) t) (hg : Gl X x := by rfl) (hv : bootBuiltins x = some (.builtin id) := by decide +kernel) (hn : x ≠ "__name__" := by decide) (hdb : (x == ("__debug__" : Str)) = false := by decide)
    (he : starEach (e :: es) X.env = (false, eval e X.env) :: starEach es X.env := by rfl) (hpl : (backTo pos (starEach es X.env)).any (·.1) = false := by rfl) : PEJ X (.Call (.Name x p) (e :: es) [] pos) (jCB r t) :=
  pjB hc hg hm hv ha fun p0 => pe_callB callU hg hm hv p0 hn hdb he hpl
theorem pjTi {T : String} {r : jRA} (hc : CallJ X (.type T) r) (hm : X.mg x = none) (ha : PAJ X (e :: es) t) (hg : Gl X x := by rfl) (hv : bootBuiltins x = some (.type T) := by decide +kernel) (hn : x ≠ "__name__" := by decide) (hdb : (x == ("__debug__" : Str)) = false := by decide)
    (he : starEach (e :: es) X.env = (false, eval e X.env) :: starEach es X.env := by rfl) (hpl : (backTo pos (starEach es X.env)).any (·.1) = false := by rfl) : PEJ X (.Call (.Name x p) (e :: es) [] pos) (jCB r t) :=
  pjTy hc hg hm hv ha fun p0 => pe_callTy callU hg hm hv p0 hn hdb he hpl
theorem pjIs {y : Str} {T : String} {q : Pos} {a : Expr} (hm : X.mg "isinstance" = none) (hm2 : X.mg y = none) (ha : PEJ X a ta) (hv2 : bootBuiltins y = some (.type T) := by decide +kernel) (hg : Gl X "isinstance" := by rfl) (hg2 : Gl X y := by rfl) (hn2 : y ≠ "__name__" := by decide) (hd2 : (y == ("__debug__" : Str)) = false := by decide)
    (hs : starEach [a, .Name y q] X.env = (false, eval a X.env) :: starEach [.Name y q] X.env := by rfl) (hs2 : starEach [.Name y q] X.env = (false, eval (.Name y q) X.env) :: starEach [] X.env := by rfl)
    (hpl : (backTo pos (starEach [.Name y q] X.env)).any (·.1) = false := by rfl) : PEJ X (.Call (.Name "isinstance" p) [a, .Name y q] [] pos) (jIsi T ta) :=
  pjIsi hg hm hg2 hm2 hv2 ha hn2 hd2 hs hs2 fun p0 => pe_callB call_isi hg hm (by decide +kernel) p0 (by decide) (by decide) hs hpl
/-- constants of the module -/
theorem pjGi {i : Int} {tk : Tok} (hm : X.mg x = some (.int i tk)) (hg : Gl X x := by rfl) (hd : (x == ("__debug__" : Str)) = false := by decide) : PEJ X (.Name x pos) (jC (.d (.int i))) := pglJ (v := .int i) hg hm ⟨_, rfl⟩ (fun _ => .d (.int i)) hd
theorem pjGs {i : Str} {tk : Tok} (hm : X.mg x = some (.str i tk)) (hg : Gl X x := by rfl) (hd : (x == ("__debug__" : Str)) = false := by decide) : PEJ X (.Name x pos) (jC (.d (.str i))) := pglJ (v := .str i) hg hm ⟨_, rfl⟩ (fun _ => .d (.str i)) hd
theorem pjApp (he : PEJ X o ta) (ha : PEJ X e ta') (hbase : attributeBase o "append" X.env (eval o X.env) = eval o X.env := by rfl)
    (hfew : ((backTo pos (starEach [e] X.env)).all (fun x => !x.1) && (backToKw pos (keywordEach [] X.env)).all (fun x => x.1.isSome) && decide (([e] : List Expr).length + ([] : List Keyword).length + (if ([] : List Keyword).isEmpty then 0 else 1) < 30)) = true := by rfl)
    (hline : (apos.endLine == pos.line) = true := by rfl) (hs : starEach [e] X.env = (false, eval e X.env) :: starEach [] X.env := by rfl) (hplain : (backTo pos (starEach [] X.env)).any (·.1) = false := by rfl) : PEJ X (.Call (.Attribute o "append" apos) [e] [] pos) (jAppend ta (jCons ta' jNil)) :=
  pjAppend he (paCons ha paNil hs) fun p0 p1 => pe_bm PySem.F.plainAttrs_list PySem.F.slot_list_append PySem.F.type_list_append mt_append p0 p1 hbase hfew hline hs hplain
theorem pjExt (he : PEJ X o ta) (ha : PEJ X e ta') (hbase : attributeBase o "extend" X.env (eval o X.env) = eval o X.env := by rfl)
    (hfew : ((backTo pos (starEach [e] X.env)).all (fun x => !x.1) && (backToKw pos (keywordEach [] X.env)).all (fun x => x.1.isSome) && decide (([e] : List Expr).length + ([] : List Keyword).length + (if ([] : List Keyword).isEmpty then 0 else 1) < 30)) = true := by rfl)
    (hline : (apos.endLine == pos.line) = true := by rfl) (hs : starEach [e] X.env = (false, eval e X.env) :: starEach [] X.env := by rfl) (hplain : (backTo pos (starEach [] X.env)).any (·.1) = false := by rfl) : PEJ X (.Call (.Attribute o "extend" apos) [e] [] pos) (jExtend ta (jCons ta' jNil)) :=
  pjExtend he (paCons ha paNil hs) fun p0 p1 => pe_bm PySem.F.plainAttrs_list PySem.F.slot_list_extend PySem.F.type_list_extend mt_extend p0 p1 hbase hfew hline hs hplain
theorem pjGt {f : Expr} {tb tc : jTE} (hr : Room j X.A) (ho : PEJ X o ta) (he : PEJ X e tb) (hf : PEJ X f tc) (h1 : attributeBase o "get" X.env (eval o X.env) = eval o X.env := by rfl)
    (h2 : ((backTo pos (starEach [e, f] X.env)).all (fun x => !x.1) && (backToKw pos (keywordEach [] X.env)).all (fun x => x.1.isSome) && decide (([e, f] : List Expr).length + ([] : List Keyword).length + (if ([] : List Keyword).isEmpty then 0 else 1) < 30)) = true := by rfl)
    (h3 : (apos.endLine == pos.line) = true := by rfl) (h4 : backTo pos (starEach [e, f] X.env) = [(false, eval e X.env), (false, eval f X.env)] := by rfl) : PEJ X (.Call (.Attribute o "get" apos) [e, f] [] pos) (jGet ta tb tc) := pjGet (hu1 hr) ho he hf ⟨h1, h2, h3, h4⟩
theorem pgSb {i : Expr} {to ti : jTE} (hr : Room j X.A) (ho : PEJ X o to) (hi : PEJ X i ti)
    (ha : ∀ v, assign (.Subscript o i pos) X.env v = (do
      let ov ← holding [v] (eval o X.env)
      let iv ← holding [v, ov] (eval i X.env)
      standAt pos
      holding [v, ov, iv] (setItem ov iv v)
      release [v, ov, iv] []) := by intro _; rfl) : PGJ X (.Subscript o i pos) (jgSub to ti) := pgSub (hu1 hr) ho hi fun p0 p1 => pg_sub p0 p1 setU ha
theorem psFr {tg iter : Expr} {body : List Stmt} {ji : jTI} {g : jTG} {tb : jTS} (hp : PassesOwn (model X.prog X.w) X.A X.env X.xe) (hc : X.calm = true) (hi : PIJ X tg iter ji) (hg : PGJ X tg g) (hb : PBJ X body tb)
    (hs : ∀ x, foldedSetIterable iter X.env x = pure x := by intro _; rfl) : PSJ X (.For tg iter body [] pos) (jFor ji g tb) := psFor hp hc hi hg hb fun p0 p1 p2 => ps_for hp hc p0 p1 p2 hs
theorem psAg {i : Nat} {te : jTE} {op : Operator} {r : jR2} {pos' : Pos} (hN : X.N.Nodup) (ho : OpJ X (inplaceOp op) r) (he : PEJ X e te) (hi : X.N[i]? = some x := by rfl) (hx : Loc X.env.scope x := by first | exact .inl rfl | exact .inr rfl)
    (hf : X.fn x = true ∨ X.env.scope.names.lookup x = some .local := by first | exact .inl rfl | exact .inr rfl) : PSJ X (.AugAssign (.Name x pos') op e pos) (jAug i te r) := psAug ho he fun p0 => ps_aug hN hi hx p0 ipU hf
theorem ojIAdd : OpJ X (inplaceOp .Add) (jInt2 fun i j => .int (i + j)) := oj2 iop_add fun _ _ _ => .int _
theorem ojISub : OpJ X (inplaceOp .Sub) (jInt2 fun i j => .int (i - j)) := oj2 iop_sub fun _ _ _ => .int _
theorem ojIAnd : OpJ X (inplaceOp .BitAnd) (jInt2 fun i j => .int (Builtin.bitAnd i j)) := oj2 iop_and fun _ _ _ => .int _
/-- comprehensions -/
theorem pjLC {vs : List Nat} {elt tg iter : Expr} {ifs : List Expr} {scope : Scope} {own : List (Str × Nat)} {ji : jTI} {g : jTG} {tt : jTT} {te : jTE} (hc : X.calm = true) (hN : X.N.Nodup) (ok : BlkOk X.N X.env.scope scope own)
    (hi : PIJ X tg iter ji) (hg : PGCJ (blkX X scope) X.K (own.map (·.2)) tg g) (ht : PTsJ (blkX X scope) X.K ifs tt) (he : PEsJ (blkX X scope) X.K elt te) (hs : ∀ x, foldedSetIterable iter X.env x = pure x := by intro _; rfl) (hv : own.map (·.2) = vs := by rfl) :
    PEJ X (.ListComp elt [⟨tg, iter, ifs, 0⟩] scope pos) (jLc ji g tt te vs) := by subst hv; exact pjLc hi hg ht he fun p0 p1 p2 p3 => pe_lc hc hN p0 ok p1 p2 p3 hs
theorem psSLC {vs : List Nat} {i : Nat} {y : Str} {py spos : Pos} {elt tg iter : Expr} {ifs : List Expr} {scope : Scope} {own : List (Str × Nat)} {ji : jTI} {g : jTG} {tt : jTT} {te : jTE} (hc : X.calm = true) (hN : X.N.Nodup) (ok : BlkOk X.N X.env.scope scope own)
    (hi : PIJ X tg iter ji) (hg : PGCJ (blkX X scope) X.K (own.map (·.2)) tg g) (ht : PTsJ (blkX X scope) X.K ifs tt) (he : PEsJ (blkX X scope) X.K elt te) (hy : X.N[i]? = some y := by rfl) (hyl : X.env.scope.names.lookup y = some .local := by rfl)
    (hk : X.env.scope.kind = .function := by rfl) (hl : (py.line == pos.line) = true := by rfl) (ha : (scope.names.any fun (n, k) => n == y && (k == .local || k == .cell)) = false := by decide +kernel)
    (hs : ∀ x, foldedSetIterable iter X.env x = pure x := by intro _; rfl) (hv : own.map (·.2) = vs := by rfl) : PSJ X (.Assign [.Name y py] (.ListComp elt [⟨tg, iter, ifs, 0⟩] scope pos) spos) (jAsg (jLc ji g tt te vs) (jgName i)) := by
  subst hv
  exact psSetLc hi hg ht he fun p0 p1 p2 p3 => ps_setLc hc hN hy hyl (sw_true hk hyl hl ha) p0 ok p1 p2 p3 hs
end
end J

/-! J7: loops by their items, lemmas of everyday. -/
namespace J
open PySem PySem.Spec PyProof.Rows L2

theorem intsFrom_get {lo : Int} {n i : Nat} {x : D} (h : (intsFrom lo n)[i]? = some x) : i < n ∧ x = .d (.int (lo + (i : Int))) := by
  unfold intsFrom at h
  rw [List.getElem?_map] at h
  cases e : (List.range n)[i]? with
  | none => rw [e] at h; cases h
  | some j =>
    rw [e] at h
    have hj := List.getElem?_eq_some_iff.mp e
    obtain ⟨h1, h2⟩ := hj
    simp at h1 h2
    subst h2
    simp at h
    exact ⟨h1, h.symm⟩
theorem intsFrom_len (lo : Int) (n : Nat) : (intsFrom lo n).length = n := by simp [intsFrom]
section
variable {δ : Env} {ls : Ls} {N : JEnds} {g : jTG} {tb : jTS} {Q : D -> Ls -> Prop}
abbrev Turn1 (xs : List D) (Pl : Ls -> Prop) (g : jTG) (tb : jTS) (N : JEnds) (δ : Env) (ls1 : Ls) : Prop := ∃ Iv : Nat -> Env -> Ls -> Prop, Iv 0 δ ls1 ∧
  (∀ i x δ ls, xs[i]? = some x -> Iv i δ ls -> Pl ls ∧ g x δ ls fun δ2 ls2 => tb { N with nx := Iv (i + 1), ct := Iv (i + 1), bk := N.nx } δ2 ls2) ∧ ∀ δ ls, Iv xs.length δ ls -> Pl ls ∧ N.nx δ ls
/-- for over a range -/
theorem forR {lo : Int} {n : Nat} (Iv : Nat -> Env -> Ls -> Prop) (h0 : Iv 0 δ ls)
    (hs : ∀ (i : Nat) δ ls, i < n -> Iv i δ ls -> g (.d (.int (lo + (i : Int)))) δ ls fun δ2 ls2 => tb { N with nx := Iv (i + 1), ct := Iv (i + 1), bk := N.nx } δ2 ls2) (hd : ∀ δ ls, Iv n δ ls -> N.nx δ ls) : Turn1 (intsFrom lo n) anyLs g tb N δ ls :=
  ⟨Iv, h0, fun i x δ ls hx h => by obtain ⟨h1, rfl⟩ := intsFrom_get hx; exact ⟨trivial, hs i δ ls h1 h⟩, fun δ ls h => ⟨trivial, hd δ ls (by rw [intsFrom_len] at h; exact h)⟩⟩
/-- for over data -/
theorem forD {ds : List PyData} (Iv : Nat -> Env -> Ls -> Prop) (h0 : Iv 0 δ ls)
    (hs : ∀ (i : Nat) (d : PyData) δ ls, ds[i]? = some d -> Iv i δ ls -> g (.d d) δ ls fun δ2 ls2 => tb { N with nx := Iv (i + 1), ct := Iv (i + 1), bk := N.nx } δ2 ls2) (hd : ∀ δ ls, Iv ds.length δ ls -> N.nx δ ls) : Turn1 (ds.map .d) anyLs g tb N δ ls :=
  ⟨Iv, h0, fun i x δ ls hx h => by
    rw [List.getElem?_map] at hx
    cases e : ds[i]? with
    | none => rw [e] at hx; cases hx
    | some d => rw [e] at hx; cases hx; exact ⟨trivial, hs i d δ ls e h⟩, fun δ ls h => ⟨trivial, hd δ ls (by rw [List.length_map] at h; exact h)⟩⟩
/-- for over data that an f makes -/
theorem forM {α : Type} {f : α -> PyData} {as : List α} (Iv : Nat -> Env -> Ls -> Prop) (h0 : Iv 0 δ ls)
    (hs : ∀ (i : Nat) (a : α) δ ls, as[i]? = some a -> Iv i δ ls -> g (.d (f a)) δ ls fun δ2 ls2 => tb { N with nx := Iv (i + 1), ct := Iv (i + 1), bk := N.nx } δ2 ls2) (hd : ∀ δ ls, Iv as.length δ ls -> N.nx δ ls) : Turn1 ((as.map f).map .d) anyLs g tb N δ ls :=
  forD Iv h0 (fun i d δ ls hx h => by
    rw [List.getElem?_map] at hx
    cases e : as[i]? with
    | none => rw [e] at hx; cases hx
    | some a => rw [e] at hx; cases hx; exact hs i a δ ls e h) fun δ ls h => hd δ ls (by rw [List.length_map] at h; exact h)
/-- .. as long as something stands -/
theorem forMP {α : Type} {f : α -> PyData} {as : List α} {Pl : Ls -> Prop} (Iv : Nat -> Env -> Ls -> Prop) (h0 : Iv 0 δ ls) (hp : ∀ i δ ls, Iv i δ ls -> Pl ls)
    (hs : ∀ (i : Nat) (a : α) δ ls, as[i]? = some a -> Iv i δ ls -> g (.d (f a)) δ ls fun δ2 ls2 => tb { N with nx := Iv (i + 1), ct := Iv (i + 1), bk := N.nx } δ2 ls2) (hd : ∀ δ ls, Iv as.length δ ls -> N.nx δ ls) : Turn1 ((as.map f).map .d) Pl g tb N δ ls :=
  ⟨Iv, h0, fun i x δ ls hx h => by
    rw [List.map_map, List.getElem?_map] at hx
    cases e : as[i]? with
    | none => rw [e] at hx; cases hx
    | some d => rw [e] at hx; cases hx; exact ⟨hp _ _ _ h, hs i d δ ls e h⟩, fun δ ls h => by
      rw [List.length_map, List.length_map] at h
      exact ⟨hp _ _ _ h, hd δ ls h⟩⟩
/-- for over anything that an f makes -/
theorem forF {α : Type} {f : α -> D} {as : List α} (Iv : Nat -> Env -> Ls -> Prop) (h0 : Iv 0 δ ls)
    (hs : ∀ (i : Nat) (a : α) δ ls, as[i]? = some a -> Iv i δ ls -> g (f a) δ ls fun δ2 ls2 => tb { N with nx := Iv (i + 1), ct := Iv (i + 1), bk := N.nx } δ2 ls2) (hd : ∀ δ ls, Iv as.length δ ls -> N.nx δ ls) : Turn1 (as.map f) anyLs g tb N δ ls :=
  ⟨Iv, h0, fun i x δ ls hx h => by
    rw [List.getElem?_map] at hx
    cases e : as[i]? with
    | none => rw [e] at hx; cases hx
    | some a => rw [e] at hx; cases hx; exact ⟨trivial, hs i a δ ls e h⟩, fun δ ls h => ⟨trivial, hd δ ls (by rw [List.length_map] at h; exact h)⟩⟩

/-! ### comprehensions that make a filtered image -/
variable {tt : jTT} {te : jTE} {vs : List Nat}
abbrev Comp1 (xs : List D) (Pl : Ls -> Prop) (g : jTG) (tt : jTT) (te : jTE) (vs : List Nat) (δ : Env) (ls1 : Ls) (Q : D -> Ls -> Prop) : Prop := ∃ Iv : Nat -> List D -> Ls -> Prop, Iv 0 [] ls1 ∧
  (∀ i x acc ls, xs[i]? = some x -> Iv i acc ls -> Pl ls ∧ g x (jwipe δ vs) ls fun δ2 ls2 => tt δ2 ls2 fun b ls3 => if b = true then te δ2 ls3 fun y ls4 => acc.length < sizeLine ∧ Iv (i + 1) (acc ++ [y]) ls4 else Iv (i + 1) acc ls3) ∧
  ∀ acc ls, Iv xs.length acc ls -> Pl ls ∧ jNewL acc ls Q
theorem take_map_succ {α β : Type} (f : α -> Option β) (as : List α) (i : Nat) (a : α) (h : as[i]? = some a) : (as.take (i + 1)).filterMap f = (as.take i).filterMap f ++ (f a).toList := by
  rw [List.take_add_one, h, List.filterMap_append]
  congr 1
/-- as: what is gone through; f a: what it gives, if anything; nothing else changes -/
theorem compF {α : Type} {src : α -> D} {as : List α} {Pl : Ls -> Prop} (f : α -> Option D) (hp : Pl ls) (hl : as.length ≤ sizeLine)
    (hs : ∀ (i : Nat) (a : α) (acc : List D) (W : List D -> Ls -> Prop), as[i]? = some a -> acc.length < sizeLine -> (∀ y, f a = some y -> W (acc ++ [y]) ls) -> (f a = none -> W acc ls) ->
      g (src a) (jwipe δ vs) ls fun δ2 ls2 => tt δ2 ls2 fun b ls3 => if b = true then te δ2 ls3 fun y ls4 => acc.length < sizeLine ∧ W (acc ++ [y]) ls4 else W acc ls3)
    (hd : jNewL (as.filterMap f) ls Q) : Comp1 (as.map src) Pl g tt te vs δ ls Q := by
  refine ⟨fun i acc ls' => ls' = ls ∧ acc = (as.take i).filterMap f, ⟨rfl, by simp⟩, fun i x acc ls' hx h => ?_, fun acc ls' h => ?_⟩
  · obtain ⟨rfl, rfl⟩ := h
    rw [List.getElem?_map] at hx
    cases e : as[i]? with
    | none => rw [e] at hx; cases hx
    | some a =>
      rw [e] at hx; cases hx
      have hi : i < as.length := (List.getElem?_eq_some_iff.mp e).1
      have hz : ((as.take i).filterMap f).length < sizeLine := by
        have h1 := List.length_filterMap_le f (as.take i)
        rw [List.length_take] at h1
        omega
      refine ⟨hp, hs i a _ (fun acc ls' => ls' = _ ∧ acc = (as.take (i + 1)).filterMap f) e hz (fun y hy => ⟨rfl, ?_⟩) fun hn => ⟨rfl, ?_⟩⟩
      · rw [take_map_succ f as i a e, hy]; rfl
      · rw [take_map_succ f as i a e, hn]; simp
  · obtain ⟨rfl, rfl⟩ := h
    rw [List.length_map, List.take_length]
    exact ⟨hp, hd⟩
theorem compR {lo : Int} {n : Nat} {Pl : Ls -> Prop} (f : Nat -> Option D) (hp : Pl ls) (hl : n ≤ sizeLine)
    (hs : ∀ (i : Nat) (acc : List D) (W : List D -> Ls -> Prop), i < n -> acc.length < sizeLine -> (∀ y, f i = some y -> W (acc ++ [y]) ls) -> (f i = none -> W acc ls) ->
      g (.d (.int (lo + (i : Int)))) (jwipe δ vs) ls fun δ2 ls2 => tt δ2 ls2 fun b ls3 => if b = true then te δ2 ls3 fun y ls4 => acc.length < sizeLine ∧ W (acc ++ [y]) ls4 else W acc ls3)
    (hd : jNewL ((List.range n).filterMap f) ls Q) : Comp1 (intsFrom lo n) Pl g tt te vs δ ls Q := by
  refine compF (as := List.range n) f hp (by simpa using hl) (fun i a acc W ha hz k1 k2 => ?_) hd
  have e := List.getElem?_eq_some_iff.mp ha
  obtain ⟨h1, h2⟩ := e
  simp at h1 h2
  subst h2
  exact hs i acc W h1 hz k1 k2
theorem compM {α : Type} {src : α -> PyData} {as : List α} {Pl : Ls -> Prop} (f : α -> Option D) (hp : Pl ls) (hl : as.length ≤ sizeLine)
    (hs : ∀ (i : Nat) (a : α) (acc : List D) (W : List D -> Ls -> Prop), as[i]? = some a -> acc.length < sizeLine -> (∀ y, f a = some y -> W (acc ++ [y]) ls) -> (f a = none -> W acc ls) ->
      g (.d (src a)) (jwipe δ vs) ls fun δ2 ls2 => tt δ2 ls2 fun b ls3 => if b = true then te δ2 ls3 fun y ls4 => acc.length < sizeLine ∧ W (acc ++ [y]) ls4 else W acc ls3)
    (hd : jNewL (as.filterMap f) ls Q) : Comp1 ((as.map src).map .d) Pl g tt te vs δ ls Q := by
  rw [List.map_map]
  exact compF (src := fun a => .d (src a)) f hp hl hs hd
theorem fm_some {α β : Type} (f : α -> β) : ∀ l : List α, (l.filterMap fun a => some (f a)) = l.map f
  | [] => rfl
  | a :: r => by rw [List.filterMap_cons, List.map_cons, fm_some f r]
theorem newL_d {ds : List PyData} {ls : Ls} {Q : D -> Ls -> Prop} {xs : List D} (e : xs = ds.map .d) (q : Q (.d (.list ds)) ls) : jNewL xs ls Q := .inl ⟨ds, by rw [e]; exact allD_map ds, q⟩
theorem newL_l {ls : Ls} {Q : D -> Ls -> Prop} {xs : List D} (q : ∀ p, Q (.a p) ((p, .lst xs) :: ls)) : jNewL xs ls Q := .inr q
theorem newL_e {ds : List PyData} {ls : Ls} {Q : D -> Ls -> Prop} {xs : List D} (e : allD xs = some ds) (q : Q (.d (.list ds)) ls) : jNewL xs ls Q := .inl ⟨ds, e, q⟩
theorem pow_bd {k n : Nat} (h : k ≤ n) : 0 < (2 : Int) ^ k ∧ (2 : Int) ^ k ≤ 2 ^ n := by
  have h1 : (2 : Nat) ^ k ≤ 2 ^ n := Nat.pow_le_pow_right (by decide) h
  have h2 : 0 < (2 : Nat) ^ k := Nat.pow_pos (by decide)
  have e : ∀ m : Nat, ((2 ^ m : Nat) : Int) = (2 : Int) ^ m := fun m => by push_cast; rfl
  have e1 := e k
  have e2 := e n
  omega
/-- by an invariant -/
theorem compRI {lo : Int} {n : Nat} (Iv : Nat -> List D -> Ls -> Prop) (h0 : Iv 0 [] ls)
    (hs : ∀ (i : Nat) acc ls, i < n -> Iv i acc ls -> g (.d (.int (lo + (i : Int)))) (jwipe δ vs) ls fun δ2 ls2 => tt δ2 ls2 fun b ls3 => if b = true then te δ2 ls3 fun y ls4 => acc.length < sizeLine ∧ Iv (i + 1) (acc ++ [y]) ls4 else Iv (i + 1) acc ls3)
    (hd : ∀ acc ls, Iv n acc ls -> jNewL acc ls Q) : Comp1 (intsFrom lo n) anyLs g tt te vs δ ls Q :=
  ⟨Iv, h0, fun i x acc ls hx h => by obtain ⟨h1, rfl⟩ := intsFrom_get hx; exact ⟨trivial, hs i acc ls h1 h⟩, fun acc ls h => ⟨trivial, hd acc ls (by rw [intsFrom_len] at h; exact h)⟩⟩
theorem compFI {α : Type} {src : α -> D} {as : List α} {Pl : Ls -> Prop} (Iv : Nat -> List D -> Ls -> Prop) (h0 : Iv 0 [] ls)
    (hs : ∀ (i : Nat) (a : α) acc ls, as[i]? = some a -> Iv i acc ls -> Pl ls ∧ g (src a) (jwipe δ vs) ls fun δ2 ls2 => tt δ2 ls2 fun b ls3 => if b = true then te δ2 ls3 fun y ls4 => acc.length < sizeLine ∧ Iv (i + 1) (acc ++ [y]) ls4 else Iv (i + 1) acc ls3)
    (hd : ∀ acc ls, Iv as.length acc ls -> Pl ls ∧ jNewL acc ls Q) : Comp1 (as.map src) Pl g tt te vs δ ls Q :=
  ⟨Iv, h0, fun i x acc ls hx h => by
    rw [List.getElem?_map] at hx
    cases e : as[i]? with
    | none => rw [e] at hx; cases hx
    | some a => rw [e] at hx; cases hx; exact hs i a acc ls e h, fun acc ls h => hd acc ls (by rw [List.length_map] at h; exact h)⟩
end
end J

/-! J8: dicts that are walked, displays of dicts, texts' methods. -/
namespace J
open PySem PySem.Spec PyProof.Rows L2

/-! ### a dict that a for walks stands still -/
@[reducible] def lkN (N : JEnds) (p : Addr) (l l' : LO) : JEnds where
  nx := fun δ ls => ∃ m : Nat, ls[m]? = some (p, l) ∧ N.nx δ (ls.set m (p, l'))
  rt := fun x ls => ∃ m : Nat, ls[m]? = some (p, l) ∧ N.rt x (ls.set m (p, l'))
  bk := fun δ ls => ∃ m : Nat, ls[m]? = some (p, l) ∧ N.bk δ (ls.set m (p, l'))
  ct := fun δ ls => ∃ m : Nat, ls[m]? = some (p, l) ∧ N.ct δ (ls.set m (p, l'))
@[reducible] def jLock (i : Nat) (t : jTS) : jTS := fun N δ ls => match lk δ i with
  | some (.a p) => ∃ (n : Nat) (l : LO), ls[n]? = some (p, l) ∧ (match l with
    | .dct kvs => ∀ o vs, t (lkN N p (.dctL o vs kvs) (.dct kvs)) δ (ls.set n (p, .dctL o vs kvs))
    | .dki kvs => ∀ o vs, t (lkN N p (.dkiL o vs kvs) (.dki kvs)) δ (ls.set n (p, .dkiL o vs kvs))
    | _ => False)
  | _ => False
@[reducible] def jLockE (i : Nat) (t : jTE) : jTE := fun δ ls Q => match lk δ i with
  | some (.a p) => ∃ (n : Nat) (l : LO), ls[n]? = some (p, l) ∧ (match l with
    | .dct kvs => ∀ o vs, t δ (ls.set n (p, .dctL o vs kvs)) fun x ls' => ∃ m : Nat, ls'[m]? = some (p, .dctL o vs kvs) ∧ Q x (ls'.set m (p, .dct kvs))
    | .dki kvs => ∀ o vs, t δ (ls.set n (p, .dkiL o vs kvs)) fun x ls' => ∃ m : Nat, ls'[m]? = some (p, .dkiL o vs kvs) ∧ Q x (ls'.set m (p, .dki kvs))
    | _ => False)
  | _ => False
section
variable {E : Ent} {K : PySem.W.Frag} {I H : Hp} {ls : Ls}
theorem Rel.lockT (R : Rel E K I H ls) {p : Addr} {n : Nat} {kvs : List (List Key × D)} (h : ls[n]? = some (p, .dct kvs)) : ∃ vs, H p = some (.dT vs) ∧ ∀ od, Rel E K I (L2.upd H p (.frz od (.dT vs))) (ls.set n (p, .dctL od vs kvs)) := by
  obtain ⟨⟨vs, h1, h2⟩, _⟩ := R.find h rfl
  exact ⟨vs, h1, fun od => R.upd (l' := .dctL od vs kvs) h rfl rfl ⟨upd_same, h2⟩⟩
theorem Rel.lockK (R : Rel E K I H ls) {p : Addr} {n : Nat} {kvs : List (Key × D)} (h : ls[n]? = some (p, .dki kvs)) : ∃ vs, H p = some (.dK vs) ∧ ∀ od, Rel E K I (L2.upd H p (.frz od (.dK vs))) (ls.set n (p, .dkiL od vs kvs)) := by
  obtain ⟨⟨vs, h1, h2⟩, _⟩ := R.find h rfl
  exact ⟨vs, h1, fun od => R.upd (l' := .dkiL od vs kvs) h rfl rfl ⟨upd_same, h2⟩⟩
theorem Rel.openT (R : Rel E K I H ls) {p : Addr} {n : Nat} {od : Obj} {vs : List (List Key × V)} {kvs : List (List Key × D)} (h : ls[n]? = some (p, .dctL od vs kvs)) : H p = some (.frz od (.dT vs)) ∧ Rel E K I (L2.upd H p (.dT vs)) (ls.set n (p, .dct kvs)) := by
  obtain ⟨⟨h1, h2⟩, _⟩ := R.find h rfl
  exact ⟨h1, R.upd (l' := .dct kvs) h rfl rfl ⟨vs, upd_same, h2⟩⟩
theorem Rel.openK (R : Rel E K I H ls) {p : Addr} {n : Nat} {od : Obj} {vs : List (Key × V)} {kvs : List (Key × D)} (h : ls[n]? = some (p, .dkiL od vs kvs)) : H p = some (.frz od (.dK vs)) ∧ Rel E K I (L2.upd H p (.dK vs)) (ls.set n (p, .dki kvs)) := by
  obtain ⟨⟨h1, h2⟩, _⟩ := R.find h rfl
  exact ⟨h1, R.upd (l' := .dki kvs) h rfl rfl ⟨vs, upd_same, h2⟩⟩
end
section
variable {X : Cx} {e : Expr} {te : jTE}
theorem psLock (i : Nat) {s : Stmt} {t : jTS} (h : PSJ X s t) : PSJ X s (jLock i t) := by
  obtain ⟨t0, p0, j0⟩ := h
  refine ⟨_, ps_lock p0, fun E I H ls σ δ N M R V k q => ?_⟩
  unfold jLock at q
  split at q
  rotate_left 1
  · exact q.elim
  obtain ⟨n, l, hn, q⟩ := q
  split at q
  · obtain ⟨vs, h1, hl⟩ := R.lockT hn
    refine ⟨_, _, h1, True.intro, fun od => ?_⟩
    refine j0 E I _ _ σ δ (lkN N _ (.dctL od vs _) (.dct _)) _ (hl od) V ⟨fun I' H' ls' σ' δ' R' V' ⟨m, hm, q⟩ => ?_, fun I' H' ls' v x R' r ⟨m, hm, q⟩ => ?_, fun I' H' ls' σ' δ' R' V' ⟨m, hm, q⟩ => ?_, fun I' H' ls' σ' δ' R' V' ⟨m, hm, q⟩ => ?_⟩ (q od vs)
    · exact ⟨(R'.openT hm).1, k.nx _ _ _ _ _ (R'.openT hm).2 V' q⟩
    · exact ⟨(R'.openT hm).1, k.rt _ _ _ _ _ (R'.openT hm).2 r q⟩
    · exact ⟨(R'.openT hm).1, k.bk _ _ _ _ _ (R'.openT hm).2 V' q⟩
    · exact ⟨(R'.openT hm).1, k.ct _ _ _ _ _ (R'.openT hm).2 V' q⟩
  · obtain ⟨vs, h1, hl⟩ := R.lockK hn
    refine ⟨_, _, h1, True.intro, fun od => ?_⟩
    refine j0 E I _ _ σ δ (lkN N _ (.dkiL od vs _) (.dki _)) _ (hl od) V ⟨fun I' H' ls' σ' δ' R' V' ⟨m, hm, q⟩ => ?_, fun I' H' ls' v x R' r ⟨m, hm, q⟩ => ?_, fun I' H' ls' σ' δ' R' V' ⟨m, hm, q⟩ => ?_, fun I' H' ls' σ' δ' R' V' ⟨m, hm, q⟩ => ?_⟩ (q od vs)
    · exact ⟨(R'.openK hm).1, k.nx _ _ _ _ _ (R'.openK hm).2 V' q⟩
    · exact ⟨(R'.openK hm).1, k.rt _ _ _ _ _ (R'.openK hm).2 r q⟩
    · exact ⟨(R'.openK hm).1, k.bk _ _ _ _ _ (R'.openK hm).2 V' q⟩
    · exact ⟨(R'.openK hm).1, k.ct _ _ _ _ _ (R'.openK hm).2 V' q⟩
  · exact q.elim
theorem pjLock (i : Nat) (h : PEJ X e te) : PEJ X e (jLockE i te) := by
  obtain ⟨t0, p0, j0⟩ := h
  refine ⟨_, pe_lock p0, fun E I H ls σ δ Q R V q W k => ?_⟩
  unfold jLockE at q
  split at q
  rotate_left 1
  · exact q.elim
  obtain ⟨n, l, hn, q⟩ := q
  split at q
  · obtain ⟨vs, h1, hl⟩ := R.lockT hn
    refine ⟨_, _, h1, True.intro, fun od => ?_⟩
    refine j0 E I _ _ σ δ _ (hl od) V (q od vs) _ fun v H' ⟨I', ls', x, R', s', r', m, hm, q'⟩ => ?_
    exact ⟨(R'.openT hm).1, k _ _ ⟨I', _, x, (R'.openT hm).2, s', r', q'⟩⟩
  · obtain ⟨vs, h1, hl⟩ := R.lockK hn
    refine ⟨_, _, h1, True.intro, fun od => ?_⟩
    refine j0 E I _ _ σ δ _ (hl od) V (q od vs) _ fun v H' ⟨I', ls', x, R', s', r', m, hm, q'⟩ => ?_
    exact ⟨(R'.openK hm).1, k _ _ ⟨I', _, x, (R'.openK hm).2, s', r', q'⟩⟩
  · exact q.elim
end

/-! ### for k in d -/
@[reducible] def keyP : Key -> PyData
  | .inl i => .int i
  | .inr s => .str s
@[reducible] def keyT (ks : List Key) : PyData := .tuple (ks.map keyP)
theorem keyP_dn {I : Hp} (k : Key) : Dn I (kV k) (keyP k) := by cases k with | inl i => exact .int i | inr s => exact .str s
theorem keysP_dn {I : Hp} : ∀ ks : List Key, DnAll I (ks.map kV) (ks.map keyP)
  | [] => .nil
  | k :: r => .cons (keyP_dn k) (keysP_dn r)
theorem keysD_P : ∀ ks : List Key, keysD (ks.map keyP) = some ks
  | [] => rfl
  | k :: r => by simp only [List.map_cons, keysD, keysD_P r]; cases k <;> rfl
theorem kvr_get {κ : Type} {K : PySem.W.Frag} {I : Hp} {vs : List (κ × V)} {kvs : List (κ × D)} (r : KvR K I vs kvs) : ∀ {i : Nat} {k : κ} {v : V}, vs[i]? = some (k, v) -> ∃ x, kvs[i]? = some (k, x) ∧ RD K I v x := by
  induction r with
  | nil => intro i k v h; simp at h
  | @cons a b as bs q t ih =>
    intro i k v h
    cases i with
    | zero =>
      simp only [List.getElem?_cons_zero, Option.some.injEq] at h
      subst h
      exact ⟨b.2, by simp only [List.getElem?_cons_zero, Option.some.injEq]; exact Prod.ext q.1.symm rfl, q.2⟩
    | succ i => simp only [List.getElem?_cons_succ] at h ⊢; exact ih h
/-- what is walked -/
@[reducible] def jiKeys (t : jTE) : jTI := fun δ ls Q => t δ ls fun x ls1 => match x with
  | .a p => ∃ (n : Nat) (l : LO), ls1[n]? = some (p, l) ∧ (match l with
    | .dctL o vs kvs => Q (kvs.map fun kv => .d (keyT kv.1)) (fun ls' => ∃ m : Nat, ls'[m]? = some (p, .dctL o vs kvs)) ls1
    | .dkiL o vs kvs => Q (kvs.map fun kv => .d (keyP kv.1)) (fun ls' => ∃ m : Nat, ls'[m]? = some (p, .dkiL o vs kvs)) ls1
    | _ => False)
  | _ => False
section
variable {X : Cx} {tg e : Expr} {te : jTE}
theorem piKeys (h : PEJ X e te) : PIJ X tg e (jiKeys te) := by
  obtain ⟨t0, p0, j0⟩ := h
  refine ⟨_, pi_keys p0, fun E I H ls σ δ Q R V q W k => ?_⟩
  refine j0 E I H ls σ δ _ R V q _ fun v H1 ⟨I1, ls1, x, R1, s1, r1, q1⟩ => ?_
  dsimp only at q1
  split at q1
  rotate_left 1
  · exact q1.elim
  rename_i p
  obtain ⟨n, l, hn, q1⟩ := q1
  cases r1
  split at q1
  · rename_i o vs kvs
    obtain ⟨⟨h1, h2⟩, _⟩ := R1.find hn rfl
    refine ⟨p, o, rfl, .inr ⟨vs, h1, k _ _ _ _ _ _ R1 s1 ⟨fun E i I' H ls R s pl hi => ?_, fun E i I' H ls R s pl hi => ?_, fun E i I' H ls v H' R s pl hi y => ?_⟩ q1⟩⟩
    · obtain ⟨m, hm⟩ := pl
      obtain ⟨⟨g1, g2⟩, _⟩ := R.find hm rfl
      exact ⟨g1, by rw [kv_len g2]; simpa using hi⟩
    · obtain ⟨m, hm⟩ := pl
      obtain ⟨⟨g1, g2⟩, _⟩ := R.find hm rfl
      exact ⟨g1, by rw [kv_len g2]; simpa using hi⟩
    · obtain ⟨e, kk, u, b, hk, rfl, hb⟩ := y
      subst e
      obtain ⟨m, hm⟩ := pl
      obtain ⟨⟨g1, g2⟩, _⟩ := R.find hm rfl
      obtain ⟨x, hx, _⟩ := kvr_get g2 hk
      obtain ⟨I2, R2, s2, e2⟩ := R.tup hb
      exact ⟨I2, .d (keyT kk), R2, s2, by rw [List.getElem?_map, hx]; rfl, .d (.tup e2 (keysP_dn kk))⟩
  · rename_i o vs kvs
    obtain ⟨⟨h1, h2⟩, _⟩ := R1.find hn rfl
    refine ⟨p, o, rfl, .inl ⟨vs, h1, k _ _ _ _ _ _ R1 s1 ⟨fun E i I' H ls R s pl hi => ?_, fun E i I' H ls R s pl hi => ?_, fun E i I' H ls v H' R s pl hi y => ?_⟩ q1⟩⟩
    · obtain ⟨m, hm⟩ := pl
      obtain ⟨⟨g1, g2⟩, _⟩ := R.find hm rfl
      exact ⟨g1, by rw [kv_len g2]; simpa using hi⟩
    · obtain ⟨m, hm⟩ := pl
      obtain ⟨⟨g1, g2⟩, _⟩ := R.find hm rfl
      exact ⟨g1, by rw [kv_len g2]; simpa using hi⟩
    · obtain ⟨e, kk, u, hk, rfl⟩ := y
      subst e
      obtain ⟨m, hm⟩ := pl
      obtain ⟨⟨g1, g2⟩, _⟩ := R.find hm rfl
      obtain ⟨x, hx, _⟩ := kvr_get g2 hk
      exact ⟨I', .d (keyP kk), R, Same.refl I', by rw [List.getElem?_map, hx]; rfl, .d (keyP_dn kk)⟩
  · exact q1.elim
end

/-! ### for k, v in d.items(), the keys tuples -/
def ItiT (d : Addr) (od : Obj) (ents : List (List Key × V)) : It where
  go := fun n H => H d = some (.frz od (.dT ents)) ∧ n < ents.length
  yld := fun n H v H' => ∃ (t q : Addr) (k : List Key) (y : V), ents[n]? = some (k, y) ∧ v = .ref t ∧ H q = some (.tup (k.map kV)) ∧ H t = none ∧ H' = upd H t (.tup [.ref q, y])
  stop := fun n H => H d = some (.frz od (.dT ents)) ∧ ents.length ≤ n
theorem frzT_all {X : Cx} {pins : List (Addr × Obj)} {σ : L2.St} {H : Hp} {s : Shared} {d : Addr} {od : Obj} {ents : List (List Key × V)} (J : Inv X pins σ H s) (h : H d = some (.frz od (.dT ents))) :
    (d == sysModules) = false ∧ s.heap.get? d = some od ∧ od.ExactDict ∧ ∃ (arr : Array DictEntry) (ep : Nat), od.data = .dict arr ep ∧ arr.size = ents.length ∧
      ∀ (n : Nat) (k : List Key) (y : V), ents[n]? = some (k, y) -> ∃ (en : DictEntry) (q : Addr), arr[n]? = some en ∧ en.key = .ref q ∧ H q = some (.tup (k.map kV)) ∧ RelV y en.val := by
  obtain ⟨hd, _, hs, xs, pr, o2, arr, ep, ho, hx, hdt, he, _⟩ := J.hok d _ h
  rw [hd] at ho
  cases ho
  have l1 : arr.size = xs.length := size_of_entries he
  have l2 : ents.length = xs.length := Paired.length pr
  refine ⟨hs, hd, hx, arr, ep, hdt, by omega, fun n k y e => ?_⟩
  obtain ⟨b, hb, e1, e2, e3⟩ := paired_get pr e
  have z := entry_at he n
  rw [hb] at z
  exact ⟨_, b.2.1, z, rfl, e2, e3⟩
theorem turn_itemsT {P : Program} {w : World} {K : PySem.W.Frag} {d : Addr} {od : Obj} {arr : Array DictEntry} {ep : Nat} {ents : List (List Key × V)} {elts : List Expr} {kk : Nat} {tpos : Pos} (ia : Addr) (hod : od.data = .dict arr ep) (hz : arr.size = ents.length) :
    Turn P w K (.Tuple elts kk tpos) (ItiT d od ents) [ia] ia (fun n h => ∃ a b, IsItemIter h ia d n arr.size ep a b) where
  mem := List.mem_singleton.mpr rfl
  obj := fun n h ⟨a, b, e⟩ c hc => by
    rw [List.mem_singleton.mp hc]
    exact ⟨_, e, fun v z => nomatch z⟩
  keep := fun n h h' ⟨a, b, e⟩ kp => ⟨a, b, kp ia (List.mem_singleton.mpr rfl) _ e⟩
  item := by
    intro X hP hw hK hc n pins s σ H E J hf ⟨a, b, st⟩ ⟨hd, hn⟩
    subst hP hw hK
    obtain ⟨hs, hgd, hx, arr2, ep2, hdt, hsz, ent⟩ := frzT_all J hd
    obtain ⟨rfl, rfl⟩ := dict_ep hod hdt
    obtain ⟨⟨k, y⟩, hk⟩ : ∃ p, ents[n]? = some p := ⟨ents[n], List.getElem?_eq_getElem hn⟩
    obtain ⟨en, q, hen, hkey, hq, rv⟩ := ent n k y hk
    have hlt : ia < s.heap.objs.size := Heap.lt_size st
    have hna : n < arr2.size := by omega
    have een : arr2[n] = en := by rw [Array.getElem?_eq_getElem hna] at hen; exact Option.some.inj hen
    refine DT.nextI st ⟨od, hgd, hx, hdt⟩ hna fun h' ho hT hz2 hkp => ?_
    rw [een] at ho hT
    refine ⟨_, rfl, wpAny_letOwnedTupleGo_items (s := { s with heap := h' }) ho fun h2 he2 sb => ?_⟩
    have hT2 : h2.get? s.heap.objs.size = some { cls := .type "tuple", data := .seq #[en.key, en.val] } := by
      rw [← hT]; exact sb.2 _ (Nat.ne_of_gt hlt)
    have nw : ObjOk X.prog X.w (upd H s.heap.objs.size (.tup [.ref q, y])) h2 s.heap.objs.size (.tup [.ref q, y]) := by
      refine ⟨by show 2 ≤ sizeLine; decide, [en.key, en.val], .cons ?_ (.cons rv .nil), ⟨_, hT2, rfl, _, rfl⟩⟩
      rw [hkey]; exact rfl
    have J2 : Inv X pins σ (upd H s.heap.objs.size (.tup [.ref q, y])) { s with heap := h2 } :=
      J.turnedNew (t' := s.toks) (ch := [ia]) (fun c ob hc e => by
        have nc : c ≠ ia := fun z => hc (List.mem_singleton.mpr z)
        rw [sb.2 c nc]; exact hkp c ob nc e) hf (Nat.le_refl _) nw
    refine ⟨.ref s.heap.objs.size, _, J2, rfl, ⟨_, q, k, y, hk, rfl, hq, J.hok.fresh (Nat.le_refl _), rfl⟩, ⟨_, _, he2⟩, fun c hc => ?_⟩
    rw [List.mem_singleton.mp hc, upd_ne (Nat.ne_of_lt hlt)]
    exact (hf ia (List.mem_singleton.mpr rfl)).1
  done := by
    intro X hP hw hK hc n pins s σ H E J hf ⟨a, b, st⟩ ⟨hd, hn⟩
    subst hP hw hK
    obtain ⟨f0, f1, f2, f3, f4, f5⟩ := hf ia (List.mem_singleton.mpr rfl)
    obtain ⟨hs, hgd, hx, arr2, ep2, hdt, hsz, ent⟩ := frzT_all J hd
    obtain ⟨rfl, rfl⟩ := dict_ep hod hdt
    exact DT.endI (J.ok.hd hc) st ⟨od, hgd, hx, hdt⟩ (by omega) fun h' eb => ⟨rfl, J.turned (t' := s.toks) (fun c ob hc e => eb c ob hc e) f0 f1 f3 f4 f5⟩
  self := fun A n s Q E ⟨_, _, e⟩ h => PySem.W.kcp_self e h
def iItemsT (td : TE) : TI := fun σ H R => td σ H fun x H1 => ∃ d od ents, x = .ref d ∧ H1 d = some (.frz od (.dT ents)) ∧ R (ItiT d od ents) H1
theorem pi_itemsT {X : Cx} {e : Expr} {td : TE} {apos cpos tpos : Pos} {elts : List Expr} {kk : Nat} (he : PE X e td) (hb : attributeBase e "items" X.env (eval e X.env) = eval e X.env) (hl : (apos.endLine == cpos.line) = true) :
    PI X (.Tuple elts kk tpos) (.Call (.Attribute e "items" apos) [] [] cpos) (iItemsT td) := by
  refine ⟨fun pins s σ H R J h => ?_⟩
  refine wpAny_Call_method (T := "dict") (id := "dict.items") hb rfl hl PySem.F.plainAttrs_dict PySem.F.slot_dict_items PySem.F.type_dict_items (thn (he.run pins s σ H _ J h) fun u s1 ⟨x, H1, J1, rx, d, od, ents, ex, hd, q⟩ => ?_)
  subst ex
  obtain rfl : u = Value.ref d := rx
  obtain ⟨hs, hgd, hx, arr, ep, hdt, hsz, ent⟩ := frzT_all J1 hd
  refine ⟨⟨od, hgd, hx.1⟩, fun a ea => by cases ea; exact ⟨od, hgd, hx.2.1⟩, ?_⟩
  have J2 : Inv X pins σ H1 { s1 with heap := s1.heap.push { cls := .type "dict_items", data := .fields #[.ref d] } } := J1.kept (t' := s1.toks) fun b ob z => Heap.get?_push_of_some _ z
  show wpAny _ _ (callWith cpos (.builtin "dict.items") [.ref d] [] []) _ X.xe s1
  refine method_meetsIn PySem.F.slot_dict_items PySem.F.entry_dict_items rfl (PySem.evalArgs_none ⟨rfl, ⟨od, hgd, hx.1⟩, PySem.F.args_dict_items_1 _, _, DT.meetsItems (es := arr) (ep := ep) hs, ⟨od, hgd, hx, hdt⟩, ?_⟩)
  refine DT.iterI (d := d) ⟨_, Heap.get?_push_size _ rfl, rfl, rfl⟩ ⟨od, Heap.get?_push_of_some _ hgd, hx, hdt⟩ (pi_one (tk := s1.toks) J2 _ (turn_itemsT _ hdt hsz) ⟨.none, .none, ?_⟩ q)
  exact Heap.get?_push_size _ rfl
/-- what is walked: pairs of a key and what it holds -/
@[reducible] def jiItems (t : jTE) : jTI := fun δ ls Q => t δ ls fun x ls1 => match x with
  | .a p => ∃ (n : Nat) (l : LO), ls1[n]? = some (p, l) ∧ (match l with
    | .dctL o vs kvs => ∃ ys : List (List Key × PyData), kvs = ys.map (fun kv => (kv.1, .d kv.2)) ∧ Q (ys.map fun kv => .d (.tuple [keyT kv.1, kv.2])) (fun ls' => ∃ m : Nat, ls'[m]? = some (p, .dctL o vs kvs)) ls1
    | _ => False)
  | _ => False
section
variable {X : Cx} {e : Expr} {te : jTE} {apos cpos tpos : Pos} {elts : List Expr} {kk : Nat}
theorem piItems (h : PEJ X e te) (hb : attributeBase e "items" X.env (eval e X.env) = eval e X.env := by rfl) (hl : (apos.endLine == cpos.line) = true := by rfl) : PIJ X (.Tuple elts kk tpos) (.Call (.Attribute e "items" apos) [] [] cpos) (jiItems te) := by
  obtain ⟨t0, p0, j0⟩ := h
  refine ⟨_, pi_itemsT p0 hb hl, fun E I H ls σ δ Q R V q W k => ?_⟩
  refine j0 E I H ls σ δ _ R V q _ fun v H1 ⟨I1, ls1, x, R1, s1, r1, q1⟩ => ?_
  dsimp only at q1
  split at q1
  rotate_left 1
  · exact q1.elim
  rename_i p
  obtain ⟨n, l, hn, q1⟩ := q1
  cases r1
  split at q1
  · rename_i o vs kvs
    obtain ⟨ys, rfl, q1⟩ := q1
    obtain ⟨⟨h1, h2⟩, _⟩ := R1.find hn rfl
    refine ⟨p, o, vs, rfl, h1, k _ _ _ _ _ _ R1 s1 ⟨fun E i I' H ls R s pl hi => ?_, fun E i I' H ls R s pl hi => ?_, fun E i I' H ls v H' R s pl hi y => ?_⟩ q1⟩
    · obtain ⟨m, hm⟩ := pl
      obtain ⟨⟨g1, g2⟩, _⟩ := R.find hm rfl
      exact ⟨g1, by rw [kv_len g2]; simpa using hi⟩
    · obtain ⟨m, hm⟩ := pl
      obtain ⟨⟨g1, g2⟩, _⟩ := R.find hm rfl
      exact ⟨g1, by rw [kv_len g2]; simpa using hi⟩
    · obtain ⟨T, q, kk, u, hk, rfl, hq, hT, rfl⟩ := y
      obtain ⟨m, hm⟩ := pl
      obtain ⟨⟨g1, g2⟩, _⟩ := R.find hm rfl
      obtain ⟨x, hx, rx⟩ := kvr_get g2 hk
      obtain ⟨I2, R2, s2, e2⟩ := R.tup hq
      obtain ⟨R3, s3⟩ := R2.new (o := .tup [.ref q, u]) hT
      rw [List.getElem?_map] at hx
      cases ey : ys[i]? with
      | none => rw [ey] at hx; cases hx
      | some y0 =>
        rw [ey] at hx
        simp only [Option.map_some, Option.some.injEq, Prod.mk.injEq] at hx
        obtain ⟨ek, ex⟩ := hx
        subst ex
        cases rx with | d rx =>
          exact ⟨_, .d (.tuple [keyT kk, y0.2]), R3, s2.trans s3, by rw [List.getElem?_map, ey, ← ek]; rfl, .d (.tup upd_same (.cons ((Dn.tup e2 (keysP_dn kk)).mono s3) (.cons ((rx.mono s2).mono s3) .nil)))⟩
  · exact q1.elim
end

/-! ### {} -/
@[reducible] def jDT : jTE := fun _ ls Q => ∀ p, Q (.a p) ((p, .dct []) :: ls)
@[reducible] def jDK : jTE := fun _ ls Q => ∀ p, Q (.a p) ((p, .dki []) :: ls)
section
variable {X : Cx} {pos : Pos}
theorem pjDT : PEJ X (.Dict [] [] pos) jDT := ⟨_, pe_dnewT, fun E I H ls σ δ Q R V h W k p hp => k _ _ ⟨I, (p, .dct []) :: ls, .a p, R.fresh hp rfl ⟨[], upd_same, .nil⟩, Same.refl I, .a, h p⟩⟩
theorem pjDK : PEJ X (.Dict [] [] pos) jDK := ⟨_, pe_dnewK, fun E I H ls σ δ Q R V h W k p hp => k _ _ ⟨I, (p, .dki []) :: ls, .a p, R.fresh hp rfl ⟨[], upd_same, .nil⟩, Same.refl I, .a, h p⟩⟩
end

/-! ### del d[k] -/
@[reducible] def jDelAt (o i : D) (ls : Ls) (Q : Ls -> Prop) : Prop := match o with
  | .a p => ∃ (n : Nat) (l : LO), ls[n]? = some (p, l) ∧ (match l, i with
    | .dct kvs, .d (.tuple ks) => ∃ k, keysD ks = some k ∧ (gV kvs k).isSome = true ∧ Q (ls.set n (p, .dct (kvs.filter fun kv => decide (kv.1 ≠ k))))
    | _, _ => False)
  | _ => False
@[reducible] def jDel (to ti : jTE) : jTS := fun N δ ls => to δ ls fun o ls1 => ti δ ls1 fun i ls2 => jDelAt o i ls2 fun ls3 => N.nx δ ls3

theorem d_delItemT {X : Cx} {pins : List (Addr × Obj)} {σ : L2.St} {H : Hp} {s : Shared} {a b : Addr} {kvs : List (List Key × V)} {k : List Key} {A : Around} {E : Value -> Shared -> Prop} {Q : Unit -> Shared -> Prop} (hu : A.units + 1 < cLine) (J : Inv X pins σ H s)
    (e : H a = some (.dT kvs)) (hb : H b = some (.tup (k.map kV))) (l : (valV kvs k).isSome = true) (h : ∀ s', Inv X pins σ (upd H a (.dT (dropK kvs k))) s' -> Q () s') : wpAny (model X.prog X.w) A (delItem (.ref a) (.ref b)) Q E s := by
  obtain ⟨z, hd, xs, rel, dd⟩ := dt_of J.hok e
  have hz : xs.length ≤ sizeLine := by rw [← Paired.length rel]; exact z
  rw [(rel.val k).isSome_eq, Option.isSome_map] at l
  obtain ⟨p, hp⟩ := Option.isSome_iff_exists.mp l
  refine wpAny_delItem_heap (hsz := hz) (tupleKind_room_in1 hu) (key_of J.hok hb) hd dd hp fun h' dd' hs => h _ ?_
  obtain ⟨o, es, ep, hq, h2, h3, h4, _, h5⟩ := dd'
  have kd : KT H (dropK kvs k) (withoutH xs k) := DX.KT_drop k rel
  refine d_write J (by rw [e]; exact True.intro) hs ⟨o, hq⟩ ⟨Nat.le_trans (dropK_le kvs k) z, hd, _, kd.keeps (fun c ys ec => ?_), o, es, ep, hq, h2, h3, h4, h5⟩
  rw [upd_ne (ne_of ec e (fun z => nomatch z))]
  exact ec
def sDelT (td ty : TE) : TS := fun D σ H => td σ H fun x H1 => ty σ H1 fun y H2 => ∃ (a b : Addr) (kvs : List (List Key × V)) (k : List Key), x = .ref a ∧ H2 a = some (.dT kvs) ∧ y = .ref b ∧ H2 b = some (.tup (k.map kV)) ∧ (valV kvs k).isSome = true ∧ D.nx σ (upd H2 a (.dT (dropK kvs k)))
section
variable {X : Cx} {o i : Expr} {tpos pos : Pos}
theorem ps_delT {td ty : TE} (hu : X.A.units + 1 < cLine) (ho : PE X o td) (hi : PE X i ty) : PS X (.Delete [.Subscript o i tpos] pos) (sDelT td ty) := by
  refine ⟨fun pins s σ H D J h => ?_⟩
  refine wpAny_Delete (wpAny_deleteEach_cons (wpAny_delete_Subscript (thn (ho.run pins s σ H _ J h) fun u s1 ⟨x, H1, J1, rx, q1⟩ => thn (hi.run pins s1 σ H1 _ J1 q1) fun iv s2 ⟨y, H2, J2, ry, a, b, kvs, k, ex, e, ey, eb, l, q2⟩ => ?_)))
  subst ex ey
  obtain rfl : u = Value.ref a := rx
  obtain rfl : iv = Value.ref b := ry
  exact d_delItemT hu J2 e eb l fun s3 J3 => wpAny_deleteEach_nil ⟨σ, _, J3, q2⟩
theorem psDel {k : Nat} {to ti : jTE} (hr : Room k X.A) (ho : PEJ X o to) (hi : PEJ X i ti) : PSJ X (.Delete [.Subscript o i tpos] pos) (jDel to ti) := by
  obtain ⟨t0, p0, j0⟩ := ho
  obtain ⟨t1, p1, j1⟩ := hi
  refine ⟨_, ps_delT (hu1 hr) p0 p1, fun E I H ls σ δ N M R V kM q => ?_⟩
  refine j0 E I H ls σ δ _ R V q _ fun v H1 ⟨I1, ls1, x, R1, s1, r1, q1⟩ => ?_
  refine j1 E I1 H1 ls1 σ δ _ R1 (V.mono s1) q1 _ fun w H2 ⟨I2, ls2, y, R2, s2, r2, q2⟩ => ?_
  unfold jDelAt at q2
  dsimp only at q2
  split at q2
  rotate_left 1
  · exact q2.elim
  rename_i pd
  obtain ⟨n, l, hn, q2⟩ := q2
  cases r1
  split at q2
  · rename_i kvs ks
    obtain ⟨kk, hk, hs, q2⟩ := q2
    obtain ⟨⟨vs, h1, h2⟩, _⟩ := R2.find hn rfl
    cases r2 with | d r2 =>
      obtain ⟨b, ys, rfl, hb, t⟩ := r2.tupI
      have eb : H2 b = some (.tup (kk.map kV)) := by rw [← keysD_v hk t]; exact R2.sub _ _ hb
      exact ⟨_, b, vs, kk, rfl, h1, rfl, eb, by rw [kv_is h2]; exact hs, kM.nx _ _ _ _ _ (R2.upd (l' := .dct _) hn rfl rfl ⟨_, upd_same, kv_drop h2 kk⟩) (V.mono (s1.trans s2)) q2⟩
  · exact q2.elim
end

/-! ### names of the module -/
def Kon (K : PySem.W.Frag) (mg : Str -> Option Value) (x : Str) (y : D) : Prop := ∃ v u, mg x = some u ∧ RelV v u ∧ ∀ I, RD K I v y
section
variable {X : Cx} {x : Str} {pos : Pos} {y : D}
theorem pjGk (h : Kon X.K X.mg x y) (hg : Gl X x := by rfl) (hd : (x == ("__debug__" : Str)) = false := by decide) : PEJ X (.Name x pos) (jC y) := by
  obtain ⟨v, u, hm, r, hr⟩ := h
  exact pglJ hg hm r hr hd
end

/-! ### methods of texts -/
def listStrs : List PyData -> Option (List Str) := strsD
@[reducible] def jsJoin : jRS := fun s xs ls Q => match xs with
  | [.d (.list ds)] => ∃ ys, strsD ds = some ys ∧ (ys.map (·.length)).sum + ys.length * s.length ≤ 16777216 ∧ Q (.d (.str (Txt.join s ys))) ls
  | _ => False
@[reducible] def jsSplit : jRS := fun s xs ls Q => match xs with
  | [.d (.str b)] => ((b.length == 0) = false ∧ s.length + 2 ≤ sizeLine) ∧ Q (.d (.list ((Txt.split s b).map .str))) ls
  | _ => False
@[reducible] def jsFind : jRS := fun s xs ls Q => match xs with
  | [.d (.str b)] => Q (.d (.int (Txt.find s b))) ls
  | _ => False
@[reducible] def jsStart : jRS := fun s xs ls Q => match xs with
  | [.d (.str b)] => Q (.d (.bool (Txt.startswith s b))) ls
  | _ => False
@[reducible] def jsRstrip : jRS := fun s xs ls Q => match xs with
  | [.d (.str b)] => s.length ≤ sizeLine ∧ Q (.d (.str (Txt.rstripChars s b))) ls
  | _ => False
@[reducible] def jsIndex : jRS := fun s xs ls Q => match xs with
  | [.d (.str b)] => ∃ i rest, Builtin.Str.occurrences s b 0 s.length 1 = i :: rest ∧ Q (.d (.int (i : Nat))) ls
  | _ => False
@[reducible] def jsDigit : jRS := fun s xs ls Q => match xs with
  | [] => Q (.d (.bool (Txt.isdigit s))) ls
  | _ => False
section
variable {X : Cx}
theorem strs_dn {I : Hp} : ∀ {ys : List Str}, DnAll I (ys.map V.str) (ys.map .str)
  | [] => .nil
  | y :: r => .cons (.str y) strs_dn
theorem msj_join : MsJ X "str.join" jsJoin := fun E I H ls s vs xs Q R r q W k => by
  unfold jsJoin at q
  split at q
  · obtain ⟨ys, h, hl, q⟩ := q
    cases r with | cons a t => cases t; cases a with | d a =>
      obtain ⟨b, us, rfl, h1, t⟩ := a.lstI
      rw [strs_v h t] at h1
      exact ⟨_, mt_join, s, b, ys, rfl, rfl, .inl (SqL.of (R.sub _ _ h1)), hl, k _ _ (.of R (.d (.str _)) q)⟩
  · exact q.elim
theorem msj_split : MsJ X "str.split" jsSplit := fun E I H ls s vs xs Q R r q W k => by
  unfold jsSplit at q
  split at q
  · obtain ⟨hl, q⟩ := q
    cases r with | cons a t => cases t; cases a with | d a =>
      cases a
      refine ⟨_, mt_split, s, _, rfl, rfl, hl.1, hl.2, fun p hp => ?_⟩
      obtain ⟨R1, s1⟩ := R.new (o := .lst _) hp
      exact k _ _ ⟨_, _, _, R1, s1, .d (.lst upd_same (strs_dn.mono s1)), q⟩
  · exact q.elim
theorem msj_find : MsJ X "str.find" jsFind := fun E I H ls s vs xs Q R r q W k => by
  unfold jsFind at q
  split at q
  · cases r with | cons a t => cases t; cases a with | d a => cases a; exact ⟨_, mt_find, s, _, rfl, rfl, k _ _ (.of R (.d (.int _)) q)⟩
  · exact q.elim
theorem msj_start : MsJ X "str.startswith" jsStart := fun E I H ls s vs xs Q R r q W k => by
  unfold jsStart at q
  split at q
  · cases r with | cons a t => cases t; cases a with | d a => cases a; exact ⟨_, mt_startswith, s, _, rfl, rfl, k _ _ (.of R (.d (.bl _)) q)⟩
  · exact q.elim
theorem msj_rstrip : MsJ X "str.rstrip" jsRstrip := fun E I H ls s vs xs Q R r q W k => by
  unfold jsRstrip at q
  split at q
  · cases r with | cons a t => cases t; cases a with | d a => cases a; exact ⟨_, mt_rstripChars, s, _, rfl, rfl, q.1, k _ _ (.of R (.d (.str _)) q.2)⟩
  · exact q.elim
theorem msj_index : MsJ X "str.index" jsIndex := fun E I H ls s vs xs Q R r q W k => by
  unfold jsIndex at q
  split at q
  · obtain ⟨i, rest, h, q⟩ := q
    cases r with | cons a t => cases t; cases a with | d a => cases a; exact ⟨_, mt_sindex, s, _, i, rest, rfl, rfl, h, k _ _ (.of R (.d (.int _)) q)⟩
  · exact q.elim
theorem msj_digit : MsJ X "str.isdigit" jsDigit := fun E I H ls s vs xs Q R r q W k => by
  unfold jsDigit at q
  split at q
  · cases r; exact ⟨_, mt_isdigit, s, rfl, rfl, trivial, k _ _ (.of R (.d (.bl _)) q)⟩
  · exact q.elim
end
end J

/-! J9: comprehensions of dicts whose keys are tuples; comprehensions whose elements want a token that is out. -/
namespace J
open PySem PySem.Spec PyProof.Rows L2

/-- a key is put in by a comprehension -/
theorem dSetT {X : Cx} {pins : List (Addr × Obj)} {σ : L2.St} {H : Hp} {s : Shared} {F : Value -> Shared -> Prop} {T b : Addr} {ents : List (List Key × V)} {k : List Key} {y : V} {r : Value} {Q : Unit -> Shared -> Prop} (hu : X.A.units + 1 < cLine) (J : Inv X pins σ H s)
    (hT : H T = some (.dT ents)) (hb : H b = some (.tup (k.map kV))) (hz : ents.length < sizeLine) (ry : RelV y r) (fin : ∀ s', Inv X pins σ (upd H T (.dT (putK ents k y))) s' -> Q () s') : wpAny (model X.prog X.w) X.A (dictSet T (.ref b) r) Q F s := by
  obtain ⟨z, hd, xs, rel, dd⟩ := dt_of J.hok hT
  have hx : xs.length ≤ sizeLine := by rw [← Paired.length rel]; exact z
  have hl : (putK ents k y).length ≤ sizeLine := by have := length_putK ents k y; omega
  have room : (tupleKind (mixKind X.prog X.w)).room X.A := by
    have h2 := tupleKind_room_in1 (knd := mixKind X.prog X.w) hu
    have h3 : X.A.units < cLine := by omega
    exact h3
  refine wpAny_dictSet_heap (hsz := hx) room (key_of J.hok hb) dd fun h' dd' sb => fin _ ?_
  obtain ⟨q, es, ep, hq, h2, h3, h4, _, h5⟩ := dd'
  refine d_write J (by rw [hT]; exact True.intro) sb ⟨q, hq⟩ ⟨hl, hd, _, (rel.put k hb ry).keeps fun c ys ec => ?_, q, es, ep, hq, h2, h3, h4, h5⟩
  rw [upd_ne (ne_of ec hT (fun z => nomatch z))]
  exact ec

/-! ### the loop of a comprehension, whatever it makes -/
abbrev NoX : Value -> Shared -> Prop := fun _ _ => False
theorem thnT {α : Type} {t : Sem α} {Q Q' : α -> Shared -> Prop} {M : Model} {A : Around} {F : Value -> Shared -> Prop} {s : Shared} {n : Nat} (hn : n ≤ s.toks) (h : wpAny M A t Q NoX s) (hQ : ∀ a s2, n ≤ s2.toks -> Q a s2 -> Q' a s2) : wpAny M A t Q' F s :=
  wpAny_with_toks hn (wpAny_mono h (fun a s2 q k => hQ a s2 k q) fun _ _ z => z.elim)
/-- what a kind of comprehension is: made at T, the clause's loop, the part behind the store -/
structure CKind (X : Cx) (cx tg iter : Expr) (mk : Sem Value) (ob0 : Obj) (o0 : HO) (body : PySem.Env -> Addr -> (Shared -> Prop) -> Shared -> Prop) : Prop where
  cl : clausesOf cx = [⟨tg, iter, [], 0⟩]
  new : ∀ (s : Shared) (Q F : Value -> Shared -> Prop), Q (.ref s.heap.objs.size) { s with heap := s.heap.push ob0 } -> wpAny (model X.prog X.w) X.A mk Q F s
  ok : ∀ (h : Heap) (H : Hp), sysModules < h.objs.size -> ObjOk X.prog X.w H (h.push ob0) h.objs.size o0
  loop : ∀ (ce : PySem.Env) (it : Value) (T : Addr) (R : Result -> Shared -> Prop) (B : Nat -> Shared -> Prop), (∀ n s, B n s -> wpAny (model X.prog X.w) X.A (pyNext it) (fun r s1 => match r with
      | none => R (.ok .next) s1
      | some v => wpAny (model X.prog X.w) X.A (letOwnedTupleGo tg it v) (fun _ s2 => wpAny (model X.prog X.w) X.A (assign tg ce v) (fun _ s3 => body ce T (fun s4 => ∃ m, m < n ∧ B m s4) s3) NoX s2) NoX s1) NoX s) ->
    ∀ (n : Nat) (s : Shared), B n s -> codeAny (model X.prog X.w) X.A (.compLoop cx 0 it (.ref T) ce) R s
  start : ∀ (ce : PySem.Env) (it : Addr) (T : Addr) (R : Result -> Shared -> Prop) (s : Shared), codeAny (model X.prog X.w) X.A (.compLoop cx 0 (.ref it) (.ref T) ce) R s ->
    (∀ Q F : Value -> Shared -> Prop, Q (.ref it) s -> wpAny (model X.prog X.w) X.A (pyIter (.ref it)) Q F s) -> codeAny (model X.prog X.w) X.A (.compStart cx 0 (.ref it) (.ref T) ce) R s
def tCc (wi : TI) (g : TG) (o0 : HO) (tl : L2.St -> Hp -> Addr -> (Hp -> Prop) -> Prop) (vs : List Nat) : TE := fun σ H Q => wi σ H fun J H1 => ∀ T, H1 T = none -> ∃ B : Nat -> Nat -> Hp -> Prop, (∃ m, B 0 m (upd H1 T o0)) ∧ ∀ n m H, B n m H ->
  (J.stop n H ∧ Q (.ref T) H) ∨ (J.go n H ∧ ∃ Nx : Hp -> Prop, (∀ H2, Nx H2 -> ∃ m2, m2 < m ∧ B (n + 1) m2 H2) ∧ ∀ x H2, J.yld n H x H2 -> g x (wipe σ vs) H2 fun σ3 H3 => wipe σ3 vs = wipe σ vs ∧ tl σ3 H3 T Nx)
section
variable {X : Cx} {cx tg iter : Expr} {mk : Sem Value} {ob0 : Obj} {o0 : HO} {body : PySem.Env -> Addr -> (Shared -> Prop) -> Shared -> Prop}
theorem cc_core {pins : List (Addr × Obj)} {s : Shared} {σ : L2.St} {H : Hp} {Q : VK} {scope : Scope} {own : List (Str × Nat)} {cpos : Pos} {wi : TI} {g : TG} {tl : L2.St -> Hp -> Addr -> (Hp -> Prop) -> Prop} {use : Option (Value -> Sem Unit)} {Qf : Value -> Shared -> Prop} {n0 : Nat}
    (CK : CKind X cx tg iter mk ob0 o0 body) (h0 : n0 ≤ s.toks) (calm : X.calm = true) (nd : X.N.Nodup) (J0 : Inv X pins σ H s) (pi : PI X tg iter wi) (bo : BlkOk X.N X.env.scope scope own)
    (pg : ∀ (s : Shared) (H : Hp) (C : Addr) (cl : List (Str × Addr)) (fp : List Addr), PG (blkX X scope s H C cl fp) tg g)
    (pb : ∀ (s0 : Shared) (H0 : Hp) (C : Addr) (cl : List (Str × Addr)) (fp : List Addr) (pins : List (Addr × Obj)) (σ : L2.St) (H : Hp) (s : Shared) (T : Addr) (Nx : Hp -> Prop) (P : Shared -> Prop), n0 ≤ s.toks -> Inv (blkX X scope s0 H0 C cl fp) pins σ H s -> tl σ H T Nx ->
      (∀ s2 H2, n0 ≤ s2.toks -> Inv (blkX X scope s0 H0 C cl fp) pins σ H2 s2 -> Nx H2 -> P s2) -> body (compEnvC scope cl C X.env) T P s)
    (fold : ∀ x, foldedSetIterable iter X.env x = pure x) (h : tCc wi g o0 tl (own.map (·.2)) σ H Q)
    (fin : ∀ T C s2 m H2, Inv X pins σ H2 s2 -> Q (.ref T) H2 -> s2.heap.Ns C m -> FpOk X pins H2 C -> compPost (model X.prog X.w) X.A X.xe use Qf (.ref T) C (.ok .next) s2) :
    wpAny (model X.prog X.w) X.A (comprehension cx scope X.env cpos mk false (eval iter X.env) use) Qf X.xe s := by
  have clo : ∀ y ∈ scope.names, y.2 = .free -> ∃ c, X.env.cells.lookup y.1 = some c := fun y hy e => (bo.free y hy e).elim (fun k => J0.ok.has _ (.inl k)) fun k => J0.ok.has _ (.inr k)
  refine wpAny_comprehension_free (use := use) CK.cl fold (closure_ok clo) bo.kind (fun y hy e => (bo.uniq y hy).trans (congrArg some e)) ?_
  refine wpAny_with_toks h0 (wpAny_mono (pi.run pins s σ H _ J0 h) (fun xv s1 q1 k1 => wpAny_with_toks k1 (wpAny_mono q1 (fun itv s2 q2 k2 => ?_) fun _ _ z _ => z)) fun _ _ z _ => z)
  obtain ⟨it, fp, tn, JJ, G, rfl, J2, T, st2, f2, q⟩ := q2
  refine CK.new s2 _ _ (newEnv_comp ?_)
  generalize eD : s2.heap.objs.size = D
  obtain ⟨B, ⟨m0, b0⟩, turn⟩ := q D (J2.hok.fresh (Nat.le_of_eq eD))
  generalize e3 : ({ s2 with heap := s2.heap.push ob0 } : Shared) = s3
  have hp3 : s3.heap = s2.heap.push ob0 := by rw [← e3]
  have tk3 : s3.toks = s2.toks := by rw [← e3]
  have J3 : Inv X pins σ (upd G D o0) s3 := by
    rw [← e3, ← eD]
    exact J2.laid (t' := s2.toks) (fun b o e => Heap.get?_push_of_some _ e) (Nat.le_refl _) (CK.ok _ _ J2.big)
  have small : ∀ b ∈ fp, b < s2.heap.objs.size := fun b hb => let ⟨o, e, _⟩ := T.obj _ _ st2 b hb; Heap.lt_size e
  have f3 : ∀ b ∈ fp, FpOk X pins (upd G D o0) b ∧ b < s3.heap.objs.size := fun b hb => by
    refine ⟨⟨?_, (f2 b hb).2⟩, by rw [hp3, Heap.size_push]; exact Nat.lt_succ_of_lt (small b hb)⟩
    rw [upd_ne (by rw [← eD]; exact Nat.ne_of_lt (small b hb))]
    exact (f2 b hb).1
  have st3 : tn 0 s3.heap := T.keep _ _ _ st2 fun b _ o e => by rw [hp3]; exact Heap.get?_push_of_some _ e
  have J4 := block_start J3 bo nd f3
  have pgX := pg s3 (upd G D o0) s3.heap.objs.size (cellsFrom (s3.heap.objs.size + 1) scope.names (cloFrom X.env.cells scope.names [])) fp
  have pbX := pb s3 (upd G D o0) s3.heap.objs.size (cellsFrom (s3.heap.objs.size + 1) scope.names (cloFrom X.env.cells scope.names [])) fp
  have nfp : ∀ b ∈ fp, (upd G D o0) b = none := fun b hb => (f3 b hb).1.1
  show codeAny _ _ (.compStart cx 0 (.ref it) (.ref D) (compEnvC scope (cellsFrom (s3.heap.objs.size + 1) scope.names (cloFrom X.env.cells scope.names [])) s3.heap.objs.size X.env)) (compPost (model X.prog X.w) X.A X.xe use Qf (.ref D) s3.heap.objs.size)
    { s3 with heap := pushCells (s3.heap.push { cls := .type "dict", data := .dict #[] }) scope.names }
  unfold blkX at pgX pbX
  generalize ece : compEnvC scope (cellsFrom (s3.heap.objs.size + 1) scope.names (cloFrom X.env.cells scope.names [])) s3.heap.objs.size X.env = ce at J4 pgX pbX ⊢
  have cloc : ce.locals = s3.heap.objs.size := by subst ece; rfl
  generalize eH : upd G D o0 = G3 at J3 J4 pgX pbX b0 nfp f3
  generalize e4 : ({ s3 with heap := pushCells (s3.heap.push { cls := .type "dict", data := .dict #[] }) scope.names } : Shared) = s4 at J4 ⊢
  have tk4 : n0 ≤ s4.toks := by rw [← e4]; show n0 ≤ s3.toks; rw [tk3]; exact k2
  have st4 : tn 0 s4.heap := T.keep _ _ _ st3 fun b _ o e => by rw [← e4]; exact pushCells_keeps _ _ _ _ (Heap.get?_push_of_some _ e)
  have free : ∀ {σ5 : L2.St} {H5 : Hp} {s5 : Shared}, Inv (X.blk s3 G3 scope ce fp) [] σ5 H5 s5 -> (∀ b ∈ fp, H5 b = none) -> ∀ b ∈ fp, FpOk (X.blk s3 G3 scope ce fp) [] H5 b := fun J5 hn b hb =>
    ⟨hn b hb, (J5.ok.exf b hb).1, J5.ok.exfs b hb, .inl hb, fun x c e => (J5.ok.exf b hb).2 x c e, fun p hp => by simp at hp⟩
  have loop : codeAny (model X.prog X.w) X.A (.compLoop cx 0 (.ref it) (.ref D) ce) (compPost (model X.prog X.w) X.A X.xe use Qf (.ref D) s3.heap.objs.size) s4 := by
    refine CK.loop ce (.ref it) D _ (fun m s5 => n0 ≤ s5.toks ∧ ∃ n H5, Inv (X.blk s3 G3 scope ce fp) [] (wipe σ (own.map (·.2))) H5 s5 ∧ tn n s5.heap ∧ (∀ b ∈ fp, H5 b = none) ∧ B n m H5) ?_ m0 s4 ⟨tk4, 0, G3, J4, st4, nfp, b0⟩
    rintro m s5 ⟨k5, n, H5, J5, st5, n5, b5⟩
    rcases turn n m H5 b5 with ⟨stop, qq⟩ | ⟨go, Nx, hNx, step⟩
    · refine thnT k5 (T.done (X.blk s3 G3 scope ce fp) rfl rfl rfl calm n [] s5 _ H5 NoX J5 (free J5 n5) st5 stop) fun r s6 k6 ⟨hr, J6⟩ => ?_
      subst hr
      have J7 : Inv X pins σ H5 s6 := J3.call' (ch := fp) J6.os J6.base J6.hok J6.bare fun b hb => let f := (f3 b hb).1; ⟨f.2.2.2.1, f.2.1, f.2.2.2.2.1, f.2.2.2.2.2⟩
      have nC : H5 s3.heap.objs.size = none := cloc ▸ (show H5 ce.locals = none from J6.free)
      obtain ⟨mm, hn, _⟩ := J6.loc
      exact fin D s3.heap.objs.size s6 mm H5 J7 qq (cloc ▸ (show s6.heap.Ns ce.locals mm from hn)) (J3.fpOk (Nat.le_refl _) nC)
    · refine thnT k5 (T.item (X.blk s3 G3 scope ce fp) rfl rfl rfl calm n [] s5 _ H5 NoX J5 (free J5 n5) st5 go) fun r s6 k6 ⟨u, hr, h6⟩ => ?_
      subst hr
      refine thnT k6 h6 fun _ s7 k7 ⟨x, H7, J7, r7, y7, st7, n7⟩ => ?_
      have J7p := J7.pinned (free J7 n7) (T.obj _ _ st7)
      refine thnT k7 (pgX.run _ s7 _ H7 x u _ J7p r7 (step x H7 y7)) fun _ s8 k8 ⟨σ8, H8, J8, hw8, q8⟩ => ?_
      refine pbX _ σ8 H8 s8 D Nx _ k8 J8 q8 fun s9 H9 k9 J9 nx => ?_
      obtain ⟨m2, hm, b9⟩ := hNx H9 nx
      have pin9 : ∀ b ∈ fp, ∀ o, s7.heap.get? b = some o -> s9.heap.get? b = some o ∧ H9 b = none := fun b hb o e =>
        let z := J9.pin (b, o) (List.mem_append_right _ (List.mem_append_right _ (mem_pinsAt hb e)))
        ⟨z.1, z.2.1⟩
      refine ⟨m2, hm, k9, n + 1, H9, (J9.unpinned (pins := [])).weak (by rw [← hw8, wipe_length]) (fun j v e => ?_), T.keep _ _ _ st7 fun b hb o e => (pin9 b hb o e).1, fun b hb => ?_, b9⟩
      · rw [← hw8] at e
        exact (wipe_some e).1
      · obtain ⟨o, e, _⟩ := T.obj _ _ st7 b hb
        exact (pin9 b hb o e).2
  exact CK.start ce it D _ s4 loop fun Q F q => T.self X.A 0 _ _ _ st4 q
end

/-! ### {k: v for name in ..}, tuple keys -/
def bodyD (X : Cx) (kx vx : Expr) (ce : PySem.Env) (T : Addr) (P : Shared -> Prop) (s : Shared) : Prop :=
  wpAny (model X.prog X.w) X.A (eval kx ce) (fun kv s4 => wpAny (model X.prog X.w) X.A (eval vx ce) (fun vv s5 => wpAny (model X.prog X.w) X.A (dictSet T kv vv) (fun _ s6 => P s6) NoX s5) NoX s4) NoX s
theorem noNx {α : Type} {t : Sem α} {Q Q' : α -> Shared -> Prop} {M : Model} {A : Around} {F : Value -> Shared -> Prop} {s : Shared} (h : wpAny M A t Q NoX s) (hQ : ∀ a s2, Q a s2 -> Q' a s2) : wpAny M A t Q' F s := wpAny_mono h hQ fun _ _ z => z.elim
theorem ckD {X : Cx} (kx vx tg iter : Expr) (scope : Scope) (pos : Pos) : CKind X (.DictComp kx vx [⟨tg, iter, [], 0⟩] scope pos) tg iter newDict { cls := .type "dict", data := .dict #[] } (.dT []) (bodyD X kx vx) where
  cl := rfl
  new := fun s Q F q => wpAny_newObj_type q
  ok := fun h H hb => dt_empty h hb
  loop := fun ce it T R B turn n s hB => by
    refine compLoop_anyD B (fun n s hB => noNx (turn n s hB) fun r s1 q => ?_) n hB
    cases r with
    | none => exact q
    | some v => exact noNx q fun _ s2 q => noNx q fun _ s3 q => wpAny_tests_nil (by rw [if_pos rfl]; exact noNx q fun kv s4 q => noNx q fun vv s5 q => noNx q fun _ s6 q => q)
  start := fun ce it T R s h hi => codeAny_compStart_dict h (hi _ _ h)
def tailT (tk tv : TE) (σ : L2.St) (H : Hp) (T : Addr) (Nx : Hp -> Prop) : Prop := tk σ H fun y H2 => tv σ H2 fun z H3 => ∃ (b : Addr) (k : List Key) (ents : List (List Key × V)), y = .ref b ∧ H3 b = some (.tup (k.map kV)) ∧ H3 T = some (.dT ents) ∧ ents.length < sizeLine ∧ Nx (upd H3 T (.dT (putK ents k z)))
section
variable {X : Cx}
theorem pe_dcT {kx vx tg iter : Expr} {scope : Scope} {own : List (Str × Nat)} {pos : Pos} {wi : TI} {g : TG} {tk tv : TE} (hu : X.A.units + 1 < cLine) (hc : X.calm = true) (hN : X.N.Nodup) (hi : PI X tg iter wi) (ok : BlkOk X.N X.env.scope scope own)
    (hg : ∀ (s : Shared) (H : Hp) (C : Addr) (cl : List (Str × Addr)) (fp : List Addr), PG (blkX X scope s H C cl fp) tg g) (hk : ∀ (s : Shared) (H : Hp) (C : Addr) (cl : List (Str × Addr)) (fp : List Addr), PE (blkX X scope s H C cl fp) kx tk)
    (hv : ∀ (s : Shared) (H : Hp) (C : Addr) (cl : List (Str × Addr)) (fp : List Addr), PE (blkX X scope s H C cl fp) vx tv) (hs : ∀ x, foldedSetIterable iter X.env x = pure x) : PE X (.DictComp kx vx [⟨tg, iter, [], 0⟩] scope pos) (tCc wi g (.dT []) (tailT tk tv) (own.map (·.2))) := by
  refine ⟨fun pins s σ H Q J h => ?_⟩
  rw [arm_eval_DictComp]
  refine cc_core (n0 := 0) (ckD kx vx tg iter scope pos) (Nat.zero_le _) hc hN J hi ok hg (fun s0 H0 C cl fp pins σ H s T Nx P k0 J1 q fin => ?_) hs h fun T C s2 m H2 J2 q hn f => ⟨m, hn, fun h3 sb => ?_⟩
  · refine noNx ((hk s0 H0 C cl fp).run pins s σ H _ J1 q) fun kv s4 ⟨y, H4, J4, r4, q4⟩ => ?_
    refine noNx ((hv s0 H0 C cl fp).run pins s4 σ H4 _ J4 q4) fun vv s5 ⟨z, H5, J5, r5, b, k, ents, ey, hb, hT, hz, nx⟩ => ?_
    subst ey
    obtain rfl : kv = Value.ref b := r4
    exact dSetT (X := blkX X scope s0 H0 C cl fp) hu J5 hT hb hz r5 fun s6 J6 => fin s6 _ (Nat.zero_le _) J6 nx
  · obtain ⟨f0, f1, f2, f3, f4, f5⟩ := f
    exact ⟨.ref T, H2, J2.turned (t' := s2.toks) (fun b o hb e => (sb.2 b hb).trans e) f0 f1 f3 f4 f5, rfl, q⟩
def jNewDt (acc : List (List Key × D)) (ls : Ls) (Q : D -> Ls -> Prop) : Prop := ∀ p, Q (.a p) ((p, .dct acc) :: ls)
@[reducible] def jDc (ji : jTI) (g : jTG) (tk tv : jTE) (vs : List Nat) : jTE := fun δ ls Q => ji δ ls fun xs Pl ls1 => ∃ Iv : Nat -> List (List Key × D) -> Ls -> Prop, Iv 0 [] ls1 ∧
  (∀ i x acc ls, xs[i]? = some x -> Iv i acc ls -> Pl ls ∧ g x (jwipe δ vs) ls fun δ2 ls2 => tk δ2 ls2 fun y ls3 => tv δ2 ls3 fun z ls4 => acc.length < sizeLine ∧ ∃ ks k, y = .d (.tuple ks) ∧ keysD ks = some k ∧ Iv (i + 1) (gP acc k z) ls4) ∧
  ∀ acc ls, Iv xs.length acc ls -> Pl ls ∧ jNewDt acc ls Q
theorem jdc_run {K : PySem.W.Frag} {wi : TI} {g : TG} {tk tv : TE} {vs : List Nat} {ji : jTI} {jg : jTG} {jk jv : jTE} (hi : JI K wi ji) (hg : JG K g jg) (hs : Sets g vs) (hk : JE K tk jk) (hv : JE K tv jv) : JE K (tCc wi g (.dT []) (tailT tk tv) vs) (jDc ji jg jk jv vs) := by
  intro E I H ls σ δ Q R V h W k
  refine hi E I H ls σ δ _ R V h _ fun J H1 I1 ls1 xs Pl R1 s1 Y ⟨Iv, h0, hst, hd⟩ T hT => ?_
  have Rb : ∀ {I2 H2 ls2}, Rel ⟨I1, H1, adrs ls1⟩ K I2 H2 ls2 -> Rel E K I2 H2 ls2 := fun R2 => R1.back R2
  have start : Rel ⟨I1, H1, adrs ls1⟩ K I1 (upd H1 T (.dT [])) ((T, .dct []) :: ls1) := R1.self.fresh hT rfl ⟨[], upd_same, .nil⟩
  refine ⟨fun i m H => ∃ I ls acc, Rel ⟨I1, H1, adrs ls1⟩ K I H ((T, .dct acc) :: ls) ∧ i + m = xs.length ∧ Iv i acc ls, ⟨xs.length, I1, ls1, [], start, by omega, h0⟩, ?_⟩
  rintro i m H ⟨I2, ls2, acc, R2, hm, hi2⟩
  have R2d : Rel ⟨I1, H1, adrs ls1⟩ K I2 H ls2 := R2.drop (n := 0)
  by_cases hlt : i < xs.length
  · obtain ⟨pl, q⟩ := hst i xs[i] acc ls2 (List.getElem?_eq_getElem hlt) hi2
    refine .inr ⟨Y.go _ i I2 H ls2 R2d R2.up pl hlt, fun H' => ∃ I ls acc, Rel ⟨I1, H1, adrs ls1⟩ K I H' ((T, .dct acc) :: ls) ∧ Iv (i + 1) acc ls, fun H' ⟨I', ls', acc', R', z⟩ => ⟨m - 1, by omega, I', ls', acc', R', by omega, z⟩, fun v H' y => ?_⟩
    obtain ⟨I', x, R3, s3, hx, rx⟩ := Y.yld _ i I2 H ls2 v H' R2d.self R2.up pl hlt y
    rw [List.getElem?_eq_getElem hlt] at hx
    cases hx
    have back : ∀ {I6 H6 ls6}, Rel ⟨I2, H, adrs ls2⟩ K I6 H6 ls6 -> Rel ⟨I1, H1, adrs ls1⟩ K I6 H6 ((T, .dct acc) :: ls6) := fun C => R2.frame (A := [(T, .dct acc)]) C
    have V3 : EnvR K I' (wipe σ vs) (jwipe δ vs) := wipe_env (((V.mono s1).mono R2.up).mono s3) vs
    have hs2 := fun W => hs v (wipe σ vs) H' W
    rw [wipe_wipe] at hs2
    refine hs2 _ ?_
    refine hg _ I' H' ls2 _ _ v _ _ R3 V3 rx q _ fun σ2 H2 I4 δ2 ls4 R4 V4 s4 q4 => ?_
    refine hk _ I4 H2 ls4 σ2 δ2 _ R4 V4 q4 _ fun u H5 ⟨I5, ls5, y, R5, s5, r5, q5⟩ => ?_
    refine hv _ I5 H5 ls5 σ2 δ2 _ R5 (V4.mono s5) q5 _ fun w H6 ⟨I6, ls6, z, R6, s6, r6, hl, ks, kk, ey, hkk, q6⟩ => ?_
    subst ey
    have r5' := r5.mono s6
    cases r5' with | d r5' =>
      obtain ⟨b, ys, rfl, hb, t⟩ := r5'.tupI
      have R7 := back R6
      obtain ⟨⟨us, h1, h2⟩, _⟩ := R7.find (n := 0) rfl rfl
      exact ⟨b, kk, us, rfl, by rw [← keysD_v hkk t]; exact R7.sub _ _ hb, h1, by rw [kv_len h2]; exact hl, I6, ls6, gP acc kk z, R7.upd (n := 0) (l' := .dct (gP acc kk z)) rfl rfl rfl ⟨_, upd_same, kv_put h2 r6⟩, q6⟩
  · have e : i = xs.length := by omega
    subst e
    obtain ⟨pl, q⟩ := hd acc ls2 hi2
    exact .inl ⟨Y.stop _ _ I2 H ls2 R2d R2.up pl (Nat.le_refl _), k _ _ ⟨I2, _, _, Rb R2, s1.trans R2.up, .a, q T⟩⟩
theorem pjDC {vs : List Nat} {j : Nat} {kx vx tg iter : Expr} {scope : Scope} {own : List (Str × Nat)} {pos : Pos} {ji : jTI} {g : jTG} {tk tv : jTE} (hr : Room j X.A) (hc : X.calm = true) (hN : X.N.Nodup) (ok : BlkOk X.N X.env.scope scope own)
    (hi : PIJ X tg iter ji) (hg : PGCJ (blkX X scope) X.K (own.map (·.2)) tg g) (hk : PEsJ (blkX X scope) X.K kx tk) (hv : PEsJ (blkX X scope) X.K vx tv) (hs : ∀ x, foldedSetIterable iter X.env x = pure x := by intro _; rfl) (hv : own.map (·.2) = vs := by rfl) :
    PEJ X (.DictComp kx vx [⟨tg, iter, [], 0⟩] scope pos) (jDc ji g tk tv vs) := by
  subst hv
  obtain ⟨wi, p0, j0⟩ := hi
  obtain ⟨t1, p1, j1, s1⟩ := hg
  obtain ⟨t2, p2, j2⟩ := hk
  obtain ⟨t3, p3, j3⟩ := hv
  exact ⟨_, pe_dcT (hu1 hr) hc hN p0 ok p1 p2 p3 hs, jdc_run j0 j1 s1 j2 j3⟩
end

/-! ### [text.replace('c', 'text'[e]) for text in ..] -/
/-- a token is out: J's judgements with it -/
def PETJ (X : Cx) (e : Expr) (t : jTE) : Prop := ∃ te, PET X e te ∧ JE X.K te t
def tRpl (to te : TE) (y z : Str) : TE := fun σ H Q => to σ H fun v H1 => ∃ x, v = .str x ∧ te σ H1 fun w H2 => ∃ (i : Int) (c : Nat), w = .int i ∧ z.length ≤ sizeLine ∧ atI z.cps.toList i = some c ∧ (y == (⟨#[c]⟩ : Str)) = false ∧ x.length + (x.length + 1) ≤ 16777216 ∧ Q (.str (Txt.replace x y ⟨#[c]⟩)) H2
@[reducible] def jRpl (to te : jTE) (y z : Str) : jTE := fun δ ls Q => to δ ls fun v ls1 => match v with
  | .d (.str x) => te δ ls1 fun w ls2 => (match w with
    | .d (.int i) => z.length ≤ sizeLine ∧ ∃ c, atI z.cps.toList i = some c ∧ (y == (⟨#[c]⟩ : Str)) = false ∧ x.length + (x.length + 1) ≤ 16777216 ∧ Q (.d (.str (Txt.replace x y ⟨#[c]⟩))) ls2
    | _ => False)
  | _ => False
section
variable {X : Cx}
theorem pet_rpl {o e : Expr} {to te : TE} {y z : Str} {j0 j1 : Nat} {c0 c1 p1 apos pos : Pos} (ho : PE X o to) (he : PE X e te)
    (hst : starEach [.Constant (.str y) j0 c0, .Subscript (.Constant (.str z) j1 c1) e p1] X.env = [(false, eval (.Constant (.str y) j0 c0) X.env), (false, eval (.Subscript (.Constant (.str z) j1 c1) e p1) X.env)] := by rfl) (hx : PlainIx e := by exact fun _ _ => rfl)
    (hbase : attributeBase o "replace" X.env (eval o X.env) = eval o X.env := by rfl) (hline : (apos.endLine == pos.line) = true := by rfl) :
    PET X (.Call (.Attribute o "replace" apos) [.Constant (.str y) j0 c0, .Subscript (.Constant (.str z) j1 c1) e p1] [] pos) (tRpl to te y z) := by
  intro pins s σ H Q h0 J h
  refine PySem.Call_method2 hbase hst hline (wpAny_mono (PySem.wpAny_toks (ho.run pins s σ H _ J h)) (fun v s1 q => ?_) fun _ _ z => z.2)
  obtain ⟨hk, v', H1, J1, r1, x, e1, q⟩ := q
  subst e1
  obtain ⟨tx, e2⟩ := r1
  subst e2
  refine ⟨"str", _, PySem.F.plainAttrs_str, PySem.F.slot_str_replace, PySem.F.type_str_replace, typeIs_str _ _ _, (fun _ e => nomatch e), Calls.callWith_builtin rfl (Calls.evalArgs_plain (Calls.spliced_cons ?_))⟩
  refine Calls.Constant_str (Calls.spliced_cons (Subscript_ (Calls.Constant_str ?_)))
  refine wpAny_mono (PySem.wpAny_toks (he.run pins _ σ H1 _ (J1.tok (s1.toks + 1 + 1)) q)) (fun u s2 q => ?_) fun _ _ z => z.2
  obtain ⟨hk2, w, H2, J2, r2, i, c, ew, hz, hat, hne, hb, q2⟩ := q
  subst ew
  obtain ⟨ti, eu⟩ := r2
  subst eu
  obtain ⟨jj, a1, a2, a3, a4, a5⟩ := atI_get hat
  have hl : z.cps.toList.length = z.length := by simp [Str.length]
  rw [hl] at a1 a4 a5
  have hn := line63
  have k2 : s1.toks + 1 + 1 ≤ s2.toks := hk2
  refine tail_any (typeIs_str _ z _) PySem.F.slot_str_getitem.lookup (getItem_str (c := c) (by
    have b1 : decide (i < -(2 ^ 63 : Int)) = false := decide_eq_false (by omega)
    have b2 : decide (i ≥ 2 ^ 63) = false := decide_eq_false (by omega)
    rw [b1, b2, Bool.or_false]) (by rw [a1]; simpa using a2) ?_) (hx _ _)
  refine Calls.spliced_nil ?_
  have k1 : s1.toks ≠ 0 := by omega
  have k3 : s2.toks ≠ 0 := by omega
  have k4 : s1.toks ≠ s2.toks := by omega
  refine PySem.SC.replace k1 k3 k4 hne ?_ fun t2 kk => ⟨.str (Txt.replace x y ⟨#[c]⟩), H2, J2.tok kk, ⟨t2, rfl⟩, q2⟩
  show x.length + (x.length + 1) * 1 ≤ 16777216
  omega
end

def bodyL (X : Cx) (elt : Expr) (ce : PySem.Env) (T : Addr) (P : Shared -> Prop) (s : Shared) : Prop :=
  wpAny (model X.prog X.w) X.A (eval elt ce) (fun v s4 => wpAny (model X.prog X.w) X.A (call (.builtin "list.append") [.ref T, v]) (fun _ s5 => P s5) NoX s4) NoX s
theorem ckL {X : Cx} (elt tg iter : Expr) (scope : Scope) (pos : Pos) : CKind X (.ListComp elt [⟨tg, iter, [], 0⟩] scope pos) tg iter (newList []) { cls := .type "list", data := .seq ([] : List Value).toArray } (.lst []) (bodyL X elt) where
  cl := rfl
  new := fun s Q F q => wpAny_newObj_type q (Nat.zero_le _)
  ok := fun h H hb => ⟨Nat.zero_le _, [], 0, .nil, Heap.get?_push_size _ rfl⟩
  loop := fun ce it T R B turn n s hB => by
    refine compLoop_any B (fun n s hB => noNx (turn n s hB) fun r s1 q => ?_) n hB
    cases r with
    | none => exact q
    | some v => exact noNx q fun _ s2 q => noNx q fun _ s3 q => wpAny_tests_nil (by rw [if_pos rfl]; exact noNx q fun kv s4 q => noNx q fun _ s6 q => q)
  start := fun ce it T R s h hi => codeAny_compStart_list h (hi _ _ h)
def tailL (te : TE) (σ : L2.St) (H : Hp) (T : Addr) (Nx : Hp -> Prop) : Prop := tYes σ H fun b H3 => if b = true then te σ H3 fun y H4 => ∃ acc, H4 T = some (.lst acc) ∧ acc.length < sizeLine ∧ Nx (upd H4 T (.lst (acc ++ [y]))) else Nx H3
section
variable {X : Cx}
theorem pst_setLT {i : Nat} {y : Str} {py pos spos : Pos} {elt tg iter : Expr} {scope : Scope} {own : List (Str × Nat)} {wi : TI} {g : TG} {te : TE} (hc : X.calm = true) (hN : X.N.Nodup) (hy : X.N[i]? = some y) (hyl : X.env.scope.names.lookup y = some .local)
    (hsw : swapsWith (.ListComp elt [⟨tg, iter, [], 0⟩] scope pos) (some (.Name y py)) spos.line X.env = pure true) (hi : PI X tg iter wi) (ok : BlkOk X.N X.env.scope scope own)
    (hg : ∀ (s : Shared) (H : Hp) (C : Addr) (cl : List (Str × Addr)) (fp : List Addr), PG (blkX X scope s H C cl fp) tg g) (he : ∀ (s : Shared) (H : Hp) (C : Addr) (cl : List (Str × Addr)) (fp : List Addr), PET (blkX X scope s H C cl fp) elt te)
    (hs : ∀ x, foldedSetIterable iter X.env x = pure x) : PST X (.Assign [.Name y py] (.ListComp elt [⟨tg, iter, [], 0⟩] scope pos) spos) (tAsg (tLc wi g tYes te (own.map (·.2))) (gName i)) := by
  intro pins s σ H D h0 J h
  have hq : tCc wi g (.lst []) (tailL te) (own.map (·.2)) σ H (fun x H1 => gName i x σ H1 D.nx) := h
  rw [exec_Assign_Name_used _ _ _ _ hsw]
  refine wpAny_bind (wpAny_standAt (wpAny_bind ?_))
  show wpAny _ X.A (do let _ ← comprehension (.ListComp elt [⟨tg, iter, [], 0⟩] scope pos) scope X.env (firstIterPos [⟨tg, iter, [], 0⟩] pos) (newList []) false (eval iter X.env) (some (assign (.Name y py) X.env))) _ _ s
  refine wpAny_bind (thn (cc_core (n0 := 1) (Qf := fun _ s2 => SP X pins D .next s2) (ckL elt tg iter scope pos) h0 hc hN J hi ok hg (fun s0 H0 C cl fp pins σ H s T Nx P k0 J1 q fin => ?_) hs hq fun T C s2 m H2 J2 q hn f => ?_) fun _ s2 q2 => wpAny_pure (wpAny_pure q2))
  · have q : te σ H fun y H4 => ∃ acc, H4 T = some (.lst acc) ∧ acc.length < sizeLine ∧ Nx (upd H4 T (.lst (acc ++ [y]))) := q
    refine thnT k0 (he s0 H0 C cl fp pins s σ H _ k0 J1 q) fun v s4 k4 ⟨x, H4, J4, r4, acc, hT, hz, nx⟩ => ?_
    exact wpAny_with_toks k4 (app_ok (X := blkX X scope s0 H0 C cl fp) J4 hT hz r4 fun s5 J5 k5 => fin s5 _ k5 J5 nx)
  · show wpAny _ _ (assign (.Name y py) X.env (.ref T)) _ _ _
    refine wpAny_assign_Name (store_ok2 (v := V.ref T) J2 hN hy (.inl hyl) rfl (fun s3 J3 ⟨a, sb, ha⟩ => ?_) (.inr hyl))
    obtain ⟨f0, f1, f2, f3, f4, f5⟩ := f
    have na : C ≠ a := by
      rcases ha with z | z
      · rw [z]; exact f1
      · exact fun e => f4 y a z e.symm
    exact ⟨m, hn.sameBut sb na, fun h4 sb4 => ⟨_, H2, J3.turned (t' := s3.toks) (fun b o hb e => (sb4.2 b hb).trans e) f0 f1 f3 f4 f5, q⟩⟩
/-- if e == 1: .. , a token is out behind the test -/
theorem ps_ifT {a : Expr} {k : Int} {kj : Nat} {kp cp pos : Pos} {st : Stmt} {ta : TE} {t : TS} {r : R2} (ho : OpR X (compareOp .Eq) r) (ha : PE X a ta) (hs : PST X st t) : PS X (.If (.Compare a [.Eq] [.Constant (.int k) kj kp] cp) [st] [] pos) (tIfS (tTest (tOp r ta (tC (.int k)))) t tNext) := by
  refine ⟨fun pins s σ H D J h => ?_⟩
  refine wpAny_If (wpAny_isTrue_Compare1 (thn (ha.run pins s σ H _ J h) fun v s1 ⟨x, H1, J1, r1, q1⟩ => wpAny_Constant_int (wpAny_with_toks (Nat.le_add_left 1 s1.toks) ?_)) (nomark _))
  refine wpAny_mono (ho pins _ σ H1 x (.int k) v _ _ (J1.tok (s1.toks + 1)) r1 ⟨s1.toks, rfl⟩ q1) (fun c s3 ⟨z, H3, J3, r3, b, e, q3⟩ k3 => ?_) fun _ _ z _ => z
  subst e
  cases r3
  refine wpAny_truthy_bool ?_
  cases b with
  | true => exact CwR.psst_one hs pins s3 σ H3 D k3 J3 q3
  | false => exact pss_nil.run pins s3 σ H3 D J3 q3
theorem jt_cmp {op : CmpOp} {r : jR2} {t1 t2 : TE} {ta tb : jTE} (ho : OpJ X (compareOp op) r) (j1 : JE X.K t1 ta) (j2 : JE X.K t2 tb) : JT X.K (tTest (tOp (fun x y H Q => ∃ r, OpR X (compareOp op) r ∧ r x y H Q) t1 t2)) (jTest (jOp r ta tb)) := by
  intro E I H ls σ δ Q R V h W k
  refine j1 E I H ls σ δ _ R V h _ fun v H1 ⟨I1, ls1, x, R1, s1, r1, q1⟩ => ?_
  refine j2 E I1 H1 ls1 σ δ _ R1 (V.mono s1) q1 _ fun w H2 ⟨I2, ls2, y, R2, s2, r2, q2⟩ => ?_
  refine ho E I2 H2 ls2 v w x y _ R2 (r1.mono s2) r2 q2 _ fun z H3 ⟨I3, ls3, u, R3, s3, r3, q3⟩ => ?_
  dsimp only at q3
  split at q3
  · cases r3 with | d r3 => cases r3; exact ⟨_, rfl, k _ H3 ⟨I3, ls3, R3, (s1.trans s2).trans s3, q3⟩⟩
  · exact q3.elim
theorem psIfRpl {vs : List Nat} {i : Nat} {y yy zz : Str} {py p1 p2 lp spos apos c0 c1 kp cp pos : Pos} {a e : Expr} {k : Int} {kj j0 j1 : Nat} {ta te : jTE} {scope : Scope} {own : List (Str × Nat)} {g : jTG} {ji : jTI} {tg iter o : Expr} {to : jTE} {room : Nat}
    (hr : Room room X.A) (hc : X.calm = true) (hN : X.N.Nodup) (ok : BlkOk X.N X.env.scope scope own) (ha : PEJ X a ta) (hi : PIJ X tg iter ji) (hg : PGCJ (blkX X scope) X.K (own.map (·.2)) tg g)
    (ho : PEsJ (blkX X scope) X.K o to) (he : PEsJ (blkX X scope) X.K e te)
    (hy : X.N[i]? = some y := by rfl) (hyl : X.env.scope.names.lookup y = some .local := by rfl) (hkf : X.env.scope.kind = .function := by rfl) (hl : (py.line == lp.line) = true := by rfl)
    (hna : (scope.names.any fun (n, k) => n == y && (k == .local || k == .cell)) = false := by decide +kernel) (hs : ∀ x, foldedSetIterable iter X.env x = pure x := by intro _; rfl)
    (hst : ∀ s H C cl fp, starEach [.Constant (.str yy) j0 c0, .Subscript (.Constant (.str zz) j1 c1) e p1] (blkX X scope s H C cl fp).env = [(false, eval (.Constant (.str yy) j0 c0) (blkX X scope s H C cl fp).env), (false, eval (.Subscript (.Constant (.str zz) j1 c1) e p1) (blkX X scope s H C cl fp).env)] := by intro _ _ _ _ _; rfl) (hx : PlainIx e := by exact fun _ _ => rfl)
    (hbase : ∀ s H C cl fp, attributeBase o "replace" (blkX X scope s H C cl fp).env (eval o (blkX X scope s H C cl fp).env) = eval o (blkX X scope s H C cl fp).env := by intro _ _ _ _ _; rfl) (hline : (apos.endLine == p2.line) = true := by rfl) (hv : own.map (·.2) = vs := by rfl) :
    PSJ X (.If (.Compare a [.Eq] [.Constant (.int k) kj kp] cp) [.Assign [.Name y py] (.ListComp (.Call (.Attribute o "replace" apos) [.Constant (.str yy) j0 c0, .Subscript (.Constant (.str zz) j1 c1) e p1] [] p2) [⟨tg, iter, [], 0⟩] scope lp) spos] [] pos)
      (jIf (jTest (jOp jEq ta (jC (.d (.int k))))) (jAsg (jLc ji g jYes (jRpl to te yy zz) vs) (jgName i)) jNext) := by
  subst hv
  obtain ⟨t0, p0, g0⟩ := ha
  obtain ⟨wi, p1, g1⟩ := hi
  obtain ⟨t2, p2, g2, s2⟩ := hg
  obtain ⟨t3, p3, g3⟩ := ho
  obtain ⟨t4, p4, g4⟩ := he
  have rp : JE X.K (tRpl t3 t4 yy zz) (jRpl to te yy zz) := fun E I H ls σ δ Q R V h W k => by
    refine g3 E I H ls σ δ _ R V h _ fun v H1 ⟨I1, ls1, x, R1, s1, r1, q1⟩ => ?_
    dsimp only at q1
    split at q1
    · cases r1 with | d r1 =>
        cases r1
        refine ⟨_, rfl, g4 E I1 H1 ls1 σ δ _ R1 (V.mono s1) q1 _ fun w H2 ⟨I2, ls2, u, R2, s2, r2, q2⟩ => ?_⟩
        dsimp only at q2
        split at q2
        · cases r2 with | d r2 => cases r2; obtain ⟨hz, c, hc, hn, hb, q2⟩ := q2; exact ⟨_, c, rfl, hz, hc, hn, hb, k _ _ ⟨I2, ls2, _, R2, s1.trans s2, .d (.str _), q2⟩⟩
        · exact q2.elim
    · exact q1.elim
  have lc := jlc_run g1 g2 s2 (jt := jYes) (tt := tYes) (fun E I H ls σ δ Q R V h W k => k _ _ ⟨I, ls, R, Same.refl I, h⟩) rp
  refine ⟨_, ps_ifT opU p0 (pst_setLT hc hN hy hyl (sw_true hkf hyl hl hna) p1 ok p2 (fun s H C cl fp => pet_rpl (p3 s H C cl fp) (p4 s H C cl fp) (hst s H C cl fp) hx (hbase s H C cl fp) hline) hs), fun E I H ls σ δ N M R V kM h => ?_⟩
  refine jt_cmp (ojEq (hu64 hr)) g0 (fun E I H ls σ δ Q R V h W k => k _ _ (.of R (.d (.int _)) h)) E I H ls σ δ _ R V h _ fun b H3 ⟨I3, ls3, R3, s3, q3⟩ => ?_
  have V3 := V.mono s3
  cases b with
  | true =>
    rw [if_pos rfl]
    refine lc E I3 H3 ls3 σ δ _ R3 V3 q3 (fun x H1 => gName i x σ H1 M.nx) fun v H4 ⟨I4, ls4, y, R4, s4, r4, q4⟩ => ?_
    unfold jgName at q4
    dsimp only at q4
    rw [st_eq] at q4
    exact kM.nx _ _ _ _ _ R4 ((V3.mono s4).set r4 i) q4
  | false => exact kM.nx _ _ _ _ _ R3 V3 q3
end
end J

/-! J10: from the facts that the top has written to the defs, and the law's end. -/
namespace J
open PySem PySem.Spec PyProof.Rows L2
section
variable {K : PySem.W.Frag} {h : Heap} {mg : Str -> Option Value}
theorem df_mk {x : Str} {st : Stmt} {f : Addr} {oc kV dc pm cd ct : Value} {od an : Option Addr} {sl : Array (Option Value)} (X : K.In h) (G : h.Ns mainGlobals mg) (a : PySem.W.nsIn K mainGlobals x = some (some (.ref f)))
    (l : K.lookup f = some ⟨oc, od, .func (PySem.W.fnOf x x (defArgs st) (defBody st) (defScope st) .none kV dc pm an cd ct), sl⟩) (c : PySem.W.codeIn K cd x = true) (k : PySem.W.keepIn K (.ref f) = true) : Df K mg x st :=
  ⟨f, _, fun_mk (st := st) l c k, PySem.W.mg_of X G a⟩
theorem dm_mk {C : Addr} {m qual : Str} {st : Stmt} {f : Addr} {oc kV dc pm cd ct : Value} {od an : Option Addr} {sl : Array (Option Value)} (a : PySem.W.findIn K (.ref C) m = some (some (.ref f))) (i : PySem.W.isFn K (.ref f) = true)
    (l : K.lookup f = some ⟨oc, od, .func (PySem.W.fnOf m qual (defArgs st) (defBody st) (defScope st) .none kV dc pm an cd ct), sl⟩) (c : PySem.W.codeIn K cd qual = true) (k : PySem.W.keepIn K (.ref f) = true) : Dm K C m qual st :=
  ⟨f, _, fun_mk (st := st) l c k, ⟨a, i, k⟩⟩
theorem dk_mk {C : Addr} {x qual : Str} {st : Stmt} {f : Addr} {oc kV dc pm cd ct : Value} {od an : Option Addr} {sl : Array (Option Value)} (X : K.In h) (G : h.Ns mainGlobals mg) (g : PySem.W.nsIn K mainGlobals x = some (some (.ref C)))
    (mk : PySem.W.makesIn K C = true) (kc : PySem.W.keepIn K (.ref C) = true) (a : PySem.W.findIn K (.ref C) "__init__" = some (some (.ref f))) (i : PySem.W.isFn K (.ref f) = true)
    (l : K.lookup f = some ⟨oc, od, .func (PySem.W.fnOf "__init__" qual (defArgs st) (defBody st) (defScope st) .none kV dc pm an cd ct), sl⟩) (c : PySem.W.codeIn K cd qual = true) (k : PySem.W.keepIn K (.ref f) = true) : Dk K mg x C qual st :=
  ⟨f, _, fun_mk (st := st) l c k, ⟨mk, a, i, kc⟩, PySem.W.mg_of X G g⟩
/-- constants of the module -/
theorem kon_str {x : Str} {y : Str} {t : Tok} (X : K.In h) (G : h.Ns mainGlobals mg) (a : PySem.W.nsIn K mainGlobals x = some (some (.str y t))) : Kon K mg x (.d (.str y)) :=
  ⟨.str y, _, PySem.W.mg_of X G a, ⟨t, rfl⟩, fun I => .d (.str y)⟩
theorem kon_int {x : Str} {y : Int} {t : Tok} (X : K.In h) (G : h.Ns mainGlobals mg) (a : PySem.W.nsIn K mainGlobals x = some (some (.int y t))) : Kon K mg x (.d (.int y)) :=
  ⟨.int y, _, PySem.W.mg_of X G a, ⟨t, rfl⟩, fun I => .d (.int y)⟩
/-- a value that stands in K for good -/
def Kval (K : PySem.W.Frag) (u : Value) (y : D) : Prop := ∃ v, RelV v u ∧ ∀ I, RD K I v y
theorem kval_int {i : Int} {t : Tok} : Kval K (.int i t) (.d (.int i)) := ⟨.int i, ⟨t, rfl⟩, fun I => .d (.int i)⟩
inductive Kvals (K : PySem.W.Frag) : List Value -> List D -> Prop
  | nil : Kvals K [] []
  | cons {u : Value} {us : List Value} {y : D} {ys : List D} : Kval K u y -> Kvals K us ys -> Kvals K (u :: us) (y :: ys)
theorem Kvals.get : ∀ {us : List Value} {ys : List D}, Kvals K us ys -> ∃ vs, Vals vs us ∧ ∀ I, RDs K I vs ys
  | _, _, .nil => ⟨[], .nil, fun _ => .nil⟩
  | _, _, .cons ⟨v, a, b⟩ t => by
    obtain ⟨vs, c, d⟩ := t.get
    exact ⟨v :: vs, .cons a c, fun I => .cons (b I) (d I)⟩
theorem kval_tup {p : Addr} {dd : Option Addr} {n : Nat} {sl : Array (Option Value)} {its : Array Value} {ys : List D} (l : K.lookup p = some ⟨.type "tuple", dd, .seq its n, sl⟩) (z : its.size ≤ sizeLine) (t : Kvals K its.toList ys) : Kval K (.ref p) (.t ys) := by
  obtain ⟨vs, a, b⟩ := t.get
  exact ⟨.ref p, rfl, fun I => .t (.inr ⟨_, its, n, l, rfl, rfl, z, a⟩) (b I)⟩
theorem kon_val {x : Str} {u : Value} {y : D} (X : K.In h) (G : h.Ns mainGlobals mg) (a : PySem.W.nsIn K mainGlobals x = some (some u)) (k : Kval K u y) : Kon K mg x y := by
  obtain ⟨v, r, q⟩ := k
  exact ⟨v, u, PySem.W.mg_of X G a, r, q⟩
end
/-- the law's own promise -/
@[reducible] def js_law : JSp := fun ds ls Q => match ds with
  | [.scr ns] => ns.length ≤ 63 ∧ Q (.d (.bool true)) ls
  | _ => False
theorem law_start {K : PySem.W.Frag} {H : Hp} {a : Addr} {ns : List Int} (hl : ns.length ≤ 63) (hS : SqL K H a (ns.map V.int)) : spJ K js_law [.ref a] H (fun v _ => v = .bl true) fun _ _ _ => False := by
  refine ⟨H, [], [.scr ns], fun x _ => x = .d (.bool true), ⟨Same.refl H, fun q h => by simp [flats] at h, by simp [flats], fun a o h _ => ⟨h, fun hn _ => by exact hn⟩, fun q h => by simp [flats] at h, Same.refl H⟩, .cons (.scr hS) .nil, ⟨hl, rfl⟩, fun x ls' v I' H' _ r e => ?_⟩
  subst e
  cases r with | d r => cases r; rfl
theorem law_walk {l : PySem.W.OpenLaw} {q : Program} {loose : List Str} {XP : (Str -> Option Value) -> Heap -> Prop} {YP : World -> Heap -> Prop} {d : DefRec} {K : Params -> PySem.W.Frag} {k : Nat} (hn : l.most = some 63) (hdf : d.params.defaults = []) (hr : Room k callerA)
    (hY : ∀ (w : World) (h : Heap), YP w h -> (K w.params).In h)
    (F : ∀ (w : World) (mg : Str -> Option Value) (fa : Addr) (h : Heap), (K w.params).In h -> h.Ns mainGlobals mg -> mg d.name = some (.ref fa) ->
      ∃ fd : FuncData, (∀ (s : Shared) (u : Value), BindsTo s fd ⟨[u], []⟩ [("script", u)]) ∧ ∀ base : Heap, (K w.params).In base -> base.Ns mainGlobals mg -> FnOk l.prog w (K w.params) mg base CX0 k fa fd ["script"] (spJ (K w.params) js_law)) :
    PySem.W.WalkO q loose XP YP l.row.toRowW d [] (fun f vs => PySem.call f vs) :=
  L2.walk_of (n := 63) (k := k) (x := "script") (CX := fun _ => CX0) (sp := fun w => spJ (K w.params) js_law) hn (by decide) hdf hr hY F (fun _ _ a ns hl _ hS => law_start hl hS) fun _ _ _ _ _ z => z
theorem law_mk {l : PySem.W.OpenLaw} {w : World} {K : PySem.W.Frag} {h : Heap} {mg : Str -> Option Value} {fa f : Addr} {st : Stmt} {k : Nat} {N : List Str} {oc kV dc pm cd ct : Value} {od an : Option Addr} {sl : Array (Option Value)} (X : K.In h) (G : h.Ns mainGlobals mg) (hfa : mg "law" = some (.ref fa))
    (a : PySem.W.nsIn K mainGlobals "law" = some (some (.ref f))) (lk : K.lookup f = some ⟨oc, od, .func (PySem.W.fnOf "law" "law" (defArgs st) (defBody st) (defScope st) .none kV dc pm an cd ct), sl⟩) (c : PySem.W.codeIn K cd "law" = true) (kp : PySem.W.keepIn K (.ref f) = true)
    (S : FnScope N ["script"] (defScope st)) (b : ∀ (s : Shared) (u : Value), BindsTo s (PySem.W.fnOf "law" "law" (defArgs st) (defBody st) (defScope st) .none kV dc pm an cd ct) ⟨[u], []⟩ [("script", u)]) (B : ∀ base : Heap, K.In base -> base.Ns mainGlobals mg -> BodyG l.prog w K mg base k N "law" st js_law) :
    ∃ fd : FuncData, (∀ (s : Shared) (u : Value), BindsTo s fd ⟨[u], []⟩ [("script", u)]) ∧ ∀ base : Heap, K.In base -> base.Ns mainGlobals mg -> FnOk l.prog w K mg base CX0 (k + 1) fa fd ["script"] (spJ K js_law) := by
  have e := hfa.symm.trans (PySem.W.mg_of X G a)
  cases e
  refine ⟨_, b, fun base kb gb => (B base kb gb).ok (fun_mk (st := st) lk c kp) S ?_⟩
  intro ds ls Q h
  unfold js_law at h
  split at h
  · rfl
  · exact h.elim
end J

/-! J11: the objects in another order; defs that leave more behind; promises that nobody asks. -/
namespace J
open PySem PySem.Spec PyProof.Rows L2

theorem flats_perm : ∀ {a b : Ls}, a.Perm b -> (flats a).Perm (flats b) := by
  intro a b h
  induction h with
  | nil => exact .refl _
  | cons x _ ih => exact List.Perm.append_left _ ih
  | swap x y l =>
    simp only [flats]
    rw [← List.append_assoc, ← List.append_assoc]
    exact List.Perm.append_right _ List.perm_append_comm
  | trans _ _ i1 i2 => exact i1.trans i2
section
variable {E : Ent} {K : PySem.W.Frag} {I H : Hp} {ls ls' : Ls}
theorem Rel.permL (p : ls.Perm ls') (R : Rel E K I H ls) : Rel E K I H ls' := by
  have q := flats_perm p
  exact ⟨R.sub, fun x hx => R.loc x (q.mem_iff.mpr hx), (q.map _).nodup_iff.mp R.nd, R.fr, fun x hx => R.fl x (q.mem_iff.mpr hx), R.up⟩
theorem Rel.forget : ∀ {r : Ls} {ls : Ls}, Rel E K I H (r ++ ls) -> Rel E K I H ls
  | [], _, R => R
  | _ :: r, ls, R => Rel.forget (r := r) (R.drop (n := 0))
end
theorem perm_at {α : Type} : ∀ {ls : List α} {m : Nat} {x : α}, ls[m]? = some x -> ls.Perm (x :: ls.eraseIdx m)
  | [], _, _, h => by simp at h
  | y :: r, 0, x, h => by simp at h; subst h; simp
  | y :: r, m + 1, x, h => by
    have ih := perm_at (ls := r) (m := m) (x := x) (by simpa using h)
    rw [List.eraseIdx_cons_succ]
    exact (List.Perm.cons y ih).trans (List.Perm.swap x y _)
theorem perm_front {α : Type} {l ls ls' : List α} {m : Nat} {x : α} (p : ls'.Perm (l ++ ls)) (h : ls[m]? = some x) : ls'.Perm (x :: (l ++ ls.eraseIdx m)) :=
  p.trans ((List.Perm.append_left l (perm_at h)).trans List.perm_middle)
theorem perm_back {α : Type} {l ls : List α} {m : Nat} {x y : α} (h : ls[m]? = some x) : (y :: x :: (l ++ ls.eraseIdx m)).Perm ((y :: l) ++ ls) := List.Perm.cons y (perm_front (List.Perm.refl _) h).symm
/-- from here on the objects stand so -/
@[reducible] def jPerm (u : jTS) : jTS := fun N δ ls => ∃ ls' : Ls, ls.Perm ls' ∧ u N δ ls'
section
variable {X : Cx}
theorem pbPerm {r : List Stmt} {u : jTS} (h : PBJ X r u) : PBJ X r (jPerm u) := by
  obtain ⟨t0, p0, j0⟩ := h
  refine ⟨_, p0, fun E I H ls σ δ N M R V k q => ?_⟩
  obtain ⟨ls', p, q⟩ := q
  exact j0 E I H ls' σ δ N M (R.permL p) V k q
end
/-- what a def has laid may be forgotten, wherever it stands -/
abbrev Gp (R : D -> Ls -> Prop) : D -> Ls -> Prop := fun x ls => ∃ ls' r : Ls, ls.Perm (r ++ ls') ∧ R x ls'
section
variable {P : Program} {w : World} {K : PySem.W.Frag} {mg : Str -> Option Value} {base : Heap}
def BodyP (P : Program) (w : World) (K : PySem.W.Frag) (mg : Str -> Option Value) (base : Heap) (k : Nat) (N : List Str) (qual : Str) (st : Stmt) (js : JSp) : Prop :=
  ∀ (f : Addr) (cdv : Value) (A : Around) (outer : List PySem.Env) (s : Shared) (H : Hp) (E : XK), rm k qual st f cdv A s ->
    ∃ t, PBJ (cx P w K mg base N qual st f cdv A outer s H E) (defBody st) t ∧ ∀ ds ls R, js ds ls R -> t { nx := fun _ ls' => Gp R (.d .none) ls', rt := Gp R } (startR N ds) ls
theorem BodyP.ok {x qual : Str} {st : Stmt} {f : Addr} {fd : FuncData} {N ps : List Str} {k : Nat} {js : JSp} (F : Fun K x qual st f fd) (S : FnScope N ps (defScope st)) (len : ∀ ds ls Q, js ds ls Q -> ds.length = ps.length) (hb : BodyP P w K mg base k N qual st js) :
    FnOk P w K mg base CX0 (k + 1) f fd ps (spJ K js) := by
  refine F.ok S (fun vs H Q E h => ?_) (fun cdv A outer s H vs Q E hr h => ?_)
  · obtain ⟨I, ls, ds, W, R, r, h, _⟩ := h
    rw [r.length]; exact len _ _ _ h
  · obtain ⟨I, ls, ds, W, R, r, h, kk⟩ := h
    obtain ⟨t, ⟨ts, h1, h2⟩, h3⟩ := hb f cdv A outer s H E hr
    have hl := len _ _ _ h
    have hp : ps.length ≤ N.length := by
      have e := congrArg List.length S.pre
      rw [List.length_take] at e
      omega
    have h3 := h3 _ _ _ h
    rw [startR_eq N ds (by omega)] at h3
    refine ⟨ts, h1, h2 ⟨I, H, adrs ls⟩ I H ls _ _ { nx := fun _ ls' => Gp W (.d .none) ls', rt := Gp W } _ R (start_env r) ⟨fun I' H' ls' σ δ R' _ ⟨l2, n, p, q⟩ => ?_, fun I' H' ls' v x R' r' ⟨l2, n, p, q⟩ => ?_, fun _ _ _ _ _ _ _ (q : False) => q.elim, fun _ _ _ _ _ _ _ (q : False) => q.elim⟩ h3⟩
    · exact kk _ _ _ I' H' (R'.permL p).forget (.d .non) q
    · exact kk _ _ _ I' H' (R'.permL p).forget r' q
theorem Df.calP {x : Str} {st : Stmt} {N ps : List Str} {k : Nat} {js : JSp} (D : Df K mg x st) (b : BindsH x x st ps) (S : FnScope N ps (defScope st)) (len : ∀ ds ls Q, js ds ls Q -> ds.length = ps.length) (h : BodyP P w K mg base k N x st js) : Cal P w K mg base (k + 1) x ps js := by
  obtain ⟨f, fd, F, m⟩ := D
  exact ⟨f, fd, h.ok F S len, m, F.kp, F.binds b⟩
theorem Dm.camP {C : Addr} {x qual : Str} {st : Stmt} {N ps : List Str} {k : Nat} {js : JSp} (D : Dm K C x qual st) (b : BindsH x qual st ps) (S : FnScope N ps (defScope st)) (len : ∀ ds ls Q, js ds ls Q -> ds.length = ps.length) (h : BodyP P w K mg base k N qual st js) : Cam P w K mg base (k + 1) C x ps js := by
  obtain ⟨f, fd, F, m⟩ := D
  exact ⟨f, fd, h.ok F S len, m, F.binds b⟩
/-- nobody may call it so -/
@[reducible] def jsNo : JSp := fun _ _ _ => False
theorem Df.no {x : Str} {st : Stmt} {N ps : List Str} (k : Nat) (D : Df K mg x st) (b : BindsH x x st ps) (S : FnScope N ps (defScope st)) : Cal P w K mg base (k + 1) x ps jsNo :=
  D.cal b S (fun _ _ _ h => h.elim) fun f cdv A outer s H E hr => ⟨_, pbNever, fun _ _ _ h => h.elim⟩
theorem Dm.no {C : Addr} {x qual : Str} {st : Stmt} {N ps : List Str} (k : Nat) (D : Dm K C x qual st) (b : BindsH x qual st ps) (S : FnScope N ps (defScope st)) : Cam P w K mg base (k + 1) C x ps jsNo :=
  D.cam b S (fun _ _ _ h => h.elim) fun f cdv A outer s H E hr => ⟨_, pbNever, fun _ _ _ h => h.elim⟩
end
end J
namespace J
open PySem PySem.Spec PyProof.Rows L2
/-! ### name = {k: v for ..}, tuple keys -/
section
variable {X : Cx}
theorem sw_trueD {kx vx : Expr} {gs : List Comprehension} {scope : Scope} {pos py : Pos} {y : Str} {l : Nat} {env : PySem.Env} (hk : env.scope.kind = .function) (hy : env.scope.names.lookup y = some .local) (hl : (py.line == pos.line) = true)
    (ha : (scope.names.any fun (n, k) => n == y && (k == .local || k == .cell)) = false) : swapsWith (.DictComp kx vx gs scope pos) (some (.Name y py)) l env = pure true := by
  have ky : env.kindOf y = some .local := hy
  have hb : env.blockKind = .function := by unfold Env.blockKind; rw [hk]; rfl
  unfold swapsWith
  simp only [hb, ky, ha, Expr.pos, hl]
  rfl
theorem ps_setDcT {i : Nat} {y : Str} {py : Pos} {kx vx tg iter : Expr} {scope : Scope} {own : List (Str × Nat)} {pos spos : Pos} {wi : TI} {g : TG} {tk tv : TE} (hu : X.A.units + 1 < cLine) (hc : X.calm = true) (hN : X.N.Nodup) (hy : X.N[i]? = some y) (hyl : X.env.scope.names.lookup y = some .local)
    (hsw : swapsWith (.DictComp kx vx [⟨tg, iter, [], 0⟩] scope pos) (some (.Name y py)) spos.line X.env = pure true) (hi : PI X tg iter wi) (ok : BlkOk X.N X.env.scope scope own)
    (hg : ∀ (s : Shared) (H : Hp) (C : Addr) (cl : List (Str × Addr)) (fp : List Addr), PG (blkX X scope s H C cl fp) tg g) (hk : ∀ (s : Shared) (H : Hp) (C : Addr) (cl : List (Str × Addr)) (fp : List Addr), PE (blkX X scope s H C cl fp) kx tk)
    (hv : ∀ (s : Shared) (H : Hp) (C : Addr) (cl : List (Str × Addr)) (fp : List Addr), PE (blkX X scope s H C cl fp) vx tv) (hs : ∀ x, foldedSetIterable iter X.env x = pure x) :
    PS X (.Assign [.Name y py] (.DictComp kx vx [⟨tg, iter, [], 0⟩] scope pos) spos) (tAsg (tCc wi g (.dT []) (tailT tk tv) (own.map (·.2))) (gName i)) := by
  refine ⟨fun pins s σ H D I h => ?_⟩
  rw [exec_Assign_Name_used _ _ _ _ hsw]
  refine wpAny_bind (wpAny_standAt (wpAny_bind ?_))
  show wpAny _ X.A (do let _ ← comprehension (.DictComp kx vx [⟨tg, iter, [], 0⟩] scope pos) scope X.env (firstIterPos [⟨tg, iter, [], 0⟩] pos) newDict false (eval iter X.env) (some (assign (.Name y py) X.env))) _ _ s
  have h : tCc wi g (.dT []) (tailT tk tv) (own.map (·.2)) σ H (fun x H1 => gName i x σ H1 D.nx) := h
  refine wpAny_bind (thn (cc_core (n0 := 0) (Qf := fun _ s' => SP X pins D .next s') (ckD kx vx tg iter scope pos) (Nat.zero_le _) hc hN I hi ok hg (fun s0 H0 C cl fp pins σ H s T Nx P k0 J1 q fin => ?_) hs h fun L C s' m H' I' q hn f => ?_) fun _ s' hq => wpAny_pure (wpAny_pure hq))
  · refine noNx ((hk s0 H0 C cl fp).run pins s σ H _ J1 q) fun kv s4 ⟨y, H4, J4, r4, q4⟩ => ?_
    refine noNx ((hv s0 H0 C cl fp).run pins s4 σ H4 _ J4 q4) fun vv s5 ⟨z, H5, J5, r5, b, k, ents, ey, hb, hT, hz, nx⟩ => ?_
    subst ey
    obtain rfl : kv = Value.ref b := r4
    exact dSetT (X := blkX X scope s0 H0 C cl fp) hu J5 hT hb hz r5 fun s6 J6 => fin s6 _ (Nat.zero_le _) J6 nx
  · show wpAny _ _ (assign (.Name y py) X.env (.ref L)) _ _ _
    refine wpAny_assign_Name (store_ok2 (v := V.ref L) I' hN hy (.inl hyl) rfl (fun s2 I2 ⟨a, sb, ha⟩ => ?_) (.inr hyl))
    obtain ⟨f0, f1, f2, f3, f4, f5⟩ := f
    have haC : C ≠ a := by
      rcases ha with z | z
      · rw [z]; exact f1
      · exact fun e => f4 y a z e.symm
    refine ⟨m, hn.sameBut sb haC, fun h3 sb3 => ?_⟩
    exact ⟨_, H', I2.turned (t' := s2.toks) (fun b o hb e => (sb3.2 b hb).trans e) f0 f1 f3 f4 f5, q⟩
theorem psSDC {vs : List Nat} {i : Nat} {y : Str} {py spos : Pos} {k : Nat} {kx vx tg iter : Expr} {scope : Scope} {own : List (Str × Nat)} {pos : Pos} {ji : jTI} {g : jTG} {tk tv : jTE} (hr : Room k X.A) (hc : X.calm = true) (hN : X.N.Nodup) (ok : BlkOk X.N X.env.scope scope own)
    (hi : PIJ X tg iter ji) (hg : PGCJ (blkX X scope) X.K (own.map (·.2)) tg g) (hk : PEsJ (blkX X scope) X.K kx tk) (hv : PEsJ (blkX X scope) X.K vx tv) (hy : X.N[i]? = some y := by rfl) (hyl : X.env.scope.names.lookup y = some .local := by rfl)
    (hkf : X.env.scope.kind = .function := by rfl) (hl : (py.line == pos.line) = true := by rfl) (ha : (scope.names.any fun (n, k) => n == y && (k == .local || k == .cell)) = false := by decide +kernel)
    (hs : ∀ x, foldedSetIterable iter X.env x = pure x := by intro _; rfl) (hvv : own.map (·.2) = vs := by rfl) :
    PSJ X (.Assign [.Name y py] (.DictComp kx vx [⟨tg, iter, [], 0⟩] scope pos) spos) (jAsg (jDc ji g tk tv vs) (jgName i)) := by
  subst hvv
  obtain ⟨wi, p0, j0⟩ := hi
  obtain ⟨t1, p1, j1, s1⟩ := hg
  obtain ⟨t2, p2, j2⟩ := hk
  obtain ⟨t3, p3, j3⟩ := hv
  refine ⟨_, ps_setDcT (hu1 hr) hc hN hy hyl (sw_trueD hkf hyl hl ha) p0 ok p1 p2 p3 hs, fun E I H ls σ δ N M R V k h => ?_⟩
  refine jdc_run j0 j1 s1 j2 j3 E I H ls σ δ _ R V h _ fun v H1 ⟨I1, ls1, y, R1, s1, r1, q1⟩ => ?_
  unfold jgName at q1
  dsimp only at q1
  rw [st_eq] at q1
  exact k.nx _ _ _ _ _ R1 ((V.mono s1).set r1 i) q1
end
end J

/-! J12: enumerate of a text; is of bools; in range. -/
namespace J
open PySem PySem.Spec PyProof.Rows L2

def ItES (x : Str) : It :=
  ⟨fun i _ => i < x.cps.size, fun i H v H' => ∃ T c, v = .ref T ∧ H T = none ∧ H' = upd H T (.tup [.int (i : Nat), .str ⟨#[c]⟩]) ∧ x.cps[i]? = some c, fun i _ => x.cps.size ≤ i⟩
theorem drawStr {P : Program} {w : World} {A : Around} (hh : A.handled = none) (it : Addr) (x : Str) (t : Tok) : Draws P w A it [it] x.cps.size (SignAt x) (fun i h => h.IsStrIter it (strIterType x) x t i) := by
  unfold strIterType
  cases ha : x.cps.all (· < 128)
  · exact Draws.strWide hh it x t
  · exact Draws.strAscii hh it x t
theorem turn_enumS {P : Program} {w : World} {K : PySem.W.Frag} {elts : List Expr} {kk : Nat} {tpos : Pos} (x : Str) (t : Tok) (e it : Addr) :
    Turn P w K (.Tuple elts kk tpos) (ItES x) [e, it] e (fun i h => (∃ old, IsEnum h e it ((i : Nat) : Int) old) ∧ h.IsStrIter it (strIterType x) x t i ∧ e ≠ it ∧ i ≤ x.cps.size) where
  mem := by simp
  obj := fun i h st b hb => by
    obtain ⟨⟨old, he⟩, ⟨o, ho, hc, hd⟩, _⟩ := st
    have e' : b = e ∨ b = it := by simpa using hb
    rcases e' with z | z
    · rw [z]; exact ⟨_, he, fun v q => nomatch q⟩
    · rw [z]; exact ⟨o, ho, fun v q => by rw [hd] at q; cases q⟩
  keep := fun i h h' st k => let ⟨⟨old, he⟩, ⟨o, ho, r⟩, hne, hle⟩ := st; ⟨⟨old, k e (by simp) _ he⟩, ⟨o, k it (by simp) o ho, r⟩, hne, hle⟩
  item := by
    intro X hP hw hK hc i pins s σ H E I hf st hg
    subst hP hw hK
    obtain ⟨⟨old, he⟩, hit, hne, hle⟩ := st
    have hg : i < x.cps.size := hg
    have hel : e < s.heap.objs.size := Heap.lt_size he
    have hil : it < s.heap.objs.size := by obtain ⟨_, q, _⟩ := hit; exact Heap.lt_size q
    refine wpAny_pyNext_enum_itemD (drawStr (P := X.prog) (w := X.w) (A := X.A.in1) (by have := I.ok.hd hc; simpa using this) it x t) he hit hg hne (by simpa using hne) fun u h' tk hu ho hit' hT hsz hk => ?_
    obtain ⟨c, t2, hcx, rfl⟩ := hu
    refine ⟨_, rfl, wpAny_letOwnedTupleGo_enum (s := { s with heap := h', toks := tk + 1 }) ho fun h'' he' sb => ?_⟩
    have hT2 : h''.get? s.heap.objs.size = some { cls := .type "tuple", data := .seq #[.int i tk, .str ⟨#[c]⟩ t2] } := (sb.2 _ (Nat.ne_of_gt hel)).trans hT
    have new : ObjOk X.prog X.w (upd H s.heap.objs.size (.tup [.int (i : Nat), .str ⟨#[c]⟩])) h'' s.heap.objs.size (.tup [.int (i : Nat), .str ⟨#[c]⟩]) :=
      ⟨by show 2 ≤ sizeLine; decide, [.int i tk, .str ⟨#[c]⟩ t2], .cons ⟨_, rfl⟩ (.cons ⟨_, rfl⟩ .nil), ⟨_, hT2, rfl, _, rfl⟩⟩
    have I1 : Inv X pins σ (upd H s.heap.objs.size (.tup [.int (i : Nat), .str ⟨#[c]⟩])) { s with heap := h'', toks := tk + 1 } :=
      I.turnedNew (ch := [e, it]) (fun b ob hb q => (sb.2 b (fun z => hb (by simp [z]))).trans (hk b ob (fun z => hb (by simp [z])) (fun z => hb (by simp [z])) q)) hf (Nat.le_refl _) new
    obtain ⟨oi, ho2, r2⟩ := hit'
    refine ⟨.ref s.heap.objs.size, _, I1, rfl, ⟨_, c, rfl, I.hok.fresh (Nat.le_refl _), rfl, hcx⟩, ⟨⟨.str ⟨#[c]⟩ t2, ?_⟩, ⟨oi, (sb.2 it (Ne.symm hne)).trans ho2, r2⟩, hne, hg⟩, fun b hb => ?_⟩
    · have e1 : ((i + 1 : Nat) : Int) = (i : Int) + 1 := by omega
      rw [e1]; exact he'
    · have hb' : b < s.heap.objs.size := by
        have e' : b = e ∨ b = it := by simpa using hb
        rcases e' with z | z
        · rw [z]; exact hel
        · rw [z]; exact hil
      rw [upd_ne (Nat.ne_of_lt hb')]
      exact (hf b hb).1
  done := by
    intro X hP hw hK hc i pins s σ H E I hf st hg
    subst hP hw hK
    obtain ⟨⟨old, he⟩, hit, hne, hle⟩ := st
    have hg : x.cps.size ≤ i := hg
    obtain ⟨f0, f1, f2, f3, f4, f5⟩ := hf it (by simp)
    obtain rfl : i = x.cps.size := by omega
    exact wpAny_pyNext_enum_endD (drawStr (P := X.prog) (w := X.w) (A := X.A.in1) (by have := I.ok.hd hc; simpa using this) it x t) he hit fun h' eb => ⟨rfl, I.turned (t' := s.toks) (fun b o hb q => eb b o hb q) f0 f1 f3 f4 f5⟩
  self := fun A i s Q E st h => let ⟨⟨_, he⟩, _⟩ := st; wpAny_pyIter_enum he h
def iEnumS (te : TE) : TI := fun σ H R => te σ H fun v H1 => ∃ x, v = .str x ∧ R (ItES x) H1
theorem pi_enumS {X : Cx} {e : Expr} {ta : TA} {p pos tpos : Pos} {elts : List Expr} {kk : Nat} (hg : Gl X "enumerate") (hm : X.mg "enumerate" = none) (ha : PA X [e] ta) (hs : starEach [e] X.env = [(false, eval e X.env)] := by rfl) :
    PI X (.Tuple elts kk tpos) (.Call (.Name "enumerate" p) [e] [] pos) (fun σ H R => ta σ H fun vs H1 => ∃ x, vs = [.str x] ∧ R (ItES x) H1) := by
  refine ⟨fun pins s σ H R I h => ?_⟩
  refine Call_ (ld_blt I hg hm boot_enumerate (PyProof.Rows.callWith_type1 (thn (ha.run pos pins s σ H _ I h) fun us s1 ⟨vs, H1, I1, r1, q1⟩ => ?_) hs rfl))
  obtain ⟨x, ex, q⟩ := q1
  subst ex
  cases r1 with
  | cons r rr =>
    cases rr
    obtain ⟨t, rfl⟩ := r
    refine call_enumerate_str fun h' he hit hsz hk => wpAny_pyIter_enum he ?_
    have I2 : Inv X pins σ H1 { s1 with heap := h' } := I1.kept (t' := s1.toks) hk
    refine ⟨s1.heap.objs.size + 1, [s1.heap.objs.size + 1, s1.heap.objs.size], _, _, H1, rfl, I2, turn_enumS x t (s1.heap.objs.size + 1) s1.heap.objs.size, ⟨⟨.none, he⟩, hit, Nat.succ_ne_self _, Nat.zero_le _⟩, fun b hb => ?_, q⟩
    have e' : b = s1.heap.objs.size + 1 ∨ b = s1.heap.objs.size := by simpa using hb
    have hle : s1.heap.objs.size ≤ b := by
      rcases e' with z | z
      · rw [z]; exact Nat.le_add_right _ _
      · rw [z]; exact Nat.le_refl _
    exact I1.fpOk hle (I1.hok.fresh hle)
@[reducible] def jiEnumS (t : jTE) : jTI := fun δ ls Q => t δ ls fun x ls1 => match x with
  | .d (.str s) => Q (pairsFrom 0 (s.cps.toList.map fun c => .str ⟨#[c]⟩)) anyLs ls1
  | _ => False
section
variable {X : Cx} {tg e : Expr} {te : jTE} {p pos tpos : Pos}
theorem piEnumS {elts : List Expr} {kk : Nat} (hg : Gl X "enumerate") (hm : X.mg "enumerate" = none) (he : PEJ X e te) (hs : starEach [e] X.env = [(false, eval e X.env)] := by rfl) (hs2 : starEach [e] X.env = (false, eval e X.env) :: starEach [] X.env := by rfl) :
    PIJ X (.Tuple elts kk tpos) (.Call (.Name "enumerate" p) [e] [] pos) (jiEnumS te) := by
  obtain ⟨t0, p0, j0⟩ := he
  refine ⟨_, pi_enumS hg hm (pa_cons p0 pa_nil hs2) hs, fun E I H ls σ δ Q R V q W k => ?_⟩
  refine j0 E I H ls σ δ _ R V q _ fun v H1 ⟨I1, ls1, x, R1, s1, r1, q1⟩ => ?_
  dsimp only at q1
  split at q1
  · rename_i s
    cases r1 with | d r1 =>
      cases r1
      have hl : (pairsFrom 0 (s.cps.toList.map fun c => PyData.str ⟨#[c]⟩)).length = s.cps.size := by rw [pairsFrom_len, List.length_map, Array.length_toList]
      refine ⟨s, rfl, k _ _ _ _ _ _ R1 s1 ⟨fun E i I' H ls R s p hi => ?_, fun E i I' H ls R s p hi => ?_, fun E i I' H ls v H' R s p hi y => ?_⟩ q1⟩
      · rw [hl] at hi; exact hi
      · rw [hl] at hi; exact hi
      · rw [hl] at hi
        obtain ⟨T, c, e1, hT, e2, hc⟩ := y
        subst e1 e2
        obtain ⟨R2, s2⟩ := R.new (o := .tup [.int ((i : Nat) : Int), .str ⟨#[c]⟩]) hT
        refine ⟨_, .d (.tuple [.int ((i : Nat) : Int), .str ⟨#[c]⟩]), R2, s2, ?_, .d (.tup upd_same (.cons (.int _) (.cons (.str _) .nil)))⟩
        rw [pairsFrom_get, List.getElem?_map, Array.getElem?_toList, hc, Nat.zero_add]; rfl
  · exact q1.elim
end
end J
namespace J
open PySem PySem.Spec PyProof.Rows L2
@[reducible] def jIsB : jR2 := fun x y ls Q => match x, y with
  | .d (.bool a), .d (.bool b) => Q (.d (.bool (decide (a = b)))) ls
  | _, _ => False
theorem ojIsB {X : Cx} : OpJ X (compareOp .Is) jIsB := .of fun E I H ls v w x y Q R rx ry q => by
  unfold jIsB at q
  split at q
  · cases rx with | d rx => cases rx; cases ry with | d ry => cases ry; exact ⟨_, op_isBl, _, _, fun W h => ⟨_, _, rfl, rfl, h⟩, .d (.bl _), q⟩
  · exact q.elim
end J
namespace J
open PySem PySem.Spec PyProof.Rows L2
/-- for over enumerate of what an f makes -/
theorem forE {δ : Env} {ls : Ls} {N : JEnds} {g : jTG} {tb : jTS} {α : Type} {f : α -> PyData} {as : List α} (Iv : Nat -> Env -> Ls -> Prop) (h0 : Iv 0 δ ls)
    (hs : ∀ (i : Nat) (a : α) δ ls, as[i]? = some a -> Iv i δ ls -> g (.d (.tuple [.int (i : Nat), f a])) δ ls fun δ2 ls2 => tb { N with nx := Iv (i + 1), ct := Iv (i + 1), bk := N.nx } δ2 ls2) (hd : ∀ δ ls, Iv as.length δ ls -> N.nx δ ls) : Turn1 (pairsFrom 0 (as.map f)) anyLs g tb N δ ls :=
  ⟨Iv, h0, fun i x δ ls hx h => by
    rw [pairsFrom_get, List.getElem?_map] at hx
    cases e : as[i]? with
    | none => rw [e] at hx; cases hx
    | some a => rw [e, Nat.zero_add] at hx; cases hx; exact ⟨trivial, hs i a δ ls e h⟩, fun δ ls h => ⟨trivial, hd δ ls (by rw [pairsFrom_len, List.length_map] at h; exact h)⟩⟩
end J
namespace J
open PySem PySem.Spec PyProof.Rows L2
theorem flats_obj : ∀ {ls : Ls} {n : Nat} {p C : Addr} {fs : List (Str × D)}, ls[n]? = some (p, .obj C fs) -> (p, .obj C fs) ∈ flats ls
  | [], _, _, _, _, h => by simp at h
  | (a, l) :: r, 0, p, C, fs, h => by
    simp only [List.getElem?_cons_zero, Option.some.injEq] at h
    cases h
    simp [flats, flat1]
  | (a, l) :: r, n + 1, p, C, fs, h => by
    simp only [flats, List.mem_append]
    exact .inr (flats_obj (ls := r) (n := n) (by simpa using h))
end J
namespace J
theorem perm_4 {α : Type} (a b c d : α) (l : List α) : (a :: b :: c :: d :: l).Perm (d :: a :: b :: c :: l) := List.perm_middle (l₁ := [a, b, c]) (l₂ := l) (a := d)
end J
namespace J
open PySem PySem.Spec PyProof.Rows L2
theorem pjMt0 {X : Cx} {k j : Nat} {m : Str} {ps : List Str} {js : JSp} {o : Expr} {ta : jTE} {pos apos : Pos} {C : Addr} {pl : Sem Bool} (c : Cls X.K C) (M : Cam X.prog X.w X.K X.mg X.base k C m ps js) (hr : Room j X.A) (ho : PEJ X o ta) (hk : k ≤ j := by first | decide | omega)
    (ht : eval (.Call (.Attribute o m apos) [] [] pos) X.env = (do
      let ov ← eval o X.env
      standAt apos.atName
      let (f, first) ← holding [ov] (getMethod ov m pl)
      callWith pos f first (backTo pos (starEach [] X.env)) (backToKw pos (keywordEach [] X.env))) := by rfl) : PEJ X (.Call (.Attribute o m apos) [] [] pos) (jMeth C m js ta jNil) := by
  obtain ⟨f, fd, F, mt, b⟩ := M
  exact pjMeth0 ho fun p0 => pe_meth0 p0 c mt F (hr.mono hk) b .nil pass0 ht
end J

/-! J13: if e == k: xs = [t.replace(..) for t in ..]; more. -/
namespace J
open PySem PySem.Spec PyProof.Rows L2
theorem ps_ifTC {a : Expr} {k : Int} {kj : Nat} {kp cp pos : Pos} {st : Stmt} {rest : List Stmt} {ta : TE} {t u : TS} {r : R2} (ho : OpR X (compareOp .Eq) r) (ha : PE X a ta) (hs : PST X st t) (hs2 : PSs X rest u) : PS X (.If (.Compare a [.Eq] [.Constant (.int k) kj kp] cp) (st :: rest) [] pos) (tIfS (tTest (tOp r ta (tC (.int k)))) (tSeq t u) tNext) := by
  refine ⟨fun pins s σ H D J h => ?_⟩
  refine wpAny_If (wpAny_isTrue_Compare1 (thn (ha.run pins s σ H _ J h) fun v s1 ⟨x, H1, J1, r1, q1⟩ => wpAny_Constant_int (wpAny_with_toks (Nat.le_add_left 1 s1.toks) ?_)) (nomark _))
  refine wpAny_mono (ho pins _ σ H1 x (.int k) v _ _ (J1.tok (s1.toks + 1)) r1 ⟨s1.toks, rfl⟩ q1) (fun c s3 ⟨z, H3, J3, r3, b, e, q3⟩ k3 => ?_) fun _ _ z _ => z
  subst e
  cases r3
  refine wpAny_truthy_bool ?_
  cases b with
  | true => exact L2.psst_cons hs (L2.PSsT.of hs2) pins s3 σ H3 D k3 J3 q3
  | false => exact pss_nil.run pins s3 σ H3 D J3 q3
section
variable {X : Cx}
theorem psIfRplC {vs : List Nat} {i : Nat} {y yy zz : Str} {py p1 p2 lp spos apos c0 c1 kp cp pos : Pos} {a e : Expr} {k : Int} {kj j0 j1 : Nat} {ta te : jTE} {scope : Scope} {own : List (Str × Nat)} {g : jTG} {ji : jTI} {tg iter o : Expr} {to : jTE} {room : Nat} {rest : List Stmt} {tr : jTS}
    (hr : Room room X.A) (hc : X.calm = true) (hN : X.N.Nodup) (ok : BlkOk X.N X.env.scope scope own) (ha : PEJ X a ta) (hi : PIJ X tg iter ji) (hg : PGCJ (blkX X scope) X.K (own.map (·.2)) tg g)
    (hrest : PBJ X rest tr) (ho : PEsJ (blkX X scope) X.K o to) (he : PEsJ (blkX X scope) X.K e te)
    (hy : X.N[i]? = some y := by rfl) (hyl : X.env.scope.names.lookup y = some .local := by rfl) (hkf : X.env.scope.kind = .function := by rfl) (hl : (py.line == lp.line) = true := by rfl)
    (hna : (scope.names.any fun (n, k) => n == y && (k == .local || k == .cell)) = false := by decide +kernel) (hs : ∀ x, foldedSetIterable iter X.env x = pure x := by intro _; rfl)
    (hst : ∀ s H C cl fp, starEach [.Constant (.str yy) j0 c0, .Subscript (.Constant (.str zz) j1 c1) e p1] (blkX X scope s H C cl fp).env = [(false, eval (.Constant (.str yy) j0 c0) (blkX X scope s H C cl fp).env), (false, eval (.Subscript (.Constant (.str zz) j1 c1) e p1) (blkX X scope s H C cl fp).env)] := by intro _ _ _ _ _; rfl) (hx : PlainIx e := by exact fun _ _ => rfl)
    (hbase : ∀ s H C cl fp, attributeBase o "replace" (blkX X scope s H C cl fp).env (eval o (blkX X scope s H C cl fp).env) = eval o (blkX X scope s H C cl fp).env := by intro _ _ _ _ _; rfl) (hline : (apos.endLine == p2.line) = true := by rfl) (hv : own.map (·.2) = vs := by rfl) :
    PSJ X (.If (.Compare a [.Eq] [.Constant (.int k) kj kp] cp) (.Assign [.Name y py] (.ListComp (.Call (.Attribute o "replace" apos) [.Constant (.str yy) j0 c0, .Subscript (.Constant (.str zz) j1 c1) e p1] [] p2) [⟨tg, iter, [], 0⟩] scope lp) spos :: rest) [] pos)
      (jIf (jTest (jOp jEq ta (jC (.d (.int k))))) (jSeq (jAsg (jLc ji g jYes (jRpl to te yy zz) vs) (jgName i)) tr) jNext) := by
  subst hv
  obtain ⟨t0, p0, g0⟩ := ha
  obtain ⟨wi, p1, g1⟩ := hi
  obtain ⟨t2, p2, g2, s2⟩ := hg
  obtain ⟨t3, p3, g3⟩ := ho
  obtain ⟨t4, p4, g4⟩ := he
  obtain ⟨t5, p5, g5⟩ := hrest
  have rp : JE X.K (tRpl t3 t4 yy zz) (jRpl to te yy zz) := fun E I H ls σ δ Q R V h W k => by
    refine g3 E I H ls σ δ _ R V h _ fun v H1 ⟨I1, ls1, x, R1, s1, r1, q1⟩ => ?_
    dsimp only at q1
    split at q1
    · cases r1 with | d r1 =>
        cases r1
        refine ⟨_, rfl, g4 E I1 H1 ls1 σ δ _ R1 (V.mono s1) q1 _ fun w H2 ⟨I2, ls2, u, R2, s2, r2, q2⟩ => ?_⟩
        dsimp only at q2
        split at q2
        · cases r2 with | d r2 => cases r2; obtain ⟨hz, c, hc, hn, hb, q2⟩ := q2; exact ⟨_, c, rfl, hz, hc, hn, hb, k _ _ ⟨I2, ls2, _, R2, s1.trans s2, .d (.str _), q2⟩⟩
        · exact q2.elim
    · exact q1.elim
  have lc := jlc_run g1 g2 s2 (jt := jYes) (tt := tYes) (fun E I H ls σ δ Q R V h W k => k _ _ ⟨I, ls, R, Same.refl I, h⟩) rp
  refine ⟨_, ps_ifTC opU p0 (pst_setLT hc hN hy hyl (sw_true hkf hyl hl hna) p1 ok p2 (fun s H C cl fp => pet_rpl (p3 s H C cl fp) (p4 s H C cl fp) (hst s H C cl fp) hx (hbase s H C cl fp) hline) hs) p5, fun E I H ls σ δ N M R V kM h => ?_⟩
  refine jt_cmp (ojEq (hu64 hr)) g0 (fun E I H ls σ δ Q R V h W k => k _ _ (.of R (.d (.int _)) h)) E I H ls σ δ _ R V h _ fun b H3 ⟨I3, ls3, R3, s3, q3⟩ => ?_
  have V3 := V.mono s3
  cases b with
  | true =>
    rw [if_pos rfl]
    refine lc E I3 H3 ls3 σ δ _ R3 V3 q3 (fun x H1 => gName i x σ H1 (t5 M)) fun v H4 ⟨I4, ls4, y, R4, s4, r4, q4⟩ => ?_
    unfold jgName at q4
    dsimp only at q4
    rw [st_eq] at q4
    exact g5 E I4 H4 ls4 _ _ N M R4 ((V3.mono s4).set r4 i) kM q4
  | false => exact kM.nx _ _ _ _ _ R3 V3 q3
end
end J
namespace J
open PySem PySem.Spec PyProof.Rows L2
/-- what holds behind a statement is named -/
@[reducible] def jMid (t : jTS) : jTS := fun N δ ls => ∃ Q : Env -> Ls -> Prop, t { N with nx := Q } δ ls ∧ ∀ δ ls, Q δ ls -> N.nx δ ls
theorem psMid {X : Cx} {s : Stmt} {t : jTS} (h : PSJ X s t) : PSJ X s (jMid t) := by
  obtain ⟨t0, p0, j0⟩ := h
  refine ⟨_, p0, fun E I H ls σ δ N M R V k q => ?_⟩
  obtain ⟨Q, q1, q2⟩ := q
  exact j0 E I H ls σ δ { N with nx := Q } M R V ⟨fun I' H' ls' σ' δ' R' V' z => k.nx _ _ _ _ _ R' V' (q2 _ _ z), k.rt, k.bk, k.ct⟩ q1
end J
namespace J
open PySem PySem.Spec PyProof.Rows L2
/-! ### i in range(..) -/
section
variable {X : Cx}
def rRng : List V -> Hp -> VK -> Prop := fun vs H Q => (∃ j, vs = [V.int j] ∧ ∀ p, H p = none -> Q (.ref p) (upd H p (.rng 0 j))) ∨ ∃ i j, vs = [V.int i, V.int j] ∧ ∀ p, H p = none -> Q (.ref p) (upd H p (.rng i j))
theorem cr_rng : CallR X (.type "range") rRng := by
  intro pins s σ H vs us Q I r h
  rcases h with ⟨j, rfl, q⟩ | h
  · obtain ⟨u, rfl, rj⟩ := vals1 r
    obtain ⟨t, rfl⟩ := rj
    refine call_range_1 ⟨.ref s.heap.objs.size, upd H s.heap.objs.size (.rng 0 j), I.laid (t' := s.toks + 1 + 1) (fun b o e => Heap.get?_push_of_some _ e) (Nat.le_refl _) ?_, rfl, q _ (I.hok.fresh (Nat.le_refl _))⟩
    exact ⟨_, _, _, Heap.get?_push_size _ rfl⟩
  · exact cr_range2 pins s σ H vs us Q I r h
@[reducible] def jInRng (ta : jTE) (t : jTA) : jTE := fun δ ls Q => ta δ ls fun x ls1 => t δ ls1 fun ys ls2 => match x, ys with
  | .d (.int i), [.d (.int b)] => Q (.d (.bool (decide (0 ≤ i ∧ i < b)))) ls2
  | .d (.int i), [.d (.int a), .d (.int b)] => Q (.d (.bool (decide (a ≤ i ∧ i < b)))) ls2
  | _, _ => False
theorem pjInRng {a e : Expr} {es : List Expr} {ta : jTE} {t : jTA} {p q pos : Pos} (hm : X.mg "range" = none) (ha : PEJ X a ta) (hb : PAJ X (e :: es) t) (hg : Gl X "range" := by rfl)
    (hst : starEach (e :: es) X.env = (false, eval e X.env) :: starEach es X.env := by rfl) (hpl : (backTo q (starEach es X.env)).any (·.1) = false := by rfl) (hmk : behindInMarks .In (.Call (.Name "range" p) (e :: es) [] q) = false := by rfl) :
    PEJ X (.Compare a [.In] [.Call (.Name "range" p) (e :: es) [] q] pos) (jInRng ta t) := by
  obtain ⟨t1, p1, j1⟩ := ha
  obtain ⟨t2, p2, j2⟩ := hb
  refine ⟨_, pe_cmpR op_in_rng p1 (pe_callTy cr_rng hg hm PyProof.Rows.boot_range p2 (by decide) (by decide) hst hpl) hmk, fun E I H ls σ δ Q R V h W k => ?_⟩
  refine j1 E I H ls σ δ _ R V h _ fun v H1 ⟨I1, ls1, x, R1, s1, r1, q1⟩ => ?_
  refine j2 E I1 H1 ls1 σ δ _ R1 (V.mono s1) q1 _ fun vs H2 ⟨I2, ls2, ys, R2, s2, r2, q2⟩ => ?_
  have r1' := r1.mono s2
  dsimp only at q2
  split at q2
  · cases r1' with | d r1' =>
      cases r1'
      cases r2 with | cons y t => cases t; cases y with | d y =>
        cases y
        refine .inl ⟨_, rfl, fun p hp => ⟨_, p, _, _, rfl, rfl, upd_same, ?_⟩⟩
        exact k _ _ ⟨I2, ls2, _, R2.side hp (fun _ z => nomatch z), s1.trans s2, .d (.bl _), q2⟩
  · cases r1' with | d r1' =>
      cases r1'
      cases r2 with | cons y t => cases t with | cons z t => cases t; cases y with | d y => cases z with | d z =>
        cases y; cases z
        refine .inr ⟨_, _, rfl, fun p hp => ⟨_, p, _, _, rfl, rfl, upd_same, ?_⟩⟩
        exact k _ _ ⟨I2, ls2, _, R2.side hp (fun _ z => nomatch z), s1.trans s2, .d (.bl _), q2⟩
  · exact q2.elim
theorem ptInRng {a e : Expr} {es : List Expr} {ta : jTE} {t : jTA} {p q pos : Pos} (hm : X.mg "range" = none) (ha : PEJ X a ta) (hb : PAJ X (e :: es) t) (hg : Gl X "range" := by rfl)
    (hst : starEach (e :: es) X.env = (false, eval e X.env) :: starEach es X.env := by rfl) (hpl : (backTo q (starEach es X.env)).any (·.1) = false := by rfl) (hmk : behindInMarks .In (.Call (.Name "range" p) (e :: es) [] q) = false := by rfl) :
    PTJ X (.Compare a [.In] [.Call (.Name "range" p) (e :: es) [] q] pos) (jTest (jInRng ta t)) := by
  obtain ⟨t1, p1, j1⟩ := ha
  obtain ⟨t2, p2, j2⟩ := hb
  refine ⟨_, pt_cmpR op_in_rng p1 (pe_callTy cr_rng hg hm PyProof.Rows.boot_range p2 (by decide) (by decide) hst hpl) hmk, fun E I H ls σ δ Q R V h W k => ?_⟩
  refine j1 E I H ls σ δ _ R V h _ fun v H1 ⟨I1, ls1, x, R1, s1, r1, q1⟩ => ?_
  refine j2 E I1 H1 ls1 σ δ _ R1 (V.mono s1) q1 _ fun vs H2 ⟨I2, ls2, ys, R2, s2, r2, q2⟩ => ?_
  have r1' := r1.mono s2
  dsimp only at q2
  split at q2
  · cases r1' with | d r1' =>
      cases r1'
      cases r2 with | cons y t => cases t; cases y with | d y =>
        cases y
        refine .inl ⟨_, rfl, fun p hp => ⟨_, p, _, _, rfl, rfl, upd_same, ?_⟩⟩
        exact ⟨_, rfl, k _ _ ⟨I2, ls2, R2.side hp (fun _ z => nomatch z), s1.trans s2, q2⟩⟩
  · cases r1' with | d r1' =>
      cases r1'
      cases r2 with | cons y t => cases t with | cons z t => cases t; cases y with | d y => cases z with | d z =>
        cases y; cases z
        refine .inr ⟨_, _, rfl, fun p hp => ⟨_, p, _, _, rfl, rfl, upd_same, ?_⟩⟩
        exact ⟨_, rfl, k _ _ ⟨I2, ls2, R2.side hp (fun _ z => nomatch z), s1.trans s2, q2⟩⟩
  · exact q2.elim
end
end J
namespace J
open PySem PySem.Spec PyProof.Rows L2
theorem law_mkP {l : PySem.W.OpenLaw} {w : World} {K : PySem.W.Frag} {h : Heap} {mg : Str -> Option Value} {fa f : Addr} {st : Stmt} {k : Nat} {N : List Str} {oc kV dc pm cd ct : Value} {od an : Option Addr} {sl : Array (Option Value)} (X : K.In h) (G : h.Ns mainGlobals mg) (hfa : mg "law" = some (.ref fa))
    (a : PySem.W.nsIn K mainGlobals "law" = some (some (.ref f))) (lk : K.lookup f = some ⟨oc, od, .func (PySem.W.fnOf "law" "law" (defArgs st) (defBody st) (defScope st) .none kV dc pm an cd ct), sl⟩) (c : PySem.W.codeIn K cd "law" = true) (kp : PySem.W.keepIn K (.ref f) = true)
    (S : FnScope N ["script"] (defScope st)) (b : ∀ (s : Shared) (u : Value), BindsTo s (PySem.W.fnOf "law" "law" (defArgs st) (defBody st) (defScope st) .none kV dc pm an cd ct) ⟨[u], []⟩ [("script", u)]) (B : ∀ base : Heap, K.In base -> base.Ns mainGlobals mg -> BodyP l.prog w K mg base k N "law" st js_law) :
    ∃ fd : FuncData, (∀ (s : Shared) (u : Value), BindsTo s fd ⟨[u], []⟩ [("script", u)]) ∧ ∀ base : Heap, K.In base -> base.Ns mainGlobals mg -> FnOk l.prog w K mg base CX0 (k + 1) fa fd ["script"] (spJ K js_law) := by
  have e := hfa.symm.trans (PySem.W.mg_of X G a)
  cases e
  refine ⟨_, b, fun base kb gb => (B base kb gb).ok (fun_mk (st := st) lk c kp) S ?_⟩
  intro ds ls Q h
  unfold js_law at h
  split at h
  · rfl
  · exact h.elim
end J
namespace J
open PySem PyProof.Rows L2
/-- a comprehension within a comprehension: its block's names -/
theorem blkOk_in {X : Cx} {scope scope2 : Scope} {s : Shared} {H : Hp} {C : Addr} {cl : List (Str × Addr)} {fp : List Addr} {N : List Str} {sc : Scope} {own : List (Str × Nat)} (e : X.env.scope = sc) (h : blkC N (relS scope sc) scope2 own = true) : BlkOk N (blkX X scope s H C cl fp).env.scope scope2 own := by
  subst e
  exact blkOk_by h
end J

/-! S1: sorted(set(xs)) of ints. -/
namespace J
open PySem PySem.Spec PyProof.Rows L2

section
variable {X : Cx}
def rSetI (K : PySem.W.Frag) (w : World) : List V -> Hp -> VK -> Prop := fun vs H Q => ∃ (l : Addr) (ns : List Int), vs = [V.ref l] ∧ SqL K H l (ns.map V.int) ∧ ns.length < 4000 ∧
  ∀ (a : Addr) (n : Nat), H a = none -> n ≤ ns.length -> Q (.ref a) (upd H a (SetO w a (fun j => decide (j ∈ ns)) n))
theorem cr_setI (hc : X.calm = true) : CallR X (.type "set") (rSetI X.K X.w) := by
  intro pins s σ H vs us Q I r h
  obtain ⟨l, ns, rfl, hs, hb, q⟩ := h
  obtain ⟨its, rv, pl, hz⟩ := I.list hs
  rw [Vals.ref1 r]
  have hi : IntsAre its.toArray.toList ns := ints_of_vals rv
  have hsz : its.toArray.size = ns.length := by
    have e := rv.length
    simp at e ⊢; omega
  refine call_set_any (Iv := fun i h => ∃ c, c ≤ i ∧ SetR X.w h s.heap.objs.size (fun j => decide (j ∈ ns.take i)) c) (I.ok.hd hc) pl.isList (fun h e _ => ⟨0, Nat.le_refl 0, setR_new_at e⟩) (fun i h h' ⟨c, hc, R⟩ e _ => ⟨c, hc, R.at e⟩) (fun A' _ i v s1 F W hv hk hIv fin => ?_) fun h' tk hIv hk => ?_
  · obtain ⟨c, hci, R⟩ := hIv
    have hil : i < ns.length := by
      have e := List.getElem?_eq_some_iff.mp hv
      obtain ⟨e, _⟩ := e
      rw [Array.length_toList, hsz] at e; exact e
    obtain ⟨t, e⟩ := PyProof.Rows.IntsAre.int_at hi i v hv
    rw [List.getD_eq_getElem?_getD, List.getElem?_eq_getElem hil] at e
    have e : v = Value.int ns[i] t := e
    subst e
    unfold setAdd
    refine wpAny_holding (wpAny_bind ((intKind X.prog X.w).pyHash (k := ns[i]) (intKind_is _ _ _ _) ?_))
    refine setR_add_hashed (s := { s1 with toks := s1.toks + 1 }) R (show c + 1 < 4096 by omega) fun h2 sb R2 => ?_
    refine fin _ h2 _ (Nat.le_succ _) sb ⟨_, ?_, R2.congr fun j => ?_⟩
    · split <;> omega
    · rw [List.take_add_one, List.getElem?_eq_getElem hil]
      simp only [List.mem_append, Option.toList, List.mem_singleton, Bool.decide_or]
  · rw [hsz] at hIv
    obtain ⟨c, hci, R⟩ := hIv
    rw [List.take_length] at R
    have hn : H s.heap.objs.size = none := I.hok.fresh (Nat.le_refl _)
    exact ⟨.ref s.heap.objs.size, _, I.laid (t' := tk) hk (Nat.le_refl _) (setO_new R), rfl, q _ c hn hci⟩
@[reducible] def jSetSortI (ta : jTE) : jTE := fun δ ls Q => ta δ ls fun x ls1 => match x with
  | .d (.list ds) => ∃ ns, intsD ds = some ns ∧ ns.length < 64 ∧ ∀ ms : List Int, ms.Pairwise (· < ·) -> (∀ k, k ∈ ms ↔ k ∈ ns) -> Q (.d (.list (ms.map .int))) ls1
  | _ => False
theorem dn_ints {I : Hp} : ∀ ms : List Int, DnAll I (ms.map V.int) (ms.map .int)
  | [] => .nil
  | m :: r => .cons (.int m) (dn_ints r)
theorem pjSetSortI {e : Expr} {ta : jTE} {p p2 q pos : Pos} (hc : X.calm = true) (hm : X.mg "sorted" = none) (hm2 : X.mg "set" = none) (he : PEJ X e ta)
    (hp : ∀ {t0 : TE}, PE X e t0 -> PE X (.Call (.Name "sorted" p) [.Call (.Name "set" p2) [e] [] q] [] pos) (tCB (rSortedSet X.w) (tCons (tCB (rSetI X.K X.w) (tCons t0 tNil)) tNil))) :
    PEJ X (.Call (.Name "sorted" p) [.Call (.Name "set" p2) [e] [] q] [] pos) (jSetSortI ta) := by
  obtain ⟨t0, p0, j0⟩ := he
  refine ⟨_, hp p0, fun E I H ls σ δ Q R V h W k => ?_⟩
  refine j0 E I H ls σ δ _ R V h _ fun v H1 ⟨I1, ls1, x, R1, s1, r1, q1⟩ => ?_
  dsimp only at q1
  split at q1
  · obtain ⟨ns, hns, h64, q1⟩ := q1
    cases r1 with | d r1 =>
      obtain ⟨b, ys, rfl, h1, t⟩ := r1.lstI
      rw [intsD_eq hns] at t
      refine ⟨b, ns, rfl, by rw [← ints_v t]; exact SqL.of (R1.sub _ _ h1), by omega, fun a n ha hn => ?_⟩
      refine ⟨a, _, n, rfl, upd_same, by omega, fun ms p hp hm hl hpn => ?_⟩
      have R2 : Rel E X.K I1 (upd H1 a (SetO X.w a (fun j => decide (j ∈ ns)) n)) ls1 := R1.side ha (fun _ z => nomatch z)
      exact newL R2 (xs := (ms.map PyData.int).map .d) (dn_ints ms).rds (.inl ⟨_, allD_map _, q1 ms hp fun k => by rw [hm]; simp⟩) (fun z H' h => k z H' (h.up s1)) p hpn
  · exact q1.elim
theorem pjSSI {e : Expr} {ta : jTE} {p p2 q pos : Pos} (hc : X.calm = true) (hm : X.mg "sorted" = none) (hm2 : X.mg "set" = none) (he : PEJ X e ta) (hg : Gl X "sorted" := by rfl) (hg2 : Gl X "set" := by rfl)
    (h1 : starEach [e] X.env = (false, eval e X.env) :: starEach [] X.env := by rfl) (h2 : (backTo q (starEach [] X.env)).any (·.1) = false := by rfl)
    (h3 : starEach [.Call (.Name "set" p2) [e] [] q] X.env = (false, eval (.Call (.Name "set" p2) [e] [] q) X.env) :: starEach [] X.env := by rfl) (h4 : (backTo pos (starEach [] X.env)).any (·.1) = false := by rfl) :
    PEJ X (.Call (.Name "sorted" p) [.Call (.Name "set" p2) [e] [] q] [] pos) (jSetSortI ta) :=
  pjSetSortI hc hm hm2 he fun p0 => pe_callB (cr_sortedSet hc) hg hm (by decide +kernel) (pa_cons (pe_callTy (cr_setI hc) hg2 hm2 PyProof.Rows.boot_set (pa_cons p0 pa_nil h1) (by decide) (by decide) h1 h2) pa_nil h3) (by decide) (by decide) h3 h4
end
end J

/-! M0: cells, their order, sorted lists. -/
namespace M
open PySem

abbrev Cell := Int × Int
@[reducible] def cD (c : Cell) : PyData := .tuple [.int c.1, .int c.2]
@[reducible] def csD (cs : List Cell) : PyData := .list (cs.map cD)
/-- the order of cells -/
def ltC (a b : Cell) : Prop := a.1 < b.1 ∨ (a.1 = b.1 ∧ a.2 < b.2)
def leC (a b : Cell) : Bool := decide (a.1 < b.1) || (decide (a.1 = b.1) && decide (a.2 ≤ b.2))
instance : DecidableRel ltC := fun a b => by unfold ltC; exact inferInstance
theorem leC_iff {a b : Cell} : leC a b = true ↔ a.1 < b.1 ∨ (a.1 = b.1 ∧ a.2 ≤ b.2) := by
  simp [leC]
theorem leC_total (a b : Cell) : (leC a b || leC b a) = true := by
  simp only [Bool.or_eq_true, leC_iff]; omega
theorem leC_trans (a b c : Cell) (h1 : leC a b = true) (h2 : leC b c = true) : leC a c = true := by
  simp only [leC_iff] at *; omega
theorem leC_anti {a b : Cell} (h1 : leC a b = true) (h2 : leC b a = true) : a = b := by
  simp only [leC_iff] at *
  have e1 : a.1 = b.1 := by omega
  have e2 : a.2 = b.2 := by omega
  exact Prod.ext e1 e2
theorem ltC_le {a b : Cell} (h : ltC a b) : leC a b = true := by
  unfold ltC at h; rw [leC_iff]; omega
theorem ltC_iff {a b : Cell} : ltC a b ↔ leC a b = true ∧ a ≠ b := by
  unfold ltC
  rw [leC_iff]
  constructor
  · intro h
    refine ⟨by omega, fun e => ?_⟩
    subst e; omega
  · rintro ⟨h, ne⟩
    by_cases e1 : a.1 = b.1
    · by_cases e2 : a.2 = b.2
      · exact absurd (Prod.ext e1 e2) ne
      · omega
    · omega
theorem ltC_irrefl (a : Cell) : ¬ ltC a a := by unfold ltC; omega
theorem ltC_trans {a b c : Cell} (h1 : ltC a b) (h2 : ltC b c) : ltC a c := by unfold ltC at *; omega
/-- in order -/
abbrev Le (l : List Cell) : Prop := l.Pairwise fun a b => leC a b = true
abbrev Lt (l : List Cell) : Prop := l.Pairwise ltC
theorem perm_le : ∀ {l m : List Cell}, Le l -> Le m -> l.Perm m -> l = m
  | [], m, _, _, p => (List.Perm.nil_eq p)
  | a :: l, m, hl, hm, p => by
    cases m with
    | nil => exact absurd p.symm (by simp)
    | cons b m =>
      have ha := (List.pairwise_cons.mp hl).1
      have hb := (List.pairwise_cons.mp hm).1
      have e : a = b := by
        have m1 : b ∈ a :: l := p.mem_iff.mpr List.mem_cons_self
        have m2 : a ∈ b :: m := p.mem_iff.mp List.mem_cons_self
        rcases List.mem_cons.mp m1 with z | z
        · exact z.symm
        · rcases List.mem_cons.mp m2 with y | y
          · exact y
          · exact leC_anti (ha b z) (hb a y)
      subst e
      rw [perm_le (List.pairwise_cons.mp hl).2 (List.pairwise_cons.mp hm).2 p.cons_inv]
/-- sorted -/
def srtC (l : List Cell) : List Cell := l.mergeSort leC
theorem srtC_perm (l : List Cell) : (srtC l).Perm l := List.mergeSort_perm l leC
theorem srtC_le (l : List Cell) : Le (srtC l) := List.pairwise_mergeSort leC_trans leC_total l
theorem srtC_mem {l : List Cell} {c : Cell} : c ∈ srtC l ↔ c ∈ l := (srtC_perm l).mem_iff
theorem srtC_len (l : List Cell) : (srtC l).length = l.length := (srtC_perm l).length_eq
theorem srtC_eq {l m : List Cell} (h : Le m) (p : m.Perm l) : m = srtC l := perm_le h (srtC_le l) (p.trans (srtC_perm l).symm)
theorem srtC_lt {l : List Cell} (h : l.Nodup) : Lt (srtC l) := by
  have n : (srtC l).Nodup := (srtC_perm l).nodup_iff.mpr h
  have p := srtC_le l
  exact (List.Pairwise.and p n).imp fun {a b} h => ltC_iff.mpr h
theorem lt_nodup {l : List Cell} (h : Lt l) : l.Nodup := List.Pairwise.imp (fun {a b} z e => by subst e; exact ltC_irrefl a z) h
theorem lt_le {l : List Cell} (h : Lt l) : Le l := List.Pairwise.imp ltC_le h
/-- two strictly sorted lists of the same cells are one -/
theorem lt_ext {l m : List Cell} (hl : Lt l) (hm : Lt m) (h : ∀ c, c ∈ l ↔ c ∈ m) : l = m := by
  have p : l.Perm m := (List.perm_ext_iff_of_nodup (lt_nodup hl) (lt_nodup hm)).mpr h
  exact perm_le (lt_le hl) (lt_le hm) p
/-- each once -/
def ddp {α : Type} [DecidableEq α] : List α -> List α
  | [] => []
  | x :: r => if x ∈ r then ddp r else x :: ddp r
theorem ddp_mem {α : Type} [DecidableEq α] {c : α} : ∀ {l : List α}, c ∈ ddp l ↔ c ∈ l
  | [] => Iff.rfl
  | x :: r => by
    unfold ddp
    split
    · rename_i h
      rw [ddp_mem (l := r), List.mem_cons]
      exact ⟨.inr, fun z => z.elim (fun e => e ▸ h) id⟩
    · rw [List.mem_cons, List.mem_cons, ddp_mem (l := r)]
theorem ddp_nodup {α : Type} [DecidableEq α] : ∀ l : List α, (ddp l).Nodup
  | [] => List.nodup_nil
  | x :: r => by
    unfold ddp
    split
    · exact ddp_nodup r
    · rename_i h
      exact List.nodup_cons.mpr ⟨fun z => h (ddp_mem.mp z), ddp_nodup r⟩
theorem ddp_len {α : Type} [DecidableEq α] : ∀ l : List α, (ddp l).length ≤ l.length
  | [] => Nat.le_refl _
  | x :: r => by
    have h := ddp_len r
    unfold ddp
    split <;> simp only [List.length_cons] <;> omega
/-- the pattern of a list of cells -/
def nrm (l : List Cell) : List Cell := srtC (ddp l)
theorem nrm_mem {l : List Cell} {c : Cell} : c ∈ nrm l ↔ c ∈ l := by unfold nrm; rw [srtC_mem, ddp_mem]
theorem nrm_lt (l : List Cell) : Lt (nrm l) := srtC_lt (ddp_nodup l)
theorem nrm_eq {l m : List Cell} (hm : Lt m) (h : ∀ c, c ∈ m ↔ c ∈ l) : m = nrm l := lt_ext hm (nrm_lt l) fun c => by rw [h, nrm_mem]
theorem nrm_of_lt {l : List Cell} (h : Lt l) : nrm l = l := (nrm_eq h fun _ => Iff.rfl).symm
theorem nrm_len (l : List Cell) : (nrm l).length ≤ l.length := by
  unfold nrm
  rw [srtC_len]
  exact ddp_len l

/-! ### cells as data -/
theorem cD_inj {a b : Cell} (h : cD a = cD b) : a = b := by
  unfold cD at h
  simp at h
  exact Prod.ext h.1 h.2
theorem cD_eqv (a b : Cell) : PyData.eqv (cD a) (cD b) = decide (a = b) := by
  unfold cD
  simp only [PyData.eqv, PyData.eqvAll, Bool.and_true]
  by_cases h : a = b
  · subst h; simp
  · rw [decide_eq_false h]
    by_cases h1 : a.1 = b.1
    · have h2 : a.2 ≠ b.2 := fun e => h (Prod.ext h1 e)
      simp [h1, h2]
    · simp [h1]
theorem csD_eqv : ∀ (a b : List Cell), PyData.eqv (csD a) (csD b) = decide (a = b)
  | [], [] => by simp [csD, PyData.eqv, PyData.eqvAll]
  | [], y :: b => by simp [csD, PyData.eqv, PyData.eqvAll]
  | x :: a, [] => by simp [csD, PyData.eqv, PyData.eqvAll]
  | x :: a, y :: b => by
    have ih := csD_eqv a b
    have e : PyData.eqv (csD (x :: a)) (csD (y :: b)) = (PyData.eqv (cD x) (cD y) && PyData.eqv (csD a) (csD b)) := by rw [csD, csD, PyData.eqv, List.map_cons, List.map_cons, PyData.eqvAll, csD, csD, PyData.eqv]
    rw [e, cD_eqv, ih]
    by_cases h : x = y
    · subst h; by_cases h2 : a = b <;> simp [h2]
    · simp [h]
theorem cD_shape (c : Cell) : SeqAt.shaped (cD c) = true := by
  simp [cD, SeqAt.shaped, PyData.canLay0, PyData.canLayAll0, PyData.depth, PyData.depthAll]
theorem csD_lay : ∀ cs : List Cell, PyData.canLayAll0 (cs.map cD) = true
  | [] => rfl
  | c :: r => by simp [PyData.canLayAll0, PyData.canLay0, cD, csD_lay r]
theorem csD_dep : ∀ cs : List Cell, PyData.depthAll (cs.map cD) ≤ 1
  | [] => by simp [PyData.depthAll]
  | c :: r => by
    have h := csD_dep r
    rw [List.map_cons, PyData.depthAll]
    have h2 : PyData.depth (cD c) ≤ 1 := by simp [cD, PyData.depth, PyData.depthAll]
    omega
theorem csD_shape (cs : List Cell) : SeqAt.shaped (csD cs) = true := by
  have h := csD_dep cs
  have e1 : PyData.canLay0 (csD cs) = true := by rw [csD, PyData.canLay0]; exact csD_lay cs
  have e2 : PyData.depth (csD cs) ≤ 64 := by rw [csD, PyData.depth]; omega
  unfold SeqAt.shaped
  rw [e1, decide_eq_true e2]; rfl
/-- reading cells off data -/
def cellD : PyData -> Option Cell
  | .tuple [.int a, .int b] => some (a, b)
  | _ => none
def cellsD : List PyData -> Option (List Cell)
  | [] => some []
  | x :: r => match cellD x, cellsD r with
    | some c, some cs => some (c :: cs)
    | _, _ => none
theorem cellsD_map : ∀ cs : List Cell, cellsD (cs.map cD) = some cs
  | [] => rfl
  | c :: r => by simp [cellsD, cellD, cD, cellsD_map r]
theorem cellD_eq {x : PyData} {c : Cell} (h : cellD x = some c) : x = cD c := by
  unfold cellD at h
  split at h
  · cases h; rfl
  · cases h
theorem cellsD_eq : ∀ {xs : List PyData} {cs : List Cell}, cellsD xs = some cs -> xs = cs.map cD
  | [], _, h => by simp [cellsD] at h; subst h; rfl
  | x :: r, cs, h => by
    unfold cellsD at h
    split at h
    · rename_i c cs' h1 h2
      cases h
      rw [cellD_eq h1, cellsD_eq h2]; rfl
    · cases h
end M

/-! S2: sorted of cells, sorted(set(..)) of cells. -/
namespace J
open PySem PySem.Spec PyProof.Rows L2 M

/-- the cell that stands at an address -/
def cellAt (H : Hp) (v : V) : Cell := match v with
  | .ref t => match H t with
    | some (.tup [.int i, .int j]) => (i, j)
    | _ => (0, 0)
  | _ => (0, 0)
theorem dn_cell {I H : Hp} (e : Same I H) {v : V} {c : Cell} (h : Dn I v (cD c)) : ∃ t, v = .ref t ∧ I t = some (.tup [.int c.1, .int c.2]) ∧ cellAt H v = c := by
  obtain ⟨a, xs, rfl, h1, t⟩ := h.tupI
  cases t with | cons a1 t => cases t with | cons a2 t => cases t; cases a1; cases a2; exact ⟨a, rfl, h1, by unfold cellAt; dsimp only; rw [e _ _ h1]⟩
theorem dn_cells {I H : Hp} (e : Same I H) : ∀ {vs : List V} {cs : List Cell}, DnAll I vs (cs.map cD) -> vs.map (cellAt H) = cs ∧ ∀ v ∈ vs, ∃ c, Dn I v (cD c)
  | _, [], .nil => ⟨rfl, fun _ h => by simp at h⟩
  | _, c :: r, .cons h t => by
    obtain ⟨h1, h2⟩ := dn_cells e t
    obtain ⟨a, rfl, _, h3⟩ := dn_cell e h
    refine ⟨by simp only [List.map_cons, h3, h1], fun v hv => ?_⟩
    rcases List.mem_cons.mp hv with rfl | hv
    · exact ⟨c, h⟩
    · exact h2 v hv
theorem cells_dn {I H : Hp} (e : Same I H) : ∀ {vs : List V}, (∀ v ∈ vs, ∃ c, Dn I v (cD c)) -> DnAll I vs ((vs.map (cellAt H)).map cD)
  | [], _ => .nil
  | v :: r, h => by
    obtain ⟨c, hc⟩ := h v List.mem_cons_self
    obtain ⟨t, _, _, h3⟩ := dn_cell e hc
    refine .cons (by rw [h3]; exact hc) (cells_dn e fun u hu => h u (List.mem_cons_of_mem _ hu))
/-- what is sorted -/
@[reducible] def jSortC : jRA := fun xs ls Q => match xs with
  | [.d (.list ds)] => ∃ cs, cellsD ds = some cs ∧ Q (.d (csD (srtC cs))) ls
  | [.a p] => ∃ (n : Nat) (xs : List D) (cs : List Cell), ls[n]? = some (p, .lst xs) ∧ xs = (cs.map cD).map .d ∧ Q (.d (csD (srtC cs))) ls
  | _ => False
section
variable {X : Cx}
theorem sort_run {E : Ent} {I H : Hp} {ls : Ls} {a : Addr} {vs : List V} {cs : List Cell} {Q : D -> Ls -> Prop} {W : VK} (R : Rel E X.K I H ls) (hs : H a = some (.lst vs)) (t : DnAll I vs (cs.map cD)) (q : Q (.d (csD (srtC cs))) ls) (k : ∀ z H', PoE E X.K I Q z H' -> W z H') : rSortedPO X.K [.ref a] H W := by
  obtain ⟨h1, h2⟩ := dn_cells R.sub t
  refine ⟨a, vs, cellAt H, rfl, SqL.of hs, fun x hx => ?_, fun ys p hs2 hst hp => ?_⟩
  · obtain ⟨c, hc⟩ := h2 x hx
    obtain ⟨u, rfl, hu, e⟩ := dn_cell R.sub hc
    exact ⟨u, rfl, by rw [e]; exact R.sub _ _ hu⟩
  · have hm : ∀ v ∈ ys, ∃ c, Dn I v (cD c) := fun v hv => h2 v (hst.perm.mem_iff.mp hv)
    have e : ys.map (cellAt H) = srtC cs := by
      refine srtC_eq ?_ (by rw [← h1]; exact hst.perm.map _)
      refine List.pairwise_map.mpr (hs2.imp fun {x y} h => ?_)
      have z := SrtO.lexB_no.mp h
      rw [leC_iff]; omega
    refine newL R (xs := ((srtC cs).map cD).map .d) ?_ (.inl ⟨_, allD_map _, q⟩) k p hp
    rw [← e]
    exact (cells_dn R.sub hm).rds
theorem cjSort : CallJ X (.builtin "sorted") jSortC := fun E I H ls vs xs Q R rx q W k => by
  unfold jSortC at q
  split at q
  · obtain ⟨cs, hc, q⟩ := q
    cases rx with | cons a t => cases t; cases a with | d a =>
      obtain ⟨b, ys, rfl, h, t⟩ := a.lstI
      rw [cellsD_eq hc] at t
      exact ⟨_, cr_sortedPO, sort_run R (R.sub _ _ h) t q k⟩
  · obtain ⟨n, xs, cs, hn, e, q⟩ := q
    obtain ⟨⟨us, h1, h2⟩, _⟩ := R.find hn rfl
    rw [e] at h2
    cases rx with | cons a t => cases t; cases a; exact ⟨_, cr_sortedPO, sort_run R h1 h2.dn q k⟩
  · exact q.elim
theorem cjSort_cells {k : Nat} (hr : Room k X.A) : CallJ X (.builtin "sorted") jSortC := cjSort
end
end J

/-! S3: sorted of alike data, any length. -/
namespace J
open PySem PySem.Spec PyProof.Rows L2

/-- sorted data -/
def srtD (ds : List PyData) : List PyData := ds.mergeSort (PySem.W.dataLe false id)
structure SrtOk (ds : List PyData) : Prop where
  al : PySem.W.AllAlike ds
  so : PySem.W.Sortable ds
  dp : ∀ d ∈ ds, d.depth ≤ 32
def rSortD (K : PySem.W.Frag) : List V -> Hp -> VK -> Prop := fun vs H Q => ∃ (a : Addr) (xs : List V) (ds : List PyData), vs = [V.ref a] ∧ SqL K H a xs ∧ DpAll K H xs ds ∧ SrtOk ds ∧
  ∀ ys p, Paired (fun (y : V) (d : PyData) => ∃ i : Nat, xs[i]? = some y ∧ ds[i]? = some d) ys (srtD ds) -> H p = none -> Q (.ref p) (upd H p (.lst ys))
theorem each_of {α β : Type} {R : α -> β -> Prop} : ∀ {as : List α} {bs : List β}, as.length = bs.length -> (∀ (i : Nat) a b, as[i]? = some a -> bs[i]? = some b -> R a b) -> PySem.W.EachIs R as bs
  | [], [], _, _ => .nil
  | [], _ :: _, h, _ => by simp at h
  | _ :: _, [], h, _ => by simp at h
  | a :: as, b :: bs, h, k => .cons (k 0 a b rfl rfl) (each_of (by simpa using h) fun i x y hx hy => k (i + 1) x y (by simpa using hx) (by simpa using hy))
theorem each_back {xs : List V} {ds : List PyData} : ∀ {out : List Value} {es : List PyData}, PySem.W.EachIs (fun (u : Value) (d : PyData) => ∃ (i : Nat) (x : V), xs[i]? = some x ∧ ds[i]? = some d ∧ RelV x u) out es ->
    ∃ ys, Vals ys out ∧ Paired (fun (y : V) (d : PyData) => ∃ i : Nat, xs[i]? = some y ∧ ds[i]? = some d) ys es
  | _, _, .nil => ⟨[], .nil, .nil⟩
  | _, _, .cons ⟨i, x, h1, h2, h3⟩ t => by
    obtain ⟨ys, a, b⟩ := each_back t
    exact ⟨x :: ys, .cons h3 a, .cons ⟨i, h1, h2⟩ b⟩
theorem dpAll_len {K : PySem.W.Frag} {H : Hp} : ∀ {xs : List V} {ds : List PyData}, DpAll K H xs ds -> xs.length = ds.length
  | _, _, .nil => rfl
  | _, _, .cons _ t => congrArg (· + 1) (dpAll_len t)
section
variable {X : Cx}
theorem readsAll_each {h : Heap} : ∀ {vs : List Value} {ds : List PyData} {as : List Addr}, ReadsAll h vs ds as -> PySem.W.EachIs (fun v d => ∃ as, Reads h v d as) vs ds
  | _, _, _, .nil => .nil
  | _, _, _, .cons r t => .cons ⟨_, r⟩ (readsAll_each t)
theorem cr_sortD (hu : X.A.units + 66 < cLine) : CallR X (.builtin "sorted") (rSortD X.K) := by
  intro pins s σ H vs us Q I r h
  obtain ⟨a, xs, ds, rfl, hs, hd, ok, q⟩ := h
  obtain ⟨its, rv, pl, hz⟩ := I.list hs
  rw [Vals.ref1 r]
  obtain ⟨as, ra⟩ := Dp.readsAll I ds xs its hd rv
  have lx : xs.length = ds.length := dpAll_len hd
  have lv : xs.length = its.length := rv.length
  refine PySem.W.sorted_vals (κ := PySem.W.dataKind (PySem.W.sortingHeap (PySem.W.copyHeap s.heap its) (s.heap.objs.size + 1) its) ds) pl.isList (PySem.W.SortsAt.data ((readsAll_each ra).mono fun v d ⟨as, r⟩ => ⟨as, Reads.keeps (fun b o e => PySem.W.sorting_copy_old e) r⟩) ok.al ok.so fun d hd => ?_) (by rw [← lv]; exact hz) ?_
  · have := ok.dp d hd
    show X.A.units + 1 + 1 + d.depth < cLine
    omega
  · have e1 : PySem.W.KeyedOut false (ds.map id) its (PySem.W.sortVals (PySem.W.dataKind (PySem.W.sortingHeap (PySem.W.copyHeap s.heap its) (s.heap.objs.size + 1) its) ds) false its its) := by
      rw [List.map_id]
      exact ⟨_, its, ok.al, rfl, (readsAll_each ra).mono fun v d ⟨as, r⟩ => ⟨as, Reads.keeps (fun b o e => PySem.W.sorting_copy_old e) r⟩⟩
    have e2 := PySem.W.keyedOut_each (R := fun (u : Value) (d : PyData) => ∃ (i : Nat) (x : V), xs[i]? = some x ∧ ds[i]? = some d ∧ RelV x u) id e1 (each_of (by omega) fun i u d hu hd => by
      have hi : i < xs.length := by
        have := (List.getElem?_eq_some_iff.mp hd).1
        omega
      obtain ⟨u', h1, h2⟩ := rv.get (List.getElem?_eq_getElem hi)
      rw [hu] at h1; cases h1
      exact ⟨i, xs[i], List.getElem?_eq_getElem hi, hd, h2⟩)
    obtain ⟨ys, y1, y2⟩ := each_back e2
    have ly : ys.length = ds.length := by
      rw [Paired.length y2, List.length_mergeSort]
    obtain ⟨n, hn⟩ := sortedAll_at s.heap its (PySem.W.sortVals (PySem.W.dataKind (PySem.W.sortingHeap (PySem.W.copyHeap s.heap its) (s.heap.objs.size + 1) its) ds) false its its).toArray
    exact ⟨.ref (s.heap.objs.size + 1), upd H (s.heap.objs.size + 1) (.lst ys), I.laid (t' := s.toks) (fun b o e => sortedAll_old e) (Nat.le_succ _) ⟨by rw [ly, ← lx]; exact hz, _, n, y1, hn⟩, rfl, q ys _ y2 (I.hok.fresh (Nat.le_succ _))⟩
/-- sorted of data -/
@[reducible] def jSortD : jRA := fun xs ls Q => match xs with
  | [.d (.list ds)] => SrtOk ds ∧ Q (.d (.list (srtD ds))) ls
  | [.a p] => ∃ (n : Nat) (xs : List D) (ds : List PyData), ls[n]? = some (p, .lst xs) ∧ xs = ds.map .d ∧ SrtOk ds ∧ Q (.d (.list (srtD ds))) ls
  | _ => False
theorem sortD_run {E : Ent} {I H : Hp} {ls : Ls} {a : Addr} {vs : List V} {ds : List PyData} {Q : D -> Ls -> Prop} {W : VK} (R : Rel E X.K I H ls) (hs : H a = some (.lst vs)) (t : DnAll I vs ds) (ok : SrtOk ds) (q : Q (.d (.list (srtD ds))) ls) (k : ∀ z H', PoE E X.K I Q z H' -> W z H') : rSortD X.K [.ref a] H W := by
  refine ⟨a, vs, ds, rfl, SqL.of hs, t.dp R.sub, ok, fun ys p hy hp => ?_⟩
  have pick : ∀ {ys : List V} {es : List PyData}, Paired (fun (y : V) (d : PyData) => ∃ i : Nat, vs[i]? = some y ∧ ds[i]? = some d) ys es -> DnAll I ys es := by
    intro ys es h
    induction h with
    | nil => exact .nil
    | cons h _ ih =>
      obtain ⟨i, h1, h2⟩ := h
      obtain ⟨v, g1, g2⟩ := (t.rds (K := X.K)).get (i := i) (x := .d _) (by rw [List.getElem?_map, h2]; rfl)
      rw [h1] at g1; cases g1
      cases g2 with | d g2 => exact .cons g2 ih
  exact newL R (xs := (srtD ds).map .d) (pick hy).rds (.inl ⟨_, allD_map _, q⟩) k p hp
theorem cjSortD (hu : X.A.units + 66 < cLine) : CallJ X (.builtin "sorted") jSortD := fun E I H ls vs xs Q R rx q W k => by
  unfold jSortD at q
  split at q
  · cases rx with | cons a t => cases t; cases a with | d a =>
      obtain ⟨b, ys, rfl, h, t⟩ := a.lstI
      exact ⟨_, cr_sortD hu, sortD_run R (R.sub _ _ h) t q.1 q.2 k⟩
  · obtain ⟨n, xs, ds, hn, e, ok, q⟩ := q
    obtain ⟨⟨us, h1, h2⟩, _⟩ := R.find hn rfl
    rw [e] at h2
    cases rx with | cons a t => cases t; cases a; exact ⟨_, cr_sortD hu, sortD_run R h1 h2.dn ok q k⟩
  · exact q.elim
theorem cjSort_data {k : Nat} (hr : Room k X.A) : CallJ X (.builtin "sorted") jSortD := cjSortD (by have := hr.un; omega)
end
end J

/-! M1: rules, boxes of signs, cases, the plain next generation. -/
namespace M
open PySem PyProof.Rows L2 J

/-- a rule's word on a cell -/
def lv (bs ss : List Int) (a : Bool) (c : Int) : Bool := if a = true then decide (c ∈ ss) else decide (c ∈ bs)
/-- a sorted list of the same numbers -/
def SameS (bs cs : List Int) : Prop := cs.Pairwise (· < ·) ∧ ∀ k, k ∈ cs ↔ k ∈ bs
theorem lv_same {bs ss bs' ss' : List Int} (h1 : ∀ k, k ∈ bs' ↔ k ∈ bs) (h2 : ∀ k, k ∈ ss' ↔ k ∈ ss) (a : Bool) (c : Int) : lv bs' ss' a c = lv bs ss a c := by
  unfold lv; cases a <;> simp [h1, h2]
/-- c in a tuple of ints -/
theorem any_int (c : Int) : ∀ l : List Int, ((l.map PyData.int).any fun z => PyData.eqv z (.int c)) = decide (c ∈ l)
  | [] => rfl
  | x :: r => by
    rw [List.map_cons, List.any_cons, any_int c r]
    by_cases h : x = c
    · subst h; simp [PyData.eqv]
    · have h' : c ≠ x := fun e => h e.symm
      simp [PyData.eqv, h, h']
theorem all_flat (l : List Int) : (l.map PyData.int).all J.isFlat = true := by
  rw [List.all_map]; exact List.all_eq_true.mpr fun _ _ => rfl
theorem one_eq {a b : Nat} : ((⟨#[a]⟩ : Str) = ⟨#[b]⟩) ↔ a = b := by
  constructor
  · intro h
    have h1 := congrArg Str.cps h
    have h2 := congrArg Array.toList h1
    simpa using h2
  · rintro rfl; rfl
theorem q63 : Str.ofString "?" = ⟨#[63]⟩ := by decide +kernel
theorem o79 : Str.ofString "O" = ⟨#[79]⟩ := by decide +kernel
theorem d46 : Str.ofString "." = ⟨#[46]⟩ := by decide +kernel
/-- a table of cells -/
abbrev Cas := Int → Int → Option Bool
def CaseR (f : Cas) (kvs : List (List Key × J.D)) : Prop := ∀ r c : Int, gV kvs [.inl r, .inl c] = (f r c).map fun b => J.D.d (.bool b)
section
variable {κ α : Type} [DecidableEq κ]
theorem gV_cons (a : κ × α) (r : List (κ × α)) (k' : κ) : gV (a :: r) k' = if a.1 = k' then some a.2 else gV r k' := by
  unfold gV
  rw [List.find?_cons]
  by_cases h : a.1 = k' <;> simp [h]
theorem gV_map {k : κ} {v : α} {kvs : List (κ × α)} {k' : κ} : gV (kvs.map fun kv => if kv.1 = k then (kv.1, v) else kv) k' = if k' = k then (gV kvs k).map fun _ => v else gV kvs k' := by
  induction kvs with
  | nil => simp [gV]
  | cons a r ih =>
    rw [List.map_cons, gV_cons, gV_cons, gV_cons, ih]
    by_cases h : a.1 = k
    · rw [if_pos h, if_pos h]
      by_cases h2 : k' = k
      · rw [if_pos h2, if_pos (h.trans h2.symm)]; simp [h2]
      · have h3 : ¬ a.1 = k' := fun e => h2 (e.symm.trans h)
        rw [if_neg h2, if_neg h3, if_neg h2, if_neg h3]
    · rw [if_neg h, if_neg h]
      by_cases h2 : a.1 = k'
      · rw [if_pos h2, if_pos h2, if_neg (fun z => h (h2.trans z))]
      · rw [if_neg h2, if_neg h2]
theorem gV_snoc {k : κ} {v : α} {kvs : List (κ × α)} {k' : κ} (h : gV kvs k = none) : gV (kvs ++ [(k, v)]) k' = if k' = k then some v else gV kvs k' := by
  unfold gV at *
  rw [List.find?_append]
  by_cases h2 : k' = k
  · subst h2
    simp only [Option.map_eq_none_iff] at h
    simp [h]
  · have h3 : ¬ k = k' := fun e => h2 e.symm
    simp [h2, h3]
theorem gV_gP (kvs : List (κ × α)) (k k' : κ) (v : α) : gV (gP kvs k v) k' = if k' = k then some v else gV kvs k' := by
  unfold gP
  cases e : gV kvs k with
  | none =>
    simp only [Option.isSome_none, Bool.false_eq_true, if_false]
    exact gV_snoc e
  | some x =>
    simp only [Option.isSome_some, if_true]
    rw [gV_map, e]; rfl
theorem gP_len (kvs : List (κ × α)) (k : κ) (v : α) : (gP kvs k v).length ≤ kvs.length + 1 := by
  unfold gP; split <;> simp
theorem gV_filter (kvs : List (κ × α)) (k k' : κ) : gV (kvs.filter fun kv => decide (kv.1 ≠ k)) k' = if k' = k then none else gV kvs k' := by
  induction kvs with
  | nil => simp [gV]
  | cons a r ih =>
    obtain ⟨a1, a2⟩ := a
    by_cases h : a1 = k
    · subst h
      rw [List.filter_cons_of_neg (by simp), ih]
      by_cases h2 : k' = a1
      · simp [h2]
      · have h3 : ¬ a1 = k' := fun e => h2 e.symm
        simp [h2, gV, List.find?_cons, h3]
    · rw [List.filter_cons_of_pos (by simpa using h)]
      unfold gV at ih ⊢
      simp only [List.find?_cons]
      by_cases h2 : a1 = k'
      · subst h2
        simp [h]
      · simp only [decide_eq_false h2]
        exact ih
end
def putC (f : Cas) (r c : Int) (b : Bool) : Cas := fun r' c' => if r' = r ∧ c' = c then some b else f r' c'
def delC (f : Cas) (r c : Int) : Cas := fun r' c' => if r' = r ∧ c' = c then none else f r' c'
def noC : Cas := fun _ _ => none
theorem key_eq {r c r' c' : Int} : (([.inl r', .inl c'] : List Key) = [.inl r, .inl c]) ↔ (r' = r ∧ c' = c) := by simp
theorem caseR_nil : CaseR noC [] := fun r c => rfl
theorem caseR_put {f : Cas} {kvs : List (List Key × J.D)} (h : CaseR f kvs) (r c : Int) (b : Bool) : CaseR (putC f r c b) (gP kvs [.inl r, .inl c] (.d (.bool b))) := fun r' c' => by
  rw [gV_gP, h r' c']
  unfold putC
  by_cases e : r' = r ∧ c' = c
  · rw [if_pos e, if_pos (key_eq.mpr e)]; rfl
  · rw [if_neg e, if_neg fun z => e (key_eq.mp z)]
theorem caseR_del {f : Cas} {kvs : List (List Key × J.D)} (h : CaseR f kvs) (r c : Int) : CaseR (delC f r c) (kvs.filter fun kv => decide (kv.1 ≠ [.inl r, .inl c])) := fun r' c' => by
  rw [gV_filter, h r' c']
  unfold delC
  by_cases e : r' = r ∧ c' = c
  · rw [if_pos e, if_pos (key_eq.mpr e)]; rfl
  · rw [if_neg e, if_neg fun z => e (key_eq.mp z)]

/-- a box of signs -/
structure Box where
  h : Nat
  w : Nat
  g : Nat → Nat → Nat
namespace Box
variable (B : Box)
def row (r : Nat) : Str := ⟨((List.range B.w).map (B.g r)).toArray⟩
def rws : List Str := (List.range B.h).map B.row
def dat : PyData := .list (B.rws.map .str)
def inn (r c : Int) : Prop := 0 ≤ r ∧ r < B.h ∧ 0 ≤ c ∧ c < B.w
instance (r c : Int) : Decidable (B.inn r c) := by unfold inn; exact inferInstance
def sg (r c : Int) : Nat := B.g r.toNat c.toNat
theorem rws_len : B.rws.length = B.h := by simp [rws]
theorem row_len (r : Nat) : (B.row r).length = B.w := by simp [row, Str.length]
theorem row_cps (r : Nat) : (B.row r).cps.toList = (List.range B.w).map (B.g r) := by simp [row]
theorem atS {r : Int} (h0 : 0 ≤ r) (h1 : r < B.h) : atI (B.rws.map PyData.str) r = some (.str (B.row r.toNat)) := by
  obtain ⟨n, rfl⟩ : ∃ n : Nat, r = n := ⟨r.toNat, by omega⟩
  have hn : n < B.h := by omega
  exact atI_nat (by simp [rws, hn])
theorem atC {r : Nat} {c : Int} (h0 : 0 ≤ c) (h1 : c < B.w) : atI (B.row r).cps.toList c = some (B.g r c.toNat) := by
  rw [row_cps]
  obtain ⟨n, rfl⟩ : ∃ n : Nat, c = n := ⟨c.toNat, by omega⟩
  have hn : n < B.w := by omega
  exact atI_nat (by simp [hn])
end Box
/-- what is said of a cell -/
def said (B : Box) (f : Cas) (r c : Int) : Option Bool := if B.inn r c then (match f r c with
  | some b => some b
  | none => if B.sg r c = 63 then none else some (decide (B.sg r c = 79))) else some false
@[reducible] def tri : Option Bool → PyData
  | none => .none
  | some b => .bool b
def ar8 : List (Int × Int) := [(0, 0), (0, 1), (0, 2), (1, 0), (1, 2), (2, 0), (2, 1), (2, 2)]
/-- how many of the eight are said so -/
def nS (B : Box) (f : Cas) (r c : Int) (x : Option Bool) : Nat := (ar8.filter fun d => decide (said B f (r + d.1 - 1) (c + d.2 - 1) = x)).length
theorem nS_le (B : Box) (f : Cas) (r c : Int) (x : Option Bool) : nS B f r c x ≤ 8 := by
  unfold nS
  exact Nat.le_trans (List.length_filter_le _ _) (by decide)
/-- a value of the middle that may stay -/
def okv (B : Box) (f : Cas) (bs ss : List Int) (r c : Int) (v : Bool) : Prop := (said B f r c = none ∨ said B f r c = some v) ∧ ∃ k : Nat, k ≤ nS B f r c none ∧ lv bs ss v ((nS B f r c (some true) : Int) + (k : Int)) = v
def pf (B : Box) (f : Cas) (bs ss : List Int) (r c : Int) : Prop := ¬ ∃ v, okv B f bs ss r c v
/-- the places of a box and those around it -/
def Box.prow (B : Box) (i : Nat) : List Cell := (List.range (B.w + 2)).map fun j : Nat => (-1 + (i : Int), -1 + (j : Int))
def Box.places (B : Box) : List Cell := (List.range (B.h + 2)).flatMap B.prow
theorem Box.mem_places (B : Box) (c : Cell) : c ∈ B.places ↔ -1 ≤ c.1 ∧ c.1 ≤ B.h ∧ -1 ≤ c.2 ∧ c.2 ≤ B.w := by
  unfold Box.places Box.prow
  simp only [List.mem_flatMap, List.mem_range, List.mem_map]
  constructor
  · rintro ⟨i, hi, j, hj, rfl⟩
    dsimp only
    omega
  · rintro ⟨h1, h2, h3, h4⟩
    exact ⟨(c.1 + 1).toNat, by omega, (c.2 + 1).toNat, by omega, Prod.ext (by dsimp only; omega) (by dsimp only; omega)⟩
theorem flat_len {α β : Type} (f : α → List β) (n : Nat) (h : ∀ a, (f a).length ≤ n) : ∀ l : List α, (l.flatMap f).length ≤ l.length * n
  | [] => by simp
  | a :: r => by
    have h1 := flat_len f n h r
    have h2 := h a
    rw [List.flatMap_cons, List.length_append, List.length_cons, Nat.succ_mul]
    omega
def Box.ok (B : Box) : Prop := ∀ r c, r < B.h → c < B.w → B.g r c = 63 ∨ B.g r c = 46 ∨ B.g r c = 79
def num : Option Bool → Int
  | none => -1
  | some true => 1
  | some false => 0
end M

/-! M2: texts of signs. -/
namespace M
open PySem PyProof.Rows L2 J
theorem cut_nat {α : Type} (xs : List α) (a b : Nat) (h : a ≤ b) (hb : b ≤ xs.length) : cutG xs (some (a : Int)) (some (b : Int)) = (xs.drop a).take (b - a) := by
  unfold cutG
  rw [HT.sIx_nat, HT.sIx_nat]
  have e1 : min a xs.length = a := Nat.min_eq_left (by omega)
  have e2 : min b xs.length = b := Nat.min_eq_left hb
  first | rw [e1, e2] | rw [e1]
abbrev chr (n : Nat) : Str := ⟨#[n]⟩
theorem joinL_nil : ∀ ys : List (List Nat), TL.joinL [] ys = ys.flatten
  | [] => rfl
  | [p] => by simp [TL.joinL]
  | p :: q :: r => by
    rw [TL.joinL, joinL_nil (q :: r)]; simp
theorem join_S0 (ys : List (List Nat)) : Txt.join (Str.ofString "") (ys.map SX.S) = SX.S ys.flatten := by
  have e : Str.ofString "" = SX.S [] := by decide +kernel
  rw [e, SX.join_S, joinL_nil]
theorem join_chr (l : List Nat) : Txt.join (Str.ofString "") (l.map chr) = ⟨l.toArray⟩ := by
  have h := join_S0 (l.map fun n => [n])
  rw [List.map_map] at h
  have e : (l.map fun n => [n]).flatten = l := by
    rw [← List.flatMap_def]; exact List.flatMap_singleton' l
  rw [e] at h
  exact h
theorem replL_chr (a b : Nat) : ∀ l : List Nat, StrLaws.replL [a] [b] l = l.map fun x => if x = a then b else x
  | [] => StrLaws.replL_nil
  | c :: r => by
    by_cases h : c = a
    · rw [StrLaws.replL_hit (by simp) (by simp [h]), List.map_cons, if_pos h]
      simp [replL_chr a b r]
    · rw [StrLaws.replL_miss (by simp [h]), List.map_cons, if_neg h, replL_chr a b r]
theorem replace_chr (l : List Nat) (a b : Nat) : Txt.replace ⟨l.toArray⟩ (chr a) (chr b) = ⟨(l.map fun x => if x = a then b else x).toArray⟩ := by
  have h := StrLaws.replace_list (x := ⟨l.toArray⟩) (y := chr a) (z := chr b) (Nat.le_refl 1)
  have e : (⟨l.toArray⟩ : Str).cps.toList = l := rfl
  rw [e] at h
  have h2 : (Txt.replace ⟨l.toArray⟩ (chr a) (chr b)).cps.toList = l.map fun x => if x = a then b else x := by rw [h]; exact replL_chr a b l
  rw [← SX.S_tl (Txt.replace ⟨l.toArray⟩ (chr a) (chr b)), h2]
theorem slice_get (ns : List Int) (a w : Nat) (h : a + w ≤ ns.length) : (ns.drop a).take w = (List.range w).map fun c => ns.getD (a + c) 0 := by
  apply List.ext_getElem
  · rw [List.length_take, List.length_drop, List.length_map, List.length_range]; omega
  · intro i h1 h2
    have hi : i < w := by simpa using h2
    simp [List.getD_eq_getElem?_getD, show a + i < ns.length by omega]
def sgn (y : Int) : Nat := if y % 8 = 6 then 46 else if y % 8 = 7 then 79 else 63
theorem sgn_ok (y : Int) : sgn y = 63 ∨ sgn y = 46 ∨ sgn y = 79 := by unfold sgn; split <;> (try split) <;> simp
theorem sgn_at (y : Int) : atI (Str.ofString "??????.O").cps.toList (y % 8) = some (sgn y) := by
  have h : ∀ k : Fin 8, atI (Str.ofString "??????.O").cps.toList (k.val : Int) = some (if (k.val : Int) = 6 then 46 else if (k.val : Int) = 7 then 79 else 63) := by decide +kernel
  have h0 := Int.emod_nonneg y (show (8 : Int) ≠ 0 by decide)
  have h1 := Int.emod_lt_of_pos y (show (0 : Int) < 8 by decide)
  have h2 := h ⟨(y % 8).toNat, by omega⟩
  have e : (((y % 8).toNat : Nat) : Int) = y % 8 := by omega
  rw [e] at h2
  exact h2
/-- the box that drawn numbers tell -/
def boxN (h w : Nat) (ns : List Int) : Box := ⟨h, w, fun r c => sgn (ns.getD (r * w + c) 0)⟩
theorem boxN_ok (h w : Nat) (ns : List Int) : (boxN h w ns).ok := fun r c _ _ => sgn_ok _
theorem boxN_row {h w : Nat} {ns : List Int} (hl : ns.length = h * w) {r : Nat} (hr : r < h) : (boxN h w ns).row r = ⟨(((ns.drop (r * w)).take w).map sgn).toArray⟩ := by
  have h1 : r * w + w ≤ h * w := by
    have : (r + 1) * w ≤ h * w := Nat.mul_le_mul_right _ hr
    rw [Nat.succ_mul] at this; exact this
  rw [slice_get ns _ w (by omega), List.map_map]; rfl
/-- .. with all that is unsaid said -/
def Box.fill (B : Box) (x : Nat) : Box := ⟨B.h, B.w, fun r c => if B.g r c = 63 then x else B.g r c⟩
theorem Box.fill_row (B : Box) (x : Nat) (r : Nat) : (B.fill x).row r = Txt.replace (B.row r) (Str.ofString "?") (chr x) := by
  rw [q63]
  have h := replace_chr ((List.range B.w).map (B.g r)) 63 x
  unfold Box.row Box.fill
  dsimp only
  rw [h, List.map_map]; rfl
theorem Box.fill_ok {B : Box} (h : B.ok) {x : Nat} (hx : x = 63 ∨ x = 46 ∨ x = 79) : (B.fill x).ok := fun r c h1 h2 => by
  have e : (B.fill x).g r c = if B.g r c = 63 then x else B.g r c := rfl
  rw [e]
  split
  · exact hx
  · exact h r c h1 h2
theorem chr_sum {α : Type} (f : α → Nat) : ∀ l : List α, ((l.map fun y => chr (f y)).map fun x => x.length).sum = l.length
  | [] => rfl
  | a :: r => by
    simp only [List.map_cons, List.sum_cons, chr_sum f r, List.length_cons]
    show 1 + r.length = r.length + 1
    omega
theorem e_len : (Str.ofString "").length = 0 := by decide +kernel
theorem chr_fit {α : Type} (f : α → Nat) (l : List α) (h : l.length ≤ 16777216) : ((l.map fun y => chr (f y)).map fun x => x.length).sum + (l.map fun y => chr (f y)).length * (Str.ofString "").length ≤ 16777216 := by
  rw [chr_sum, e_len]; omega
end M

/-! M3: dicts of cells, the plain next generation. -/
namespace M
open PySem PyProof.Rows L2 J
@[reducible] def ck (c : Cell) : List Key := [.inl c.1, .inl c.2]
theorem ck_inj {a b : Cell} (h : ck a = ck b) : a = b := by
  have := key_eq.mp h
  exact Prod.ext this.1 this.2
theorem ck_eq {a b : Cell} : ck a = ck b ↔ a = b := ⟨ck_inj, fun e => by rw [e]⟩
/-- a table of cells, written in order -/
def dF (L : List Cell) (f : Cell → J.D) : List (List Key × J.D) := L.map fun c => (ck c, f c)
theorem dF_len (L : List Cell) (f : Cell → J.D) : (dF L f).length = L.length := by simp [dF]
theorem dF_get {f : Cell → J.D} {c : Cell} : ∀ {L : List Cell}, gV (dF L f) (ck c) = if c ∈ L then some (f c) else none
  | [] => rfl
  | a :: r => by
    have ih := dF_get (f := f) (c := c) (L := r)
    show gV ((ck a, f a) :: dF r f) (ck c) = _
    rw [gV_cons, ih]
    by_cases h : a = c
    · subst h; simp
    · have h2 : ¬ c = a := fun e => h e.symm
      rw [if_neg (fun e => h (ck_inj e))]
      simp [h2]
/-- one put in -/
def pL (L : List Cell) (c : Cell) : List Cell := if c ∈ L then L else L ++ [c]
def pU (f : Cell → J.D) (c : Cell) (v : J.D) : Cell → J.D := fun x => if x = c then v else f x
theorem dF_put {f : Cell → J.D} {L : List Cell} {c : Cell} {v : J.D} : gP (dF L f) (ck c) v = dF (pL L c) (pU f c v) := by
  unfold gP pL
  rw [dF_get]
  by_cases h : c ∈ L
  · rw [if_pos h, if_pos h, if_pos (by rfl)]
    unfold dF
    rw [List.map_map]
    refine List.map_congr_left fun a _ => ?_
    unfold pU
    show (if ck a = ck c then (ck a, v) else (ck a, f a)) = _
    by_cases e : a = c
    · rw [if_pos (ck_eq.mpr e), if_pos e]
    · rw [if_neg (fun z => e (ck_inj z)), if_neg e]
  · rw [if_neg h, if_neg h, if_neg (by decide)]
    unfold dF
    rw [List.map_append]
    congr 1
    · refine List.map_congr_left fun a ha => ?_
      unfold pU
      rw [if_neg (fun e : a = c => h (by rw [← e]; exact ha))]
    · simp [pU]
theorem pL_mem {L : List Cell} {c x : Cell} : x ∈ pL L c ↔ x ∈ L ∨ x = c := by
  unfold pL
  by_cases h : c ∈ L
  · rw [if_pos h]
    exact ⟨.inl, fun z => z.elim id fun e => by rw [e]; exact h⟩
  · rw [if_neg h]; simp
theorem pL_nodup {L : List Cell} {c : Cell} (h : L.Nodup) : (pL L c).Nodup := by
  unfold pL
  split
  · exact h
  · rename_i hc
    rw [List.nodup_append]
    exact ⟨h, by simp, fun a ha b hb e => by simp at hb; subst hb; subst e; exact hc ha⟩
theorem pL_len (L : List Cell) (c : Cell) : (pL L c).length ≤ L.length + 1 := by unfold pL; split <;> simp
theorem dF_keys (L : List Cell) (f : Cell → J.D) : ((dF L f).map fun kv => J.D.d (keyT kv.1)) = (L.map cD).map .d := by
  unfold dF; rw [List.map_map, List.map_map]; rfl
/-! ### neighbours -/
def ad (a x : Cell) : Bool := decide (a ≠ x ∧ a.1 - 1 ≤ x.1 ∧ x.1 ≤ a.1 + 1 ∧ a.2 - 1 ≤ x.2 ∧ x.2 ≤ a.2 + 1)
/-- how many of L lie about x -/
def cnt (L : List Cell) (x : Cell) : Nat := (L.filter fun a => ad a x).length
theorem cnt_snoc (L : List Cell) (a x : Cell) : cnt (L ++ [a]) x = cnt L x + (if ad a x = true then 1 else 0) := by
  unfold cnt
  rw [List.filter_append, List.length_append]
  cases h : ad a x <;> simp [h]
theorem cnt_perm {L M : List Cell} (h : L.Perm M) (x : Cell) : cnt L x = cnt M x := (h.filter _).length_eq
theorem cnt_ext {L M : List Cell} (hl : L.Nodup) (hm : M.Nodup) (h : ∀ c, c ∈ L ↔ c ∈ M) (x : Cell) : cnt L x = cnt M x := cnt_perm ((List.perm_ext_iff_of_nodup hl hm).mpr h) x
/-- whether x is alive in the next generation (A each once) -/
def lvN (A : List Cell) (bs ss : List Int) (x : Cell) : Bool := lv bs ss (decide (x ∈ A)) (cnt A x) && (decide (x ∈ A) || decide (1 ≤ cnt A x))
def near (a : Cell) : List Cell := [(a.1 - 1, a.2 - 1), (a.1 - 1, a.2), (a.1 - 1, a.2 + 1), (a.1, a.2 - 1), (a.1, a.2), (a.1, a.2 + 1), (a.1 + 1, a.2 - 1), (a.1 + 1, a.2), (a.1 + 1, a.2 + 1)]
theorem near_of {a x : Cell} (h : a = x ∨ ad a x = true) : x ∈ near a := by
  obtain ⟨a1, a2⟩ := a
  obtain ⟨x1, x2⟩ := x
  have h : (a1 - 1 ≤ x1 ∧ x1 ≤ a1 + 1 ∧ a2 - 1 ≤ x2 ∧ x2 ≤ a2 + 1) := by
    rcases h with h | h
    · cases h; omega
    · unfold ad at h; simp only [decide_eq_true_eq] at h; exact h.2
  have e1 : x1 = a1 - 1 ∨ x1 = a1 ∨ x1 = a1 + 1 := by omega
  have e2 : x2 = a2 - 1 ∨ x2 = a2 ∨ x2 = a2 + 1 := by omega
  unfold near
  rcases e1 with rfl | rfl | rfl <;> rcases e2 with rfl | rfl | rfl <;> simp
/-- the plain next generation -/
def nxt (A : List Cell) (bs ss : List Int) : List Cell := nrm ((A.flatMap near).filter (lvN (ddp A) bs ss))
theorem nxt_lt (A : List Cell) (bs ss : List Int) : Lt (nxt A bs ss) := nrm_lt _
theorem nxt_mem {A : List Cell} {bs ss : List Int} {x : Cell} : x ∈ nxt A bs ss ↔ lvN (ddp A) bs ss x = true := by
  unfold nxt
  rw [nrm_mem, List.mem_filter]
  refine ⟨fun h => h.2, fun h => ⟨?_, h⟩⟩
  unfold lvN at h
  simp only [Bool.and_eq_true, Bool.or_eq_true, decide_eq_true_eq] at h
  rw [List.mem_flatMap]
  rcases h.2 with h2 | h2
  · exact ⟨x, ddp_mem.mp h2, near_of (.inl rfl)⟩
  · unfold cnt at h2
    obtain ⟨a, ha⟩ := List.exists_mem_of_length_pos (show 0 < ((ddp A).filter fun a => ad a x).length by omega)
    rw [List.mem_filter] at ha
    exact ⟨a, ddp_mem.mp ha.1, near_of (.inr ha.2)⟩
theorem lvN_ext {L M : List Cell} (hl : L.Nodup) (hm : M.Nodup) (h : ∀ c, c ∈ L ↔ c ∈ M) (bs ss : List Int) (x : Cell) : lvN L bs ss x = lvN M bs ss x := by
  unfold lvN
  rw [cnt_ext hl hm h, show decide (x ∈ L) = decide (x ∈ M) from decide_eq_decide.mpr (h x)]
/-- .. found as a sorted list of what some places gave -/
theorem nxt_of {A L K : List Cell} {bs ss : List Int} (hl : L.Nodup) (hL : ∀ c, c ∈ L ↔ c ∈ A) (hk : K.Nodup) (hK : ∀ x, x ∈ L ∨ 1 ≤ cnt L x → x ∈ K) : srtC (K.filter (lvN L bs ss)) = nxt A bs ss := by
  refine lt_ext (srtC_lt (hk.filter _)) (nxt_lt _ _ _) fun x => ?_
  rw [srtC_mem, List.mem_filter, nxt_mem, lvN_ext hl (ddp_nodup A) (fun c => by rw [hL, ddp_mem])]
  refine ⟨fun h => h.2, fun h => ⟨?_, h⟩⟩
  have h2 := h
  rw [← lvN_ext hl (ddp_nodup A) (fun c => by rw [hL, ddp_mem])] at h2
  unfold lvN at h2
  simp only [Bool.and_eq_true, Bool.or_eq_true, decide_eq_true_eq] at h2
  exact hK x h2.2
/-! ### counting, place by place -/
def fI (P : List Cell) (a : Cell) (i j : Nat) (x : Cell) : Int := (cnt P x : Int) + (if ad a x = true ∧ (x.1 < a.1 - 1 + (i : Int) ∨ (x.1 = a.1 - 1 + (i : Int) ∧ x.2 < a.2 - 1 + (j : Int))) then 1 else 0)
@[reducible] def fD (f : Cell → Int) : Cell → J.D := fun x => .d (.int (f x))
theorem ad_iff {a x : Cell} : ad a x = true ↔ (a ≠ x ∧ a.1 - 1 ≤ x.1 ∧ x.1 ≤ a.1 + 1 ∧ a.2 - 1 ≤ x.2 ∧ x.2 ≤ a.2 + 1) := by unfold ad; rw [decide_eq_true_eq]
theorem fI_zero (P : List Cell) (a : Cell) : fI P a 0 0 = fun x => (cnt P x : Int) := by
  funext x
  unfold fI
  rw [if_neg, Int.add_zero]
  rintro ⟨h1, h2⟩
  rw [ad_iff] at h1
  omega
theorem fI_row (P : List Cell) (a : Cell) (i : Nat) : fI P a i 3 = fI P a (i + 1) 0 := by
  funext x
  unfold fI
  congr 1
  have e : (ad a x = true ∧ (x.1 < a.1 - 1 + (i : Int) ∨ (x.1 = a.1 - 1 + (i : Int) ∧ x.2 < a.2 - 1 + ((3 : Nat) : Int)))) ↔ (ad a x = true ∧ (x.1 < a.1 - 1 + ((i + 1 : Nat) : Int) ∨ (x.1 = a.1 - 1 + ((i + 1 : Nat) : Int) ∧ x.2 < a.2 - 1 + ((0 : Nat) : Int)))) := by
    rw [ad_iff]
    constructor <;> rintro ⟨⟨h1, h2⟩, h3⟩ <;> exact ⟨⟨h1, h2⟩, by omega⟩
  simp only [e]
theorem fI_all (P : List Cell) (a : Cell) : fI P a 3 0 = fun x => (cnt (P ++ [a]) x : Int) := by
  funext x
  unfold fI
  rw [cnt_snoc]
  by_cases h : ad a x = true
  · rw [if_pos h, if_pos ⟨h, by rw [ad_iff] at h; omega⟩]; push_cast; rfl
  · rw [if_neg h, if_neg (fun z => h z.1)]; simp
theorem fI_at {P : List Cell} {a : Cell} {i j : Nat} {x : Cell} (e1 : x.1 = a.1 - 1 + (i : Int)) (e2 : x.2 = a.2 - 1 + (j : Int)) : fI P a i j x = cnt P x := by
  unfold fI
  rw [if_neg (by omega), Int.add_zero]
theorem fI_same {P : List Cell} {a : Cell} {i j : Nat} (e1 : a.1 = a.1 - 1 + (i : Int)) (e2 : a.2 = a.2 - 1 + (j : Int)) : fI P a i (j + 1) = fI P a i j := by
  funext x
  unfold fI
  congr 1
  have e : (ad a x = true ∧ (x.1 < a.1 - 1 + (i : Int) ∨ (x.1 = a.1 - 1 + (i : Int) ∧ x.2 < a.2 - 1 + ((j + 1 : Nat) : Int)))) ↔ (ad a x = true ∧ (x.1 < a.1 - 1 + (i : Int) ∨ (x.1 = a.1 - 1 + (i : Int) ∧ x.2 < a.2 - 1 + (j : Int)))) := by
    constructor
    · rintro ⟨h, h2⟩
      refine ⟨h, ?_⟩
      rw [ad_iff] at h
      have : ¬ (x.1 = a.1 ∧ x.2 = a.2) := fun z => h.1 (Prod.ext z.1.symm z.2.symm)
      omega
    · rintro ⟨h, h2⟩
      exact ⟨h, by omega⟩
  simp only [e]
theorem fI_next {P : List Cell} {a x : Cell} {i j : Nat} (hi : i < 3) (hj : j < 3) (e1 : x.1 = a.1 - 1 + (i : Int)) (e2 : x.2 = a.2 - 1 + (j : Int)) (ne : x ≠ a) : pU (fD (fI P a i j)) x (.d (.int ((cnt P x : Int) + 1))) = fD (fI P a i (j + 1)) := by
  funext y
  unfold pU fD
  by_cases h : y = x
  · subst h
    rw [if_pos rfl]
    unfold fI
    rw [if_pos ⟨ad_iff.mpr ⟨fun z => ne z.symm, by omega⟩, by omega⟩]
  · rw [if_neg h]
    unfold fI
    have h2 : ¬ (y.1 = x.1 ∧ y.2 = x.2) := fun z => h (Prod.ext z.1 z.2)
    have e : (ad a y = true ∧ (y.1 < a.1 - 1 + (i : Int) ∨ (y.1 = a.1 - 1 + (i : Int) ∧ y.2 < a.2 - 1 + ((j + 1 : Nat) : Int)))) ↔ (ad a y = true ∧ (y.1 < a.1 - 1 + (i : Int) ∨ (y.1 = a.1 - 1 + (i : Int) ∧ y.2 < a.2 - 1 + (j : Int)))) := by
      constructor <;> rintro ⟨h3, h4⟩ <;> exact ⟨h3, by omega⟩
    simp only [e]
/-- what the table of counts keeps -/
structure CtOk (P M : List Cell) (f : Cell → Int) (n : Nat) : Prop where
  nd : M.Nodup
  len : M.length ≤ n
  has : ∀ x ∈ P, x ∈ M
  pos : ∀ x, 1 ≤ f x → x ∈ M
theorem CtOk.put {P M : List Cell} {f g : Cell → Int} {n : Nat} (h : CtOk P M f n) (x : Cell) (hg : ∀ y, y ≠ x → g y = f y) : CtOk P (pL M x) g (n + 1) :=
  ⟨pL_nodup h.nd, Nat.le_trans (pL_len _ _) (Nat.add_le_add_right h.len 1), fun y hy => pL_mem.mpr (.inl (h.has y hy)), fun y hy => by
    by_cases e : y = x
    · exact pL_mem.mpr (.inr e)
    · rw [hg y e] at hy; exact pL_mem.mpr (.inl (h.pos y hy))⟩
theorem CtOk.get {P M : List Cell} {f : Cell → Int} {n : Nat} (h : CtOk P M f n) (h0 : ∀ x, 0 ≤ f x) (x : Cell) : (gV (dF M (fD f)) (ck x)).getD (.d (.int 0)) = .d (.int (f x)) := by
  rw [dF_get]
  by_cases e : x ∈ M
  · rw [if_pos e]; rfl
  · rw [if_neg e]
    have := h0 x
    have h1 : ¬ 1 ≤ f x := fun z => e (h.pos x z)
    have h2 : f x = 0 := by omega
    rw [h2]; rfl
theorem CtOk.up {P M : List Cell} {f : Cell → Int} {n m : Nat} (h : CtOk P M f n) (le : n ≤ m) : CtOk P M f m := ⟨h.nd, Nat.le_trans h.len le, h.has, h.pos⟩
theorem fI_nn (P : List Cell) (a : Cell) (i j : Nat) (x : Cell) : 0 ≤ fI P a i j x := by unfold fI; split <;> omega
theorem pU_self (f : Cell → Int) (c : Cell) : pU (fD f) c (.d (.int (f c))) = fD f := by
  funext x; unfold pU; by_cases h : x = c
  · rw [if_pos h, h]
  · rw [if_neg h]
theorem pU_const (v : J.D) (c : Cell) : pU (fun _ => v) c v = fun _ => v := by funext x; unfold pU; split <;> rfl
theorem three {r v : Int} {i : Nat} (h : [r - 1, r, r + 1][i]? = some v) : i < 3 ∧ v = r - 1 + (i : Int) := by
  match i, h with
  | 0, h => simp at h; subst h; exact ⟨by decide, by omega⟩
  | 1, h => simp at h; subst h; exact ⟨by decide, by omega⟩
  | 2, h => simp at h; subst h; exact ⟨by decide, by omega⟩
  | n + 3, h => simp at h
/-! ### shapes -/
theorem ints_lay : ∀ l : List Int, PyData.canLayAll0 (l.map .int) = true
  | [] => rfl
  | c :: r => by simp [PyData.canLayAll0, PyData.canLay0, ints_lay r]
theorem ints_dep : ∀ l : List Int, PyData.depthAll (l.map .int) = 0
  | [] => by simp [PyData.depthAll]
  | c :: r => by simp [PyData.depthAll, PyData.depth, ints_dep r]
theorem ints_shape (l : List Int) : SeqAt.shaped (.list (l.map .int)) = true := by
  simp [SeqAt.shaped, PyData.canLay0, ints_lay, PyData.depth, ints_dep]
theorem int_shape (i : Int) : SeqAt.shaped (.int i) = true := by simp [SeqAt.shaped, PyData.canLay0, PyData.depth]
/-! ### the living cells of a box -/
def Box.arow (B : Box) (r : Nat) : List Cell := (List.range B.w).filterMap fun c : Nat => if B.g r c = 79 then some (((r : Int), (c : Int)) : Cell) else none
def Box.alive (B : Box) : List Cell := (List.range B.h).flatMap B.arow
theorem Box.mem_alive (B : Box) (x : Cell) : x ∈ B.alive ↔ B.inn x.1 x.2 ∧ B.sg x.1 x.2 = 79 := by
  unfold Box.alive Box.arow Box.inn Box.sg
  simp only [List.mem_flatMap, List.mem_range, List.mem_filterMap]
  constructor
  · rintro ⟨r, hr, c, hc, h⟩
    split at h
    · rename_i h2
      cases h
      dsimp only
      exact ⟨by omega, by simpa using h2⟩
    · cases h
  · rintro ⟨⟨h1, h2, h3, h4⟩, h5⟩
    exact ⟨x.1.toNat, by omega, x.2.toNat, by omega, by rw [if_pos h5]; exact congrArg some (Prod.ext (by dsimp only; omega) (by dsimp only; omega))⟩
theorem Box.arow_len (B : Box) (r : Nat) : (B.arow r).length ≤ B.w := by
  unfold Box.arow
  exact Nat.le_trans (List.length_filterMap_le _ _) (by simp)
end M

/-! M4: all ways to say what is unsaid. -/
namespace M
open PySem PyProof.Rows L2 J
/-- one bit taken into account -/
def stp (rc : Cell) (q0 : Int × Int) (pb : Cell × Bool) : Int × Int := if pb.2 = true then (if pb.1 = rc then (1, q0.2) else (q0.1, q0.2 + 1)) else q0
def bit (n : Nat) (k : Nat) : Bool := decide (n / 2 ^ k % 2 = 1)
/-- numbers for bits -/
theorem bits_num : ∀ bs : List Bool, ∃ n : Nat, n < 2 ^ bs.length ∧ ∀ k b, bs[k]? = some b → bit n k = b
  | [] => ⟨0, by simp, fun k b h => by simp at h⟩
  | b :: r => by
    obtain ⟨n, hn, h⟩ := bits_num r
    refine ⟨2 * n + (if b = true then 1 else 0), ?_, fun k b' hk => ?_⟩
    · rw [List.length_cons, Nat.pow_succ]
      split <;> omega
    · cases k with
      | zero =>
        simp at hk; subst hk
        unfold bit
        rw [Nat.pow_zero, Nat.div_one]
        cases b <;> simp <;> omega
      | succ k =>
        simp at hk
        have h1 := h k b' hk
        unfold bit at h1 ⊢
        rw [Nat.pow_succ', ← Nat.div_div_eq_div_mul]
        have e : (2 * n + (if b = true then 1 else 0)) / 2 = n := by split <;> omega
        rw [e]; exact h1
/-- .. of the first k places -/
def runK (rc : Cell) (fr : List Cell) (q0 : Int × Int) (n : Nat) : Nat → Int × Int
  | 0 => q0
  | k + 1 => stp rc (runK rc fr q0 n k) (fr.getD k rc, bit n k)
def foldB (rc : Cell) : List Cell → List Bool → Int × Int → Int × Int
  | p :: fr, b :: bs, q0 => foldB rc fr bs (stp rc q0 (p, b))
  | _, _, q0 => q0
theorem runK_fold (rc : Cell) (n : Nat) : ∀ (fr : List Cell) (bs : List Bool) (q0 : Int × Int), bs.length = fr.length → (∀ k b, bs[k]? = some b → bit n k = b) → runK rc fr q0 n fr.length = foldB rc fr bs q0 := by
  intro fr bs q0 hl hb
  have key : ∀ k, k ≤ fr.length → foldB rc (fr.drop k) (bs.drop k) (runK rc fr q0 n k) = foldB rc fr bs q0 := by
    intro k
    induction k with
    | zero => intro _; rfl
    | succ k ih =>
      intro hk
      rw [← ih (by omega)]
      have h1 : k < fr.length := by omega
      have h2 : k < bs.length := by omega
      rw [List.drop_eq_getElem_cons h1, List.drop_eq_getElem_cons h2, foldB]
      have e := hb k bs[k] (List.getElem?_eq_getElem h2)
      rw [runK, e, List.getD_eq_getElem?_getD, List.getElem?_eq_getElem h1]
      rfl
  have z := key fr.length (Nat.le_refl _)
  rw [List.drop_length, List.drop_eq_nil_of_le (by omega), foldB] at z
  · exact z
  · simp
/-- the free places but the middle -/
def nfr (rc : Cell) (fr : List Cell) : Nat := (fr.filter fun p => decide (p ≠ rc)).length
theorem fold_some (rc : Cell) (v : Bool) : ∀ (fr : List Cell) (q0 : Int × Int) (j : Nat), fr.Nodup → j ≤ nfr rc fr → ∃ bs : List Bool, bs.length = fr.length ∧ foldB rc fr bs q0 = (if rc ∈ fr ∧ v = true then 1 else q0.1, q0.2 + (j : Int))
  | [], q0, j, _, hj => ⟨[], rfl, by
    have h0 : j = 0 := by simpa [nfr] using hj
    subst h0
    simp [foldB]⟩
  | p :: fr, q0, j, nd, hj => by
    obtain ⟨n1, n2⟩ := List.nodup_cons.mp nd
    by_cases hp : p = rc
    · subst hp
      have hj2 : j ≤ nfr p fr := by simpa [nfr] using hj
      cases v with
      | true =>
        obtain ⟨bs, h1, h2⟩ := fold_some p true fr (1, q0.2) j n2 hj2
        exact ⟨true :: bs, by simp [h1], by rw [foldB, stp]; simp [h2]⟩
      | false =>
        obtain ⟨bs, h1, h2⟩ := fold_some p false fr q0 j n2 hj2
        exact ⟨false :: bs, by simp [h1], by rw [foldB, stp]; simp [h2]⟩
    · have hj2 : j ≤ nfr rc fr + 1 := by simpa [nfr, hp] using hj
      have hm : (rc ∈ p :: fr) ↔ rc ∈ fr := by simp [List.mem_cons, Ne.symm hp]
      cases j with
      | zero =>
        obtain ⟨bs, h1, h2⟩ := fold_some rc v fr q0 0 n2 (Nat.zero_le _)
        exact ⟨false :: bs, by simp [h1], by rw [foldB, stp]; simp only [hm]; simpa using h2⟩
      | succ j =>
        obtain ⟨bs, h1, h2⟩ := fold_some rc v fr (q0.1, q0.2 + 1) j n2 (by omega)
        refine ⟨true :: bs, by simp [h1], ?_⟩
        rw [foldB, stp, if_pos rfl, if_neg hp, h2]
        simp only [hm]
        congr 1
        push_cast
        omega
theorem fold_any (rc : Cell) : ∀ (fr : List Cell) (bs : List Bool) (q0 : Int × Int), bs.length = fr.length → ∃ j : Nat, j ≤ nfr rc fr ∧ (foldB rc fr bs q0).2 = q0.2 + (j : Int) ∧ ((foldB rc fr bs q0).1 = q0.1 ∨ ((foldB rc fr bs q0).1 = 1 ∧ rc ∈ fr))
  | [], bs, q0, _ => ⟨0, Nat.zero_le _, by cases bs <;> simp [foldB], by cases bs <;> simp [foldB]⟩
  | p :: fr, [], q0, h => by simp at h
  | p :: fr, b :: bs, q0, h => by
    have hl : bs.length = fr.length := by simpa using h
    obtain ⟨j, h1, h2, h3⟩ := fold_any rc fr bs (stp rc q0 (p, b)) hl
    rw [foldB]
    by_cases hp : p = rc
    · subst hp
      refine ⟨j, by simpa [nfr] using h1, ?_, ?_⟩
      · rw [h2]; unfold stp; cases b <;> simp
      · rcases h3 with h3 | ⟨h3, h4⟩
        · rw [h3]; unfold stp; cases b <;> simp
        · exact .inr ⟨h3, List.mem_cons_of_mem _ h4⟩
    · have e : nfr rc (p :: fr) = nfr rc fr + 1 := by simp [nfr, hp]
      cases b with
      | false =>
        refine ⟨j, by omega, by rw [h2]; simp [stp], ?_⟩
        rcases h3 with h3 | ⟨h3, h4⟩
        · left; rw [h3]; simp [stp]
        · exact .inr ⟨h3, List.mem_cons_of_mem _ h4⟩
      | true =>
        refine ⟨j + 1, by omega, by rw [h2]; simp [stp, hp]; omega, ?_⟩
        rcases h3 with h3 | ⟨h3, h4⟩
        · left; rw [h3]; simp [stp, hp]
        · exact .inr ⟨h3, List.mem_cons_of_mem _ h4⟩
theorem near_ar8 (rc : Cell) : (near rc).filter (fun p => decide (p ≠ rc)) = ar8.map fun d => (rc.1 + d.1 - 1, rc.2 + d.2 - 1) := by
  obtain ⟨r, c⟩ := rc
  have n1 : ∀ x : Int, ((r - 1, x) : Cell) ≠ (r, c) := fun x h => by have := congrArg Prod.fst h; simp at this; omega
  have n2 : ∀ x : Int, ((r + 1, x) : Cell) ≠ (r, c) := fun x h => by have := congrArg Prod.fst h; simp at this; omega
  have n3 : ((r, c - 1) : Cell) ≠ (r, c) := fun h => by have := congrArg Prod.snd h; simp at this; omega
  have n4 : ((r, c + 1) : Cell) ≠ (r, c) := fun h => by have := congrArg Prod.snd h; simp at this; omega
  unfold near ar8
  simp only [List.filter_cons, n1, n2, n3, n4, ne_eq, not_false_eq_true, not_true_eq_false, decide_true, decide_false, if_true, Bool.false_eq_true, if_false, List.filter_nil, List.map_cons, List.map_nil]
  simp only [List.cons.injEq, Prod.mk.injEq, and_true]
  omega
theorem near_nodup (rc : Cell) : (near rc).Nodup := by
  obtain ⟨r, c⟩ := rc
  unfold near
  simp only [List.nodup_cons, List.mem_cons, Prod.mk.injEq, List.not_mem_nil, or_false, not_false_eq_true, List.nodup_nil, and_true]
  omega
def fre (B : Box) (f : Cas) (rc : Cell) : List Cell := (near rc).filter fun p => decide (said B f p.1 p.2 = none)
def alv (B : Box) (f : Cas) (rc : Cell) : Nat := ((near rc).filter fun p => decide (p ≠ rc ∧ said B f p.1 p.2 = some true)).length
theorem nfr_fre (B : Box) (f : Cas) (rc : Cell) : nfr rc (fre B f rc) = nS B f rc.1 rc.2 none := by
  unfold nfr fre nS
  rw [List.filter_filter]
  have e : ((near rc).filter fun p => decide (p ≠ rc) && decide (said B f p.1 p.2 = none)) = ((near rc).filter (fun p => decide (p ≠ rc))).filter fun p => decide (said B f p.1 p.2 = none) := by
    rw [List.filter_filter]; congr 1; funext p; rw [Bool.and_comm]
  rw [e, near_ar8, List.filter_map, List.length_map]; rfl
theorem alv_nS (B : Box) (f : Cas) (rc : Cell) : alv B f rc = nS B f rc.1 rc.2 (some true) := by
  unfold alv nS
  have e : ((near rc).filter fun p => decide (p ≠ rc ∧ said B f p.1 p.2 = some true)) = ((near rc).filter (fun p => decide (p ≠ rc))).filter fun p => decide (said B f p.1 p.2 = some true) := by
    rw [List.filter_filter]; congr 1; funext p; rw [Bool.decide_and, Bool.and_comm]
  rw [e, near_ar8, List.filter_map, List.length_map]; rfl
theorem mem_fre (B : Box) (f : Cas) (rc : Cell) : rc ∈ fre B f rc ↔ said B f rc.1 rc.2 = none := by
  unfold fre
  rw [List.mem_filter, decide_eq_true_eq]
  exact ⟨fun h => h.2, fun h => ⟨near_of (.inl rfl), h⟩⟩
/-- all ways tried -/
theorem tried (B : Box) (f : Cas) (bs ss : List Int) (rc : Cell) : (∃ n : Nat, n < 2 ^ (fre B f rc).length ∧ ∃ e : Int × Int, e = runK rc (fre B f rc) (max 0 (num (said B f rc.1 rc.2)), (alv B f rc : Int)) n (fre B f rc).length ∧ ((e.1 = 1 ∧ e.2 ∈ ss) ∨ (e.1 = 0 ∧ e.2 ∉ bs))) ↔ ¬ pf B f bs ss rc.1 rc.2 := by
  unfold pf
  rw [Classical.not_not]
  have nd : (fre B f rc).Nodup := (near_nodup rc).filter _
  constructor
  · rintro ⟨n, hn, e, he, h⟩
    obtain ⟨bl, hb⟩ : ∃ bl : List Bool, bl = (List.range (fre B f rc).length).map (bit n) := ⟨_, rfl⟩
    have hl : bl.length = (fre B f rc).length := by rw [hb]; simp
    rw [runK_fold rc n _ bl _ hl fun k b hk => by
      rw [hb, List.getElem?_map] at hk
      by_cases hk2 : k < (fre B f rc).length
      · rw [List.getElem?_range hk2] at hk; exact Option.some.inj hk
      · rw [List.getElem?_eq_none (by simp; omega)] at hk; cases hk] at he
    obtain ⟨j, h1, h2, h3⟩ := fold_any rc (fre B f rc) bl (max 0 (num (said B f rc.1 rc.2)), (alv B f rc : Int)) hl
    rw [← he] at h2 h3
    rw [nfr_fre] at h1
    rw [alv_nS] at h2
    rw [mem_fre] at h3
    dsimp only at h2 h3
    rcases h with ⟨h4, h5⟩ | ⟨h4, h5⟩
    · refine ⟨true, ?_, j, h1, ?_⟩
      · rcases h3 with h3 | ⟨_, h3⟩
        · rw [h4] at h3
          cases es : said B f rc.1 rc.2 with
          | none => exact .inl rfl
          | some b => rw [es] at h3; cases b <;> simp [num] at h3 ⊢
        · exact .inl h3
      · unfold lv; rw [← h2]; simp [h5]
    · refine ⟨false, ?_, j, h1, ?_⟩
      · rcases h3 with h3 | ⟨h3, _⟩
        · rw [h4] at h3
          cases es : said B f rc.1 rc.2 with
          | none => exact .inl rfl
          | some b =>
            rw [es] at h3
            cases b with
            | false => exact .inr rfl
            | true => exact absurd h3 (by decide)
        · omega
      · unfold lv; rw [← h2]; simp [h5]
  · rintro ⟨v, hv, j, hj, hl⟩
    rw [← nfr_fre] at hj
    obtain ⟨bl, h1, h2⟩ := fold_some rc v (fre B f rc) (max 0 (num (said B f rc.1 rc.2)), (alv B f rc : Int)) j nd hj
    obtain ⟨n, hn, hb⟩ := bits_num bl
    refine ⟨n, by rw [← h1]; exact hn, _, rfl, ?_⟩
    rw [runK_fold rc n _ bl _ h1 hb, h2]
    dsimp only
    rw [alv_nS]
    cases v with
    | true =>
      left
      refine ⟨?_, by simpa [lv] using hl⟩
      rcases hv with hv | hv
      · rw [if_pos ⟨(mem_fre B f rc).mpr hv, rfl⟩]
      · rw [hv]; simp only [num]; split <;> decide
    | false =>
      right
      refine ⟨?_, by simpa [lv] using hl⟩
      rw [if_neg (by simp)]
      rcases hv with hv | hv <;> rw [hv] <;> decide
/-! ### the nine places, one by one -/
theorem near_get (rc : Cell) {i j : Nat} (hi : i < 3) (hj : j < 3) : (near rc)[3 * i + j]? = some (rc.1 - 1 + (i : Int), rc.2 - 1 + (j : Int)) := by
  have e1 : i = 0 ∨ i = 1 ∨ i = 2 := by omega
  have e2 : j = 0 ∨ j = 1 ∨ j = 2 := by omega
  rcases e1 with rfl | rfl | rfl <;> rcases e2 with rfl | rfl | rfl <;> simp [near] <;> omega
def preF (B : Box) (f : Cas) (rc : Cell) (k : Nat) : List Cell := ((near rc).take k).filter fun p => decide (said B f p.1 p.2 = none)
def preA (B : Box) (f : Cas) (rc : Cell) (k : Nat) : Nat := (((near rc).take k).filter fun p => decide (p ≠ rc ∧ said B f p.1 p.2 = some true)).length
theorem preF_snoc {B : Box} {f : Cas} {rc p : Cell} {k : Nat} (h : (near rc)[k]? = some p) : preF B f rc (k + 1) = preF B f rc k ++ (if said B f p.1 p.2 = none then [p] else []) := by
  unfold preF
  rw [List.take_add_one, h, List.filter_append]
  by_cases e : said B f p.1 p.2 = none <;> simp [e]
theorem preA_snoc {B : Box} {f : Cas} {rc p : Cell} {k : Nat} (h : (near rc)[k]? = some p) : preA B f rc (k + 1) = preA B f rc k + (if p ≠ rc ∧ said B f p.1 p.2 = some true then 1 else 0) := by
  unfold preA
  rw [List.take_add_one, h, List.filter_append, List.length_append]
  by_cases e : p ≠ rc ∧ said B f p.1 p.2 = some true
  · rw [if_pos e, decide_eq_true_eq.mpr e |> fun z => (by simp [e] : (List.filter (fun p => decide (p ≠ rc ∧ said B f p.1 p.2 = some true)) (some p).toList).length = 1)]
  · rw [if_neg e]; simp [e]
theorem preF_len (B : Box) (f : Cas) (rc : Cell) (k : Nat) : (preF B f rc k).length ≤ 9 := by
  unfold preF
  refine Nat.le_trans (List.length_filter_le _ _) ?_
  rw [List.length_take]
  exact Nat.le_trans (Nat.min_le_right _ _) (by simp [near])
end M

/-! M5: stills of whole pictures; cases as sorted lists. -/
namespace M
open PySem PyProof.Rows L2 J
/-- all signs said -/
def Box.full (B : Box) : Prop := ∀ r c, r < B.h → c < B.w → B.g r c = 46 ∨ B.g r c = 79
theorem Box.full.ok {B : Box} (h : B.full) : B.ok := fun r c h1 h2 => .inr (h r c h1 h2)
theorem Box.arow_lt (B : Box) (r : Nat) : Lt (B.arow r) := by
  unfold Box.arow
  refine List.Pairwise.filterMap (R := fun a b : Nat => a < b) _ (fun a a' hlt b hb b' hb' => ?_) List.pairwise_lt_range
  split at hb
  · split at hb'
    · cases hb; cases hb'
      unfold ltC; dsimp only; omega
    · cases hb'
  · cases hb
theorem lt_flat {f : Nat → List Cell} (h1 : ∀ r, Lt (f r)) (h2 : ∀ r, ∀ x ∈ f r, x.1 = (r : Int)) : ∀ (l : List Nat), l.Pairwise (· < ·) → Lt (l.flatMap f)
  | [], _ => List.Pairwise.nil
  | a :: l, h => by
    obtain ⟨ha, hl⟩ := List.pairwise_cons.mp h
    rw [List.flatMap_cons]
    refine List.pairwise_append.mpr ⟨h1 a, lt_flat h1 h2 l hl, fun x hx y hy => ?_⟩
    obtain ⟨b, hb, hy⟩ := List.mem_flatMap.mp hy
    have e1 := h2 a x hx
    have e2 := h2 b y hy
    have e3 := ha b hb
    unfold ltC; omega
theorem Box.alive_lt (B : Box) : Lt B.alive := by
  unfold Box.alive
  refine lt_flat B.arow_lt (fun r x hx => ?_) _ List.pairwise_lt_range
  unfold Box.arow at hx
  obtain ⟨c, _, hc⟩ := List.mem_filterMap.mp hx
  split at hc
  · cases hc; rfl
  · cases hc
theorem said_full {B : Box} (h : B.full) (r c : Int) : said B noC r c = some (decide (((r, c) : Cell) ∈ B.alive)) := by
  unfold said noC
  by_cases hi : B.inn r c
  · rw [if_pos hi]
    dsimp only
    have hs : B.sg r c = 46 ∨ B.sg r c = 79 := h _ _ (by unfold Box.inn at hi; omega) (by unfold Box.inn at hi; omega)
    rw [if_neg (by omega)]
    congr 1
    refine decide_eq_decide.mpr ?_
    rw [Box.mem_alive]
    exact ⟨fun z => ⟨hi, z⟩, fun z => z.2⟩
  · rw [if_neg hi]
    congr 1
    refine (decide_eq_false ?_).symm
    rw [Box.mem_alive]
    exact fun z => hi z.1
theorem nodup_map_inj {α β : Type} {f : α → β} (hf : ∀ a b, f a = f b → a = b) : ∀ {l : List α}, l.Nodup → (l.map f).Nodup
  | [], _ => List.nodup_nil
  | a :: l, h => by
    obtain ⟨h1, h2⟩ := List.nodup_cons.mp h
    refine List.nodup_cons.mpr ⟨fun z => ?_, nodup_map_inj hf h2⟩
    obtain ⟨b, hb, e⟩ := List.mem_map.mp z
    rw [hf _ _ e] at hb
    exact h1 hb
theorem ad_ar8 {a x : Cell} : ad a x = true ↔ ∃ d ∈ ar8, a = (x.1 + d.1 - 1, x.2 + d.2 - 1) := by
  rw [ad_iff]
  constructor
  · rintro ⟨h1, h2, h3, h4, h5⟩
    refine ⟨(a.1 - x.1 + 1, a.2 - x.2 + 1), ?_, Prod.ext (by dsimp only; omega) (by dsimp only; omega)⟩
    have ne : ¬ (a.1 = x.1 ∧ a.2 = x.2) := fun z => h1 (Prod.ext z.1 z.2)
    have c1 : a.1 - x.1 + 1 = 0 ∨ a.1 - x.1 + 1 = 1 ∨ a.1 - x.1 + 1 = 2 := by omega
    have c2 : a.2 - x.2 + 1 = 0 ∨ a.2 - x.2 + 1 = 1 ∨ a.2 - x.2 + 1 = 2 := by omega
    unfold ar8
    rcases c1 with c1 | c1 | c1 <;> rcases c2 with c2 | c2 | c2 <;> rw [c1, c2] <;> first | (exfalso; omega) | simp
  · rintro ⟨d, hd, rfl⟩
    unfold ar8 at hd
    simp only [List.mem_cons, List.not_mem_nil, or_false] at hd
    have go : ∀ d1 d2 : Int, (0 ≤ d1 ∧ d1 ≤ 2 ∧ 0 ≤ d2 ∧ d2 ≤ 2 ∧ ¬ (d1 = 1 ∧ d2 = 1)) → ((x.1 + d1 - 1, x.2 + d2 - 1) : Cell) ≠ x ∧ x.1 + d1 - 1 - 1 ≤ x.1 ∧ x.1 ≤ x.1 + d1 - 1 + 1 ∧ x.2 + d2 - 1 - 1 ≤ x.2 ∧ x.2 ≤ x.2 + d2 - 1 + 1 := by
      intro d1 d2 h
      refine ⟨fun e => ?_, by omega, by omega, by omega, by omega⟩
      have e1 := congrArg Prod.fst e
      have e2 := congrArg Prod.snd e
      dsimp only at e1 e2
      omega
    rcases hd with rfl | rfl | rfl | rfl | rfl | rfl | rfl | rfl <;> exact go _ _ (by decide)
/-- counting by the eight places -/
theorem cnt_ar8 {L : List Cell} (hl : L.Nodup) (x : Cell) : cnt L x = (ar8.filter fun d => decide (((x.1 + d.1 - 1, x.2 + d.2 - 1) : Cell) ∈ L)).length := by
  have e1 : (ar8.filter fun d => decide (((x.1 + d.1 - 1, x.2 + d.2 - 1) : Cell) ∈ L)).length = ((ar8.filter fun d => decide (((x.1 + d.1 - 1, x.2 + d.2 - 1) : Cell) ∈ L)).map fun d => ((x.1 + d.1 - 1, x.2 + d.2 - 1) : Cell)).length := (List.length_map ..).symm
  rw [e1]
  unfold cnt
  refine List.Perm.length_eq ((List.perm_ext_iff_of_nodup (hl.filter _) (nodup_map_inj (fun a b e => ?_) (List.Pairwise.filter _ (show ar8.Nodup by decide)))).mpr fun c => ?_)
  · have e1 := congrArg Prod.fst e
    have e2 := congrArg Prod.snd e
    dsimp only at e1 e2
    exact Prod.ext (by omega) (by omega)
  · rw [List.mem_filter, ad_ar8, List.mem_map]
    constructor
    · rintro ⟨h1, d, hd, rfl⟩
      exact ⟨d, List.mem_filter.mpr ⟨hd, decide_eq_true h1⟩, rfl⟩
    · rintro ⟨d, hd, rfl⟩
      obtain ⟨h1, h2⟩ := List.mem_filter.mp hd
      exact ⟨of_decide_eq_true h2, d, h1, rfl⟩
theorem nS_full {B : Box} (h : B.full) (r c : Int) : nS B noC r c none = 0 ∧ nS B noC r c (some true) = cnt B.alive (r, c) := by
  unfold nS
  constructor
  · refine List.length_eq_zero_iff.mpr (List.filter_eq_nil_iff.mpr fun d _ => ?_)
    rw [said_full h]; simp
  · rw [cnt_ar8 (lt_nodup B.alive_lt)]
    congr 1
    refine List.filter_congr fun d _ => ?_
    rw [said_full h]
    simp
theorem pf_full {B : Box} (h : B.full) (bs ss : List Int) (r c : Int) : ¬ pf B noC bs ss r c ↔ lv bs ss (decide (((r, c) : Cell) ∈ B.alive)) (cnt B.alive (r, c)) = decide (((r, c) : Cell) ∈ B.alive) := by
  unfold pf
  rw [Classical.not_not]
  obtain ⟨e1, e2⟩ := nS_full h r c
  unfold okv
  rw [e1, e2, said_full h]
  constructor
  · rintro ⟨v, hv, k, hk, hl⟩
    rcases hv with hv | hv
    · cases hv
    · cases hv
      have : k = 0 := by omega
      subst this
      simpa using hl
  · intro hl
    exact ⟨_, .inr rfl, 0, Nat.le_refl _, by simpa using hl⟩
theorem ddp_of_nodup {α : Type} [DecidableEq α] : ∀ {l : List α}, l.Nodup → ddp l = l
  | [], _ => rfl
  | a :: l, h => by
    obtain ⟨h1, h2⟩ := List.nodup_cons.mp h
    rw [ddp, if_neg h1, ddp_of_nodup h2]
/-- a whole picture is a still just if no place fails -/
theorem still_iff {B : Box} (h : B.full) {bs ss : List Int} (hb : ∀ b ∈ bs, 1 ≤ b) : (∀ c ∈ B.places, ¬ pf B noC bs ss c.1 c.2) ↔ nxt B.alive bs ss = B.alive := by
  have nd := lt_nodup B.alive_lt
  have mem : ∀ x, x ∈ nxt B.alive bs ss ↔ lvN B.alive bs ss x = true := fun x => by rw [nxt_mem, ddp_of_nodup nd]
  have zero : ∀ x : Cell, ¬ x ∈ B.alive → cnt B.alive x = 0 → lv bs ss false (0 : Int) = false := fun x _ _ => by
    unfold lv
    rw [if_neg (by decide)]
    exact decide_eq_false fun z => by have := hb _ z; omega
  have same : ∀ x : Cell, (lv bs ss (decide (x ∈ B.alive)) (cnt B.alive x) = decide (x ∈ B.alive)) ↔ (lvN B.alive bs ss x = true ↔ x ∈ B.alive) := by
    intro x
    unfold lvN
    by_cases hx : x ∈ B.alive
    · simp [hx]
    · by_cases h0 : cnt B.alive x = 0
      · have z := zero x hx h0
        simp [hx, h0, z]
      · have h1 : 1 ≤ cnt B.alive x := by omega
        simp [hx, h1]
  constructor
  · intro hp
    refine lt_ext (nxt_lt _ _ _) B.alive_lt fun x => ?_
    rw [mem]
    by_cases hx : x ∈ B.places
    · exact (same x).mp ((pf_full h bs ss x.1 x.2).mp (hp x hx))
    · have far : ∀ a ∈ B.alive, ¬ ad a x = true := fun a ha z => by
        rw [ad_iff] at z
        rw [Box.mem_alive] at ha
        have ha := ha.1
        unfold Box.inn at ha
        rw [Box.mem_places] at hx
        omega
      have c0 : cnt B.alive x = 0 := by
        unfold cnt
        exact List.length_eq_zero_iff.mpr (List.filter_eq_nil_iff.mpr far)
      have hn : ¬ x ∈ B.alive := fun z => by
        rw [Box.mem_alive] at z
        have z := z.1
        unfold Box.inn at z
        rw [Box.mem_places] at hx
        omega
      refine (same x).mp ?_
      have e0 := zero x hn c0
      rw [c0, decide_eq_false hn]
      exact e0
  · intro e c hc
    refine (pf_full h bs ss c.1 c.2).mpr ((same c).mpr ?_)
    rw [← mem, e]
theorem lvS_same {bs ss bs' ss' : List Int} (h1 : SameS bs bs') (h2 : SameS ss ss') (a : Bool) (c : Int) : lv bs' ss' a c = lv bs ss a c := lv_same h1.2 h2.2 a c
theorem pf_same {bs ss bs' ss' : List Int} (h1 : SameS bs bs') (h2 : SameS ss ss') (B : Box) (f : Cas) (r c : Int) : pf B f bs' ss' r c ↔ pf B f bs ss r c := by
  unfold pf okv
  simp only [lvS_same h1 h2]
/-! ### a case as data -/
@[reducible] def cbD (p : Cell × Bool) : PyData := .tuple [cD p.1, .bool p.2]
@[reducible] def cbK (p : Cell × Bool) : List Key × J.D := ([.inl p.1.1, .inl p.1.2], .d (.bool p.2))
/-- a case of bools is a table of such pairs -/
theorem caseR_pairs : ∀ {kvs : List (List Key × J.D)}, (∀ kv ∈ kvs, ∃ (c : Cell) (b : Bool), kv = cbK (c, b)) → ∃ ps : List (Cell × Bool), kvs = ps.map cbK
  | [], _ => ⟨[], rfl⟩
  | kv :: r, h => by
    obtain ⟨ps, e⟩ := caseR_pairs (kvs := r) fun x hx => h x (List.mem_cons_of_mem _ hx)
    obtain ⟨c, b, e2⟩ := h kv List.mem_cons_self
    exact ⟨(c, b) :: ps, by rw [List.map_cons, e, e2]⟩
theorem cb_alike (p q : Cell × Bool) : PySem.W.alike (cbD p) (cbD q) = true := by
  simp [cbD, cD, PySem.W.alike, PySem.W.alikeAll]
theorem cb_srt (ps : List (Cell × Bool)) : SrtOk (ps.map cbD) where
  al := fun d hd d' hd' => by
    obtain ⟨p, _, rfl⟩ := List.mem_map.mp hd
    obtain ⟨q, _, rfl⟩ := List.mem_map.mp hd'
    exact cb_alike p q
  so := .inl fun d hd => by
    obtain ⟨p, _, rfl⟩ := List.mem_map.mp hd
    exact ⟨_, _, rfl⟩
  dp := fun d hd => by
    obtain ⟨p, _, rfl⟩ := List.mem_map.mp hd
    simp [cbD, cD, PyData.depth, PyData.depthAll]
theorem alikeAll_self : ∀ {ds : List PyData}, (∀ d ∈ ds, PySem.W.alike d d = true) → PySem.W.alikeAll ds ds = true
  | [], _ => by simp [PySem.W.alikeAll]
  | d :: r, h => by
    rw [PySem.W.alikeAll, h d List.mem_cons_self, alikeAll_self fun x hx => h x (List.mem_cons_of_mem _ hx)]; rfl
theorem lay_all : ∀ {ds : List PyData}, (∀ d ∈ ds, d.canLay0 = true) → PyData.canLayAll0 ds = true
  | [], _ => rfl
  | d :: r, h => by
    rw [PyData.canLayAll0, h d List.mem_cons_self, lay_all fun x hx => h x (List.mem_cons_of_mem _ hx)]; rfl
theorem dep_all {n : Nat} : ∀ {ds : List PyData}, (∀ d ∈ ds, d.depth ≤ n) → PyData.depthAll ds ≤ n
  | [], _ => by simp [PyData.depthAll]
  | d :: r, h => by
    have h1 := h d List.mem_cons_self
    have h2 := dep_all fun x hx => h x (List.mem_cons_of_mem _ hx)
    rw [PyData.depthAll]; omega
theorem list_shape {ds : List PyData} (h : ∀ d ∈ ds, d.canLay0 = true ∧ d.depth ≤ 63) : SeqAt.shaped (.list ds) = true := by
  have e1 : PyData.canLay0 (.list ds) = true := by rw [PyData.canLay0]; exact lay_all fun d hd => (h d hd).1
  have e2 : PyData.depth (.list ds) ≤ 64 := by
    have := dep_all (n := 63) fun d hd => (h d hd).2
    rw [PyData.depth]; omega
  unfold SeqAt.shaped
  rw [e1, decide_eq_true e2]; rfl
theorem list_refl {ds : List PyData} (h : ∀ d ∈ ds, PySem.W.alike d d = true) : PyData.eqv (.list ds) (.list ds) = true :=
  PySem.W.eqv_refl_alike _ (by rw [PySem.W.alike]; exact alikeAll_self h)
theorem srtD_mem {ds : List PyData} {d : PyData} : d ∈ srtD ds ↔ d ∈ ds := (List.mergeSort_perm ds _).mem_iff
theorem cb_mem {ps : List (Cell × Bool)} {d : PyData} (h : d ∈ srtD (ps.map cbD)) : ∃ p, d = cbD p := by
  rw [srtD_mem] at h
  obtain ⟨p, _, rfl⟩ := List.mem_map.mp h
  exact ⟨p, rfl⟩
theorem cb_shape (ps : List (Cell × Bool)) : SeqAt.shaped (.list (srtD (ps.map cbD))) = true := list_shape fun d hd => by
  obtain ⟨p, rfl⟩ := cb_mem hd
  exact ⟨by simp [cbD, cD, PyData.canLay0, PyData.canLayAll0], by simp [cbD, cD, PyData.depth, PyData.depthAll]⟩
theorem cb_refl (ps : List (Cell × Bool)) : PyData.eqv (.list (srtD (ps.map cbD))) (.list (srtD (ps.map cbD))) = true := list_refl fun d hd => by
  obtain ⟨p, rfl⟩ := cb_mem hd
  exact cb_alike p p
theorem gP_pairs (ps : List (Cell × Bool)) (r c : Int) (b : Bool) : ∃ ps2 : List (Cell × Bool), gP (ps.map cbK) [.inl r, .inl c] (.d (.bool b)) = ps2.map cbK ∧ ps2.length ≤ ps.length + 1 := by
  have hl := gP_len (ps.map cbK) [.inl r, .inl c] (J.D.d (.bool b))
  rw [List.length_map] at hl
  obtain ⟨ps2, e⟩ := caseR_pairs (kvs := gP (ps.map cbK) [.inl r, .inl c] (J.D.d (.bool b))) fun kv h => by
    unfold gP at h
    split at h
    · obtain ⟨kv0, h0, rfl⟩ := List.mem_map.mp h
      obtain ⟨p, _, rfl⟩ := List.mem_map.mp h0
      split
      · exact ⟨p.1, b, rfl⟩
      · exact ⟨p.1, p.2, rfl⟩
    · rcases List.mem_append.mp h with h | h
      · obtain ⟨p, _, rfl⟩ := List.mem_map.mp h
        exact ⟨p.1, p.2, rfl⟩
      · rw [List.mem_singleton.mp h]
        exact ⟨(r, c), b, rfl⟩
  exact ⟨ps2, e, by rw [e, List.length_map] at hl; exact hl⟩
theorem gV_mem {κ α : Type} [DecidableEq κ] : ∀ {kvs : List (κ × α)} {kv : κ × α}, kv ∈ kvs → ∃ v, gV kvs kv.1 = some v
  | a :: r, kv, h => by
    rw [gV_cons]
    by_cases e : a.1 = kv.1
    · exact ⟨_, if_pos e⟩
    · rcases List.mem_cons.mp h with h | h
      · exact absurd (by rw [h]) e
      · obtain ⟨v, hv⟩ := gV_mem h
        exact ⟨v, by rw [if_neg e]; exact hv⟩
/-- what is said of a key -/
def valC (g : Cas) (p : Cell × Bool) : Cell × Bool := (p.1, (g p.1.1 p.1.2).getD false)
theorem caseR_at {g : Cas} {ps : List (Cell × Bool)} (h : CaseR g (ps.map cbK)) {p : Cell × Bool} (hp : p ∈ ps) : gV (ps.map cbK) [.inl p.1.1, .inl p.1.2] = some (.d (.bool (valC g p).2)) := by
  obtain ⟨v, hv⟩ := gV_mem (List.mem_map_of_mem (f := cbK) hp)
  have e := h p.1.1 p.1.2
  unfold valC
  cases eg : g p.1.1 p.1.2 with
  | none =>
    rw [eg] at e
    rw [show gV (ps.map cbK) [.inl p.1.1, .inl p.1.2] = some v from hv] at e
    cases e
  | some b => rw [e, eg]; rfl
/-- the picture of what is said -/
def Box.pic (B : Box) (f : Cas) : Box := ⟨B.h, B.w, fun r c => if said B f r c = some true then 79 else 46⟩
theorem Box.pic_full (B : Box) (f : Cas) : (B.pic f).full := fun r c _ _ => by
  show (if said B f r c = some true then 79 else 46) = 46 ∨ (if said B f r c = some true then 79 else 46) = 79
  split <;> simp
theorem sign_at (x : Option Bool) : atI (Str.ofString ".O").cps.toList (if num x > 0 then num x else 0) = some (if x = some true then 79 else 46) := by
  cases x with
  | none => decide +kernel
  | some b => cases b <;> decide +kernel
end M

/-! M6: denials. -/
namespace M
open PySem PyProof.Rows L2 J
inductive Den where
  | fails (r c : Int)
  | cell (r c : Int) (a b : Den)
@[reducible] def denD : Den → PyData
  | .fails r c => .tuple [.str (Str.ofString "fails"), .int r, .int c]
  | .cell r c a b => .tuple [.str (Str.ofString "cell"), .int r, .int c, denD a, denD b]
def Den.dep : Den → Nat
  | .fails _ _ => 1
  | .cell _ _ a b => max a.dep b.dep + 1
theorem Den.dep_pos : ∀ d : Den, 1 ≤ d.dep
  | .fails _ _ => Nat.le_refl _
  | .cell _ _ _ _ => Nat.le_add_left _ _
/-- all coordinates between -m and m -/
def Den.bd (m : Int) : Den → Prop
  | .fails r c => -m ≤ r ∧ r ≤ m ∧ -m ≤ c ∧ c ≤ m
  | .cell r c a b => (-m ≤ r ∧ r ≤ m ∧ -m ≤ c ∧ c ≤ m) ∧ a.bd m ∧ b.bd m
/-- whether it holds in a case, by what a leaf asks -/
def hold (fl : Cas → Int → Int → Prop) (sd : Cas → Int → Int → Option Bool) : Den → Cas → Prop
  | .fails r c, f => fl f r c
  | .cell r c a b, f => match sd f r c with
    | some true => hold fl sd b f
    | some false => hold fl sd a f
    | none => hold fl sd a (putC f r c false) ∧ hold fl sd b (putC f r c true)
theorem hold_leaf {fl : Cas → Int → Int → Prop} {sd : Cas → Int → Int → Option Bool} {r c : Int} {f : Cas} : hold fl sd (.fails r c) f ↔ fl f r c := Iff.rfl
theorem hold_some {fl : Cas → Int → Int → Prop} {sd : Cas → Int → Int → Option Bool} {r c : Int} {a b : Den} {f : Cas} {v : Bool} (e : sd f r c = some v) : hold fl sd (.cell r c a b) f ↔ hold fl sd (if v = true then b else a) f := by
  conv => lhs; unfold hold
  rw [e]
  cases v <;> simp
theorem hold_none {fl : Cas → Int → Int → Prop} {sd : Cas → Int → Int → Option Bool} {r c : Int} {a b : Den} {f : Cas} (e : sd f r c = none) : hold fl sd (.cell r c a b) f ↔ ∀ v : Bool, hold fl sd (if v = true then b else a) (putC f r c v) := by
  conv => lhs; unfold hold
  rw [e]
  constructor
  · rintro ⟨h1, h2⟩ v
    cases v
    · simpa using h1
    · simpa using h2
  · intro h
    exact ⟨by simpa using h false, by simpa using h true⟩
/-- stills: a case that a picture agrees with -/
def agr (B : Box) (f : Cas) (P : Box) : Prop := ∀ r c : Int, ∀ b, said B f r c = some b → said P noC r c = some b
theorem filt_split {α : Type} (p q : α → Bool) (h : ∀ x, q x = true → p x = true) : ∀ l : List α, (l.filter p).length = (l.filter q).length + (l.filter fun x => p x && !q x).length
  | [] => rfl
  | x :: r => by
    have ih := filt_split p q h r
    cases hq : q x
    · cases hp : p x <;> simp [hq, hp, ih] <;> omega
    · have hp := h x hq
      simp [hq, hp, ih]; omega
theorem filt_le {α : Type} {p q : α → Bool} (h : ∀ x, p x = true → q x = true) : ∀ l : List α, (l.filter p).length ≤ (l.filter q).length
  | [] => Nat.le_refl _
  | x :: r => by
    have ih := filt_le h r
    cases hp : p x
    · cases hq : q x <;> simp [hq, hp] <;> omega
    · have hq := h x hp
      simp [hq, hp]; omega
theorem pf_mono {B P : Box} {f : Cas} (hP : P.full) (h : agr B f P) {bs ss : List Int} {r c : Int} (hp : pf B f bs ss r c) : pf P noC bs ss r c := by
  rintro ⟨v, hv, k, hk, hl⟩
  refine hp ⟨v, ?_, ?_⟩
  · have hv : said P noC r c = some v := by
      rcases hv with hv | hv
      · rw [said_full hP] at hv; cases hv
      · exact hv
    cases e : said B f r c with
    | none => exact .inl rfl
    | some b => exact .inr (by rw [← hv, h r c b e])
  · have h0 := (nS_full hP r c).1
    have e1 : k = 0 := by omega
    subst e1
    have sp := filt_split (fun d : Int × Int => decide (said P noC (r + d.1 - 1) (c + d.2 - 1) = some true)) (fun d => decide (said B f (r + d.1 - 1) (c + d.2 - 1) = some true)) (fun d hd => decide_eq_true (h _ _ _ (of_decide_eq_true hd))) ar8
    have le : (ar8.filter fun d => decide (said P noC (r + d.1 - 1) (c + d.2 - 1) = some true) && !decide (said B f (r + d.1 - 1) (c + d.2 - 1) = some true)).length ≤ nS B f r c none := by
      unfold nS
      refine filt_le ?_ _
      intro d hd
      simp only [Bool.and_eq_true, decide_eq_true_eq, Bool.not_eq_true', decide_eq_false_iff_not] at hd
      refine decide_eq_true ?_
      cases e : said B f (r + d.1 - 1) (c + d.2 - 1) with
      | none => rfl
      | some b =>
        cases b with
        | true => exact absurd e hd.2
        | false =>
          have := h _ _ _ e
          rw [hd.1] at this; cases this
    refine ⟨_, le, ?_⟩
    have e2 : nS P noC r c (some true) = nS B f r c (some true) + (ar8.filter fun d => decide (said P noC (r + d.1 - 1) (c + d.2 - 1) = some true) && !decide (said B f (r + d.1 - 1) (c + d.2 - 1) = some true)).length := sp
    rw [e2] at hl
    push_cast at hl ⊢
    simpa using hl
theorem said_put (B : Box) (f : Cas) (r c r' c' : Int) (b : Bool) : said B (putC f r c b) r' c' = if B.inn r' c' ∧ r' = r ∧ c' = c then some b else said B f r' c' := by
  unfold said putC
  by_cases hi : B.inn r' c'
  · rw [if_pos hi, if_pos hi]
    by_cases e : r' = r ∧ c' = c
    · rw [if_pos (show B.inn r' c' ∧ r' = r ∧ c' = c from ⟨hi, e⟩), if_pos e]
    · rw [if_neg (show ¬ (B.inn r' c' ∧ r' = r ∧ c' = c) from fun z => e z.2), if_neg e]
  · rw [if_neg hi, if_neg hi, if_neg fun z => hi z.1]
theorem said_none_inn {B : Box} {f : Cas} {r c : Int} (h : said B f r c = none) : B.inn r c := by
  unfold said at h
  split at h
  · assumption
  · cases h
theorem agr_put {B P : Box} {f : Cas} (h : agr B f P) {r c : Int} {b : Bool} (e : said P noC r c = some b) : agr B (putC f r c b) P := fun r' c' b' h' => by
  rw [said_put] at h'
  split at h'
  · rename_i z
    cases h'
    rw [z.2.1, z.2.2]; exact e
  · exact h _ _ _ h'
/-- a denial that holds: some place of each picture fails -/
theorem hold_sound {B P : Box} (hP : P.full) {bs ss : List Int} : ∀ (d : Den) (f : Cas), agr B f P → hold (pf B · bs ss) (said B) d f → ∃ r c, pf P noC bs ss r c
  | .fails r c, f, h, hh => ⟨r, c, pf_mono hP h hh⟩
  | .cell r c a b, f, h, hh => by
    unfold hold at hh
    split at hh
    · exact hold_sound hP b f h hh
    · exact hold_sound hP a f h hh
    · have e := said_full hP r c
      cases hv : decide (((r, c) : Cell) ∈ P.alive) with
      | true => rw [hv] at e; exact hold_sound hP b _ (agr_put h e) hh.2
      | false => rw [hv] at e; exact hold_sound hP a _ (agr_put h e) hh.1
theorem still_all {B : Box} (h : B.full) {bs ss : List Int} (hb : ∀ b ∈ bs, 1 ≤ b) (e : nxt B.alive bs ss = B.alive) (r c : Int) : ¬ pf B noC bs ss r c := by
  by_cases hp : ((r, c) : Cell) ∈ B.places
  · exact (still_iff h hb).mpr e (r, c) hp
  · rw [pf_full h]
    rw [Box.mem_places] at hp
    dsimp only at hp
    have n1 : ¬ ((r, c) : Cell) ∈ B.alive := fun z => by
      rw [Box.mem_alive] at z
      have z := z.1
      unfold Box.inn at z
      dsimp only at z
      omega
    have c0 : cnt B.alive (r, c) = 0 := by
      unfold cnt
      refine List.length_eq_zero_iff.mpr (List.filter_eq_nil_iff.mpr fun a ha z => ?_)
      rw [ad_iff] at z
      rw [Box.mem_alive] at ha
      have ha := ha.1
      unfold Box.inn at ha
      dsimp only at z
      omega
    rw [c0, decide_eq_false n1]
    unfold lv
    rw [if_neg (by decide)]
    exact decide_eq_false fun z => by have := hb _ z; omega
/-- a picture that meets the wishes -/
def meets (B P : Box) : Prop := P.h = B.h ∧ P.w = B.w ∧ ∀ r c, r < B.h → c < B.w → B.g r c = 63 ∨ P.g r c = B.g r c
theorem agr_meets {B P : Box} (hok : B.ok) (hP : P.full) (h : meets B P) : agr B noC P := fun r c b e => by
  unfold said noC at e ⊢
  have hin : P.inn r c ↔ B.inn r c := by unfold Box.inn; rw [h.1, h.2.1]
  by_cases hi : B.inn r c
  · rw [if_pos hi] at e
    rw [if_pos (hin.mpr hi)]
    dsimp only at e ⊢
    have z := h.2.2 r.toNat c.toNat (by unfold Box.inn at hi; omega) (by unfold Box.inn at hi; omega)
    have zp := hP r.toNat c.toNat (by rw [h.1]; unfold Box.inn at hi; omega) (by rw [h.2.1]; unfold Box.inn at hi; omega)
    unfold Box.sg at e ⊢
    split at e
    · cases e
    · rename_i ne
      cases e
      rcases z with z | z
      · exact absurd z ne
      · rw [if_neg (by omega), z]
  · rw [if_neg hi] at e
    rw [if_neg fun z => hi (hin.mp z)]
    exact e
/-- wishes that a still meets have no denial that holds -/
theorem deny_sound {B P : Box} (hok : B.ok) (hP : P.full) (h : meets B P) {bs ss : List Int} (hb : ∀ b ∈ bs, 1 ≤ b) (e : nxt P.alive bs ss = P.alive) {d : Den} (hd : hold (pf B · bs ss) (said B) d noC) : False := by
  obtain ⟨r, c, hp⟩ := hold_sound hP d noC (agr_meets hok hP h) hd
  exact still_all hP hb e r c hp
theorem hold_same {B : Box} {bs ss bs' ss' : List Int} (h1 : SameS bs bs') (h2 : SameS ss ss') : ∀ (d : Den) (f : Cas), hold (pf B · bs' ss') (said B) d f ↔ hold (pf B · bs ss) (said B) d f
  | .fails r c, f => pf_same h1 h2 B f r c
  | .cell r c a b, f => by
    unfold hold
    split
    · exact hold_same h1 h2 b f
    · exact hold_same h1 h2 a f
    · rw [hold_same h1 h2 a, hold_same h1 h2 b]
/-! ### a case copied -/
structure CpI (f : Cas) (ps : List (Cell × Bool)) (i : Nat) (acc : List (List Key × J.D)) : Prop where
  pr : ∃ ps' : List (Cell × Bool), acc = ps'.map cbK ∧ ps'.length ≤ i
  at_ : ∀ r c : Int, gV acc [.inl r, .inl c] = if ((r, c) : Cell) ∈ (ps.take i).map (·.1) then (f r c).map (fun b => J.D.d (.bool b)) else none
theorem CpI.zero (f : Cas) (ps : List (Cell × Bool)) : CpI f ps 0 [] := ⟨⟨[], rfl, Nat.le_refl _⟩, fun r c => by simp [gV]⟩
theorem CpI.step {f : Cas} {ps : List (Cell × Bool)} {i : Nat} {acc : List (List Key × J.D)} {p : Cell × Bool} (hf : CaseR f (ps.map cbK)) (hp : ps[i]? = some p) (h : CpI f ps i acc) : CpI f ps (i + 1) (gP acc [.inl p.1.1, .inl p.1.2] (.d (.bool (valC f p).2))) := by
  obtain ⟨ps', rfl, hl⟩ := h.pr
  obtain ⟨ps2, e2, l2⟩ := gP_pairs ps' p.1.1 p.1.2 (valC f p).2
  refine ⟨⟨ps2, e2, by omega⟩, fun r c => ?_⟩
  rw [gV_gP, h.at_ r c, List.take_add_one, hp]
  simp only [Option.toList, List.map_append, List.map_cons, List.map_nil, List.mem_append, List.mem_singleton]
  by_cases e : ([.inl r, .inl c] : List Key) = [.inl p.1.1, .inl p.1.2]
  · rw [if_pos e]
    obtain ⟨e1, e2⟩ := key_eq.mp e
    subst e1 e2
    rw [if_pos (.inr rfl)]
    have z := caseR_at hf (List.mem_of_getElem? hp)
    rw [hf] at z
    exact z.symm
  · rw [if_neg e]
    have ne : ¬ ((r, c) : Cell) = p.1 := fun z => e (by rw [← z])
    by_cases m : ((r, c) : Cell) ∈ (ps.take i).map (·.1)
    · rw [if_pos m, if_pos (.inl m)]
    · rw [if_neg m, if_neg fun z => z.elim m ne]
theorem CpI.done {f : Cas} {ps : List (Cell × Bool)} {acc : List (List Key × J.D)} (hf : CaseR f (ps.map cbK)) (h : CpI f ps ps.length acc) : ∃ ps' : List (Cell × Bool), acc = ps'.map cbK ∧ ps'.length ≤ ps.length ∧ CaseR f (ps'.map cbK) := by
  obtain ⟨ps', rfl, hl⟩ := h.pr
  refine ⟨ps', rfl, hl, fun r c => ?_⟩
  rw [h.at_, List.take_length]
  by_cases m : ((r, c) : Cell) ∈ ps.map (·.1)
  · rw [if_pos m]
  · rw [if_neg m]
    have z := hf r c
    cases e : f r c with
    | none => rfl
    | some b =>
      rw [e] at z
      unfold gV at z
      obtain ⟨kv, hk, _⟩ := Option.map_eq_some_iff.mp z
      have h1 := List.mem_of_find?_eq_some hk
      have h2 := List.find?_some hk
      obtain ⟨p, hp, rfl⟩ := List.mem_map.mp h1
      simp only [decide_eq_true_eq] at h2
      obtain ⟨e1, e2⟩ := key_eq.mp h2
      exact absurd (List.mem_map.mpr ⟨p, hp, Prod.ext e1 e2⟩) m
/-- the nine places, one by one, but the middle -/
def preX (B : Box) (f : Cas) (rc : Cell) (x : Option Bool) (k : Nat) : Nat := (((near rc).take k).filter fun p => decide (p ≠ rc ∧ said B f p.1 p.2 = x)).length
theorem preX_snoc {B : Box} {f : Cas} {rc p : Cell} {x : Option Bool} {k : Nat} (h : (near rc)[k]? = some p) : preX B f rc x (k + 1) = preX B f rc x k + (if p ≠ rc ∧ said B f p.1 p.2 = x then 1 else 0) := by
  unfold preX
  rw [List.take_add_one, h, List.filter_append, List.length_append]
  by_cases e : p ≠ rc ∧ said B f p.1 p.2 = x
  · rw [if_pos e, (by simp [e] : (List.filter (fun p => decide (p ≠ rc ∧ said B f p.1 p.2 = x)) (some p).toList).length = 1)]
  · rw [if_neg e]; simp [e]
theorem preX_all (B : Box) (f : Cas) (rc : Cell) (x : Option Bool) : preX B f rc x 9 = nS B f rc.1 rc.2 x := by
  have e0 : preX B f rc x 9 = ((near rc).filter fun p => decide (p ≠ rc ∧ said B f p.1 p.2 = x)).length := rfl
  rw [e0]
  unfold nS
  have e : ((near rc).filter fun p => decide (p ≠ rc ∧ said B f p.1 p.2 = x)) = ((near rc).filter (fun p => decide (p ≠ rc))).filter fun p => decide (said B f p.1 p.2 = x) := by
    rw [List.filter_filter]; congr 1; funext p; rw [Bool.decide_and, Bool.and_comm]
  rw [e, near_ar8, List.filter_map, List.length_map]; rfl
theorem preX_le (B : Box) (f : Cas) (rc : Cell) (x : Option Bool) (k : Nat) : preX B f rc x k ≤ 9 := by
  unfold preX
  refine Nat.le_trans (List.length_filter_le _ _) ?_
  rw [List.length_take]
  exact Nat.le_trans (Nat.min_le_right _ _) (by simp [near])
/-- {key: case[key] for key in case} -/
theorem dcCopy {f : Cas} {ps : List (Cell × Bool)} {ls1 : Ls} {Pl : Ls → Prop} {g : jTG} {tk tv : jTE} {δw : J.Env} {Q : J.D → Ls → Prop} (hf : CaseR f (ps.map cbK)) (hz : ps.length ≤ 1000) (hp : Pl ls1)
    (hs : ∀ (p : Cell × Bool) (W : J.D → J.D → Ls → Prop), p ∈ ps → W (.d (cD p.1)) (.d (.bool (valC f p).2)) ls1 → g (.d (cD p.1)) δw ls1 fun δ2 ls2 => tk δ2 ls2 fun y ls3 => tv δ2 ls3 fun z ls4 => W y z ls4)
    (hd : ∀ ps' : List (Cell × Bool), ps'.length ≤ ps.length → CaseR f (ps'.map cbK) → ∀ p, Q (.a p) ((p, .dct (ps'.map cbK)) :: ls1)) :
    ∃ Iv : Nat → List (List Key × J.D) → Ls → Prop, Iv 0 [] ls1 ∧
      (∀ i x acc ls, ((ps.map cbK).map fun kv => J.D.d (keyT kv.1))[i]? = some x → Iv i acc ls → Pl ls ∧ g x δw ls fun δ2 ls2 => tk δ2 ls2 fun y ls3 => tv δ2 ls3 fun z ls4 => acc.length < sizeLine ∧ ∃ ks k, y = .d (.tuple ks) ∧ keysD ks = some k ∧ Iv (i + 1) (gP acc k z) ls4) ∧
      ∀ acc ls, Iv ((ps.map cbK).map fun kv => J.D.d (keyT kv.1)).length acc ls → Pl ls ∧ jNewDt acc ls Q := by
  refine ⟨fun i acc ls => ls = ls1 ∧ CpI f ps i acc, ⟨rfl, .zero f ps⟩, fun i x acc ls hx hI => ?_, fun acc ls hI => ?_⟩
  · obtain ⟨rfl, hI⟩ := hI
    rw [List.map_map, List.getElem?_map] at hx
    cases e : ps[i]? with
    | none => rw [e] at hx; cases hx
    | some p =>
      rw [e] at hx; cases hx
      have hi : i < ps.length := (List.getElem?_eq_some_iff.mp e).1
      refine ⟨hp, hs p (fun y z ls4 => acc.length < sizeLine ∧ ∃ ks k, y = .d (.tuple ks) ∧ keysD ks = some k ∧ (ls4 = ls ∧ CpI f ps (i + 1) (gP acc k z))) (List.mem_of_getElem? e) ⟨?_, _, _, rfl, rfl, rfl, hI.step hf e⟩⟩
      obtain ⟨ps', rfl, hl⟩ := hI.pr
      rw [List.length_map, sizeLine_eq]; omega
  · obtain ⟨rfl, hI⟩ := hI
    refine ⟨hp, fun p => ?_⟩
    rw [List.length_map, List.length_map] at hI
    obtain ⟨ps', rfl, hl, hc⟩ := hI.done hf
    exact hd ps' hl hc p
theorem Box.rws_get {B : Box} {i : Nat} {a : Str} (h : B.rws[i]? = some a) : i < B.h ∧ a = B.row i := by
  unfold Box.rws at h
  rw [List.getElem?_map] at h
  by_cases hi : i < B.h
  · rw [List.getElem?_range hi] at h
    exact ⟨hi, (Option.some.inj h).symm⟩
  · rw [List.getElem?_eq_none (by simp; omega)] at h; cases h
theorem Box.row_get {B : Box} {i j c : Nat} (h : (B.row i).cps.toList[j]? = some c) : j < B.w ∧ c = B.g i j := by
  rw [B.row_cps, List.getElem?_map] at h
  by_cases hj : j < B.w
  · rw [List.getElem?_range hj] at h
    exact ⟨hj, (Option.some.inj h).symm⟩
  · rw [List.getElem?_eq_none (by simp; omega)] at h; cases h
theorem Box.row_size (B : Box) (i : Nat) : (B.row i).cps.toList.length = B.w := by rw [B.row_cps]; simp
/-- the cells of which nothing is said -/
def Box.orow (B : Box) (r : Nat) : List Cell := (List.range B.w).filterMap fun c : Nat => if B.g r c = 63 then some (((r : Int), (c : Int)) : Cell) else none
def Box.opens (B : Box) : List Cell := (List.range B.h).flatMap B.orow
theorem Box.mem_opens (B : Box) (x : Cell) : x ∈ B.opens ↔ B.inn x.1 x.2 ∧ B.sg x.1 x.2 = 63 := by
  unfold Box.opens Box.orow Box.inn Box.sg
  simp only [List.mem_flatMap, List.mem_range, List.mem_filterMap]
  constructor
  · rintro ⟨r, hr, c, hc, h⟩
    split at h
    · rename_i h2
      cases h
      dsimp only
      exact ⟨by omega, by simpa using h2⟩
    · cases h
  · rintro ⟨⟨h1, h2, h3, h4⟩, h5⟩
    exact ⟨x.1.toNat, by omega, x.2.toNat, by omega, by rw [if_pos h5]; exact congrArg some (Prod.ext (by dsimp only; omega) (by dsimp only; omega))⟩
theorem Box.orow_len (B : Box) (r : Nat) : (B.orow r).length ≤ B.w := by
  unfold Box.orow
  exact Nat.le_trans (List.length_filterMap_le _ _) (by simp)
theorem Box.opens_lt (B : Box) : Lt B.opens := by
  unfold Box.opens
  refine lt_flat (fun r => ?_) (fun r x hx => ?_) _ List.pairwise_lt_range
  · unfold Box.orow
    refine List.Pairwise.filterMap (R := fun a b : Nat => a < b) _ (fun a a' hlt b hb b' hb' => ?_) List.pairwise_lt_range
    split at hb
    · split at hb'
      · cases hb; cases hb'
        unfold ltC; dsimp only; omega
      · cases hb'
    · cases hb
  · unfold Box.orow at hx
    obtain ⟨c, _, hc⟩ := List.mem_filterMap.mp hx
    split at hc
    · cases hc; rfl
    · cases hc
theorem Box.opens_len (B : Box) : B.opens.length ≤ B.h * B.w := by
  have := flat_len B.orow B.w B.orow_len (List.range B.h)
  rw [List.length_range] at this
  exact this
/-- the places near a cell -/
def nearP (r c : Int) : List Cell := (List.range 3).flatMap fun i : Nat => (List.range 3).map fun j : Nat => (r - 1 + (i : Int), c - 1 + (j : Int))
theorem mem_nearP {r c : Int} {x : Cell} : x ∈ nearP r c ↔ r - 1 ≤ x.1 ∧ x.1 ≤ r + 1 ∧ c - 1 ≤ x.2 ∧ x.2 ≤ c + 1 := by
  unfold nearP
  simp only [List.mem_flatMap, List.mem_range, List.mem_map]
  constructor
  · rintro ⟨i, hi, j, hj, rfl⟩
    dsimp only
    omega
  · rintro ⟨h1, h2, h3, h4⟩
    exact ⟨(x.1 - (r - 1)).toNat, by omega, (x.2 - (c - 1)).toNat, by omega, Prod.ext (by dsimp only; omega) (by dsimp only; omega)⟩
end M

/-! M7: the search for stills. -/
namespace M
open PySem PyProof.Rows L2 J
theorem putC_put (f : Cas) (r c : Int) (a b : Bool) : putC (putC f r c a) r c b = putC f r c b := by
  funext r' c'
  unfold putC
  by_cases h : r' = r ∧ c' = c
  · rw [if_pos h, if_pos h]
  · rw [if_neg h, if_neg h, if_neg h]
theorem delC_put (f : Cas) (r c : Int) (b : Bool) : delC (putC f r c b) r c = delC f r c := by
  funext r' c'
  unfold delC putC
  by_cases h : r' = r ∧ c' = c
  · rw [if_pos h, if_pos h]
  · rw [if_neg h, if_neg h, if_neg h]
theorem delC_no {f : Cas} {r c : Int} (h : f r c = none) : delC f r c = f := by
  funext r' c'
  unfold delC
  by_cases e : r' = r ∧ c' = c
  · rw [if_pos e, e.1, e.2, h]
  · rw [if_neg e]
/-- what lies far away does not change a place -/
theorem ar8_bd {d : Int × Int} (h : d ∈ ar8) : 0 ≤ d.1 ∧ d.1 ≤ 2 ∧ 0 ≤ d.2 ∧ d.2 ≤ 2 := by
  unfold ar8 at h
  simp only [List.mem_cons, List.not_mem_nil, or_false] at h
  rcases h with rfl | rfl | rfl | rfl | rfl | rfl | rfl | rfl <;> decide
theorem pf_ext {B : Box} {f g : Cas} {bs ss : List Int} {r c : Int} (h : ∀ r' c', r - 1 ≤ r' → r' ≤ r + 1 → c - 1 ≤ c' → c' ≤ c + 1 → said B f r' c' = said B g r' c') : pf B f bs ss r c ↔ pf B g bs ss r c := by
  have hn : ∀ x, nS B f r c x = nS B g r c x := fun x => by
    unfold nS
    congr 1
    refine List.filter_congr fun d hd => ?_
    have := ar8_bd hd
    rw [h _ _ (by omega) (by omega) (by omega) (by omega)]
  unfold pf okv
  simp only [hn, h r c (by omega) (by omega) (by omega) (by omega)]
theorem pf_far {B : Box} {f : Cas} {bs ss : List Int} {r0 c0 r c : Int} {v : Bool} (h : ((r, c) : Cell) ∉ nearP r0 c0) : pf B (putC f r0 c0 v) bs ss r c ↔ pf B f bs ss r c := by
  refine pf_ext fun r' c' h1 h2 h3 h4 => ?_
  rw [said_put, if_neg]
  rintro ⟨_, rfl, rfl⟩
  refine h (mem_nearP.mpr ?_)
  dsimp only
  omega
/-- the search at its k-th open cell -/
structure SsOk (B : Box) (f : Cas) (bs ss : List Int) (ps : List (Cell × Bool)) (k : Nat) : Prop where
  cr : CaseR f (ps.map cbK)
  len : ps.length ≤ k
  le : k ≤ B.opens.length
  as_ : ∀ (i : Nat) (c : Cell), B.opens[i]? = some c → (f c.1 c.2 ≠ none ↔ i < k)
  on : ∀ r c : Int, f r c ≠ none → ((r, c) : Cell) ∈ B.opens
  nf : ∀ c ∈ B.places, ¬ pf B f bs ss c.1 c.2
theorem SsOk.none {B : Box} {f : Cas} {bs ss : List Int} {ps : List (Cell × Bool)} {k : Nat} (h : SsOk B f bs ss ps k) {c : Cell} (hc : B.opens[k]? = some c) : f c.1 c.2 = none := by
  cases e : f c.1 c.2 with
  | none => rfl
  | some b => exact absurd ((h.as_ k c hc).mp (by rw [e]; simp)) (Nat.lt_irrefl _)
theorem SsOk.said {B : Box} {f : Cas} {bs ss : List Int} {ps : List (Cell × Bool)} {k : Nat} (h : SsOk B f bs ss ps k) {c : Cell} (hc : B.opens[k]? = some c) : M.said B f c.1 c.2 = .none := by
  have hm := (B.mem_opens c).mp (List.mem_of_getElem? hc)
  unfold M.said
  rw [if_pos hm.1, h.none hc]
  dsimp only
  rw [if_pos hm.2]
/-- one cell more -/
theorem SsOk.step {B : Box} {f : Cas} {bs ss : List Int} {ps ps2 : List (Cell × Bool)} {k : Nat} (h : SsOk B f bs ss ps k) {c : Cell} (hc : B.opens[k]? = some c) {v : Bool} (cr : CaseR (putC f c.1 c.2 v) (ps2.map cbK)) (len : ps2.length ≤ k + 1) (nf : ∀ x ∈ nearP c.1 c.2, ¬ pf B (putC f c.1 c.2 v) bs ss x.1 x.2) : SsOk B (putC f c.1 c.2 v) bs ss ps2 (k + 1) := by
  have hk : k < B.opens.length := (List.getElem?_eq_some_iff.mp hc).1
  refine ⟨cr, len, hk, fun i x hx => ?_, fun r' c' e => ?_, fun x hx => ?_⟩
  · unfold putC
    by_cases e : x.1 = c.1 ∧ x.2 = c.2
    · rw [if_pos e]
      have ex : x = c := Prod.ext e.1 e.2
      subst ex
      have ei : i = k := by
        have nd := lt_nodup B.opens_lt
        have hi : i < B.opens.length := (List.getElem?_eq_some_iff.mp hx).1
        exact (List.getElem?_inj hi nd).mp (hx.trans hc.symm)
      simp [ei]
    · rw [if_neg e, h.as_ i x hx]
      have ne : i ≠ k := fun z => by
        subst z
        rw [hc] at hx
        cases hx
        exact e ⟨rfl, rfl⟩
      omega
  · unfold putC at e
    by_cases z : r' = c.1 ∧ c' = c.2
    · rw [z.1, z.2]; exact List.mem_of_getElem? hc
    · rw [if_neg z] at e; exact h.on _ _ e
  · by_cases hn : x ∈ nearP c.1 c.2
    · exact nf x hn
    · rw [pf_far (r := x.1) (c := x.2) hn]
      exact h.nf x hx
/-- the table's length -/
theorem gP_len_in {κ α : Type} [DecidableEq κ] {kvs : List (κ × α)} {k : κ} {v : α} (h : (gV kvs k).isSome = true) : (gP kvs k v).length = kvs.length := by
  unfold gP
  rw [if_pos h, List.length_map]
theorem filt_len {κ α : Type} [DecidableEq κ] : ∀ {kvs : List (κ × α)} {k : κ}, (gV kvs k).isSome = true → (kvs.filter fun kv => decide (kv.1 ≠ k)).length + 1 ≤ kvs.length
  | [], k, h => by simp [gV] at h
  | a :: r, k, h => by
    by_cases e : a.1 = k
    · rw [List.filter_cons_of_neg (by simpa using e)]
      have := List.length_filter_le (fun kv : κ × α => decide (kv.1 ≠ k)) r
      simp only [List.length_cons]; omega
    · rw [gV_cons, if_neg e] at h
      have ih := filt_len h
      rw [List.filter_cons_of_pos (by simpa using e)]
      simp only [List.length_cons]; omega
theorem del_pairs (ps : List (Cell × Bool)) (r c : Int) : ∃ ps2 : List (Cell × Bool), ((ps.map cbK).filter fun kv => decide (kv.1 ≠ [.inl r, .inl c])) = ps2.map cbK := by
  obtain ⟨ps2, e⟩ := caseR_pairs (kvs := (ps.map cbK).filter fun kv => decide (kv.1 ≠ [.inl r, .inl c])) fun kv h => by
    obtain ⟨h1, _⟩ := List.mem_filter.mp h
    obtain ⟨p, _, rfl⟩ := List.mem_map.mp h1
    exact ⟨p.1, p.2, rfl⟩
  exact ⟨ps2, e⟩
theorem putC_at (f : Cas) (r c : Int) (b : Bool) : putC f r c b r c = some b := by unfold putC; rw [if_pos ⟨rfl, rfl⟩]
/-- the end: a whole case that meets the wishes -/
structure SsEnd (B : Box) (g : Cas) (bs ss : List Int) : Prop where
  all : ∀ c ∈ B.opens, g c.1 c.2 ≠ none
  on : ∀ r c : Int, g r c ≠ none → ((r, c) : Cell) ∈ B.opens
  nf : ∀ c ∈ B.places, ¬ pf B g bs ss c.1 c.2
theorem SsOk.fin {B : Box} {f : Cas} {bs ss : List Int} {ps : List (Cell × Bool)} {k : Nat} (h : SsOk B f bs ss ps k) (hk : k = B.opens.length) : SsEnd B f bs ss := by
  refine ⟨fun c hc => ?_, h.on, h.nf⟩
  obtain ⟨i, hi⟩ := List.mem_iff_getElem?.mp hc
  have := (List.getElem?_eq_some_iff.mp hi).1
  exact (h.as_ i c hi).mpr (by omega)
theorem SsEnd.said {B : Box} (hok : B.ok) {g : Cas} {bs ss : List Int} (h : SsEnd B g bs ss) (r c : Int) : ∃ b, M.said B g r c = some b := by
  unfold M.said
  by_cases hi : B.inn r c
  · rw [if_pos hi]
    cases e : g r c with
    | some b => exact ⟨b, rfl⟩
    | none =>
      dsimp only
      by_cases hq : B.sg r c = 63
      · exact absurd e (h.all (r, c) ((B.mem_opens (r, c)).mpr ⟨hi, hq⟩))
      · exact ⟨_, if_neg hq⟩
  · exact ⟨false, if_neg hi⟩
/-- the picture that the case tells -/
theorem SsEnd.pic_said {B : Box} (hok : B.ok) {g : Cas} {bs ss : List Int} (h : SsEnd B g bs ss) (r c : Int) : M.said (B.pic g) noC r c = M.said B g r c := by
  obtain ⟨b, hb⟩ := h.said hok r c
  rw [hb]
  unfold M.said noC
  by_cases hi : B.inn r c
  · rw [if_pos (show (B.pic g).inn r c from hi)]
    dsimp only
    have e : (B.pic g).sg r c = if M.said B g r c = some true then 79 else 46 := by
      show (if M.said B g (r.toNat : Int) (c.toNat : Int) = some true then 79 else 46) = _
      unfold Box.inn at hi
      rw [show ((r.toNat : Nat) : Int) = r by omega, show ((c.toNat : Nat) : Int) = c by omega]
    rw [e, hb]
    cases b <;> simp
  · rw [if_neg (show ¬ (B.pic g).inn r c from hi)]
    unfold M.said at hb
    rw [if_neg hi] at hb
    exact hb
theorem pf_said {B P : Box} {f g : Cas} {bs ss : List Int} (h : ∀ r c, said B f r c = said P g r c) (r c : Int) : pf B f bs ss r c ↔ pf P g bs ss r c := by
  unfold pf okv nS
  simp only [h]
theorem SsEnd.still {B : Box} (hok : B.ok) {g : Cas} {bs ss : List Int} (h : SsEnd B g bs ss) (hb : ∀ b ∈ bs, 1 ≤ b) : nxt (B.pic g).alive bs ss = (B.pic g).alive :=
  (still_iff (B.pic_full g) hb).mp fun c hc z => h.nf c hc ((pf_said (fun r c => h.pic_said hok r c) _ _).mp z)
theorem SsEnd.meets {B : Box} (hok : B.ok) {g : Cas} {bs ss : List Int} (h : SsEnd B g bs ss) : meets B (B.pic g) := by
  refine ⟨rfl, rfl, fun r c hr hc => ?_⟩
  rcases hok r c hr hc with h1 | h1
  · exact .inl h1
  · right
    show (if M.said B g (r : Int) (c : Int) = some true then 79 else 46) = B.g r c
    have hi : B.inn (r : Int) (c : Int) := by unfold Box.inn; omega
    have hs : B.sg (r : Int) (c : Int) = B.g r c := by simp [Box.sg]
    have hg : g (r : Int) (c : Int) = none := by
      cases e : g (r : Int) (c : Int) with
      | none => rfl
      | some b =>
        have := ((B.mem_opens ((r : Int), (c : Int))).mp (h.on _ _ (by rw [e]; simp))).2
        rw [hs] at this; omega
    unfold M.said
    rw [if_pos hi, hg]
    dsimp only
    rw [hs, if_neg (show ¬ B.g r c = 63 by omega)]
    rcases h1 with h1 | h1 <;> rw [h1] <;> simp
end M
namespace M
open PySem PyProof.Rows L2 J
theorem Box.fill_full {B : Box} (h : B.ok) {x : Nat} (hx : x = 46 ∨ x = 79) : (B.fill x).full := fun r c h1 h2 => by
  have e : (B.fill x).g r c = if B.g r c = 63 then x else B.g r c := rfl
  rw [e]
  split
  · exact hx
  · rcases h r c h1 h2 with z | z
    · exact absurd z (by assumption)
    · exact z
theorem Box.fill_meets (B : Box) (x : Nat) : meets B (B.fill x) := ⟨rfl, rfl, fun r c h1 h2 => by
  have e : (B.fill x).g r c = if B.g r c = 63 then x else B.g r c := rfl
  by_cases z : B.g r c = 63
  · exact .inl z
  · right; rw [e, if_neg z]⟩
theorem Box.fill_rws (B : Box) (x : Nat) : (B.fill x).rws = B.rws.map fun a => Txt.replace a (Str.ofString "?") (chr x) := by
  unfold Box.rws
  rw [List.map_map]
  refine List.map_congr_left fun r _ => ?_
  exact B.fill_row x r
theorem Den.bd_mono {m n : Int} (h : m ≤ n) : ∀ {d : Den}, d.bd m → d.bd n
  | .fails r c, z => by
    have z : -m ≤ r ∧ r ≤ m ∧ -m ≤ c ∧ c ≤ m := z
    exact ⟨by omega, by omega, by omega, by omega⟩
  | .cell r c a b, z => by
    have z : (-m ≤ r ∧ r ≤ m ∧ -m ≤ c ∧ c ≤ m) ∧ a.bd m ∧ b.bd m := z
    exact ⟨⟨by omega, by omega, by omega, by omega⟩, Den.bd_mono h z.2.1, Den.bd_mono h z.2.2⟩
end M
namespace M
open PySem PyProof.Rows L2 J
/-- leaves at places of the box, cells in it -/
def Den.inB (B : Box) : Den → Prop
  | .fails r c => -1 ≤ r ∧ r ≤ B.h ∧ -1 ≤ c ∧ c ≤ B.w
  | .cell r c a b => (0 ≤ r ∧ r < B.h ∧ 0 ≤ c ∧ c < B.w) ∧ a.inB B ∧ b.inB B
theorem Den.inB_bd {B : Box} {m : Int} (hh : (B.h : Int) ≤ m) (hw : (B.w : Int) ≤ m) (hm : 1 ≤ m) : ∀ {d : Den}, d.inB B → d.bd m
  | .fails r c, z => by
    have z : -1 ≤ r ∧ r ≤ B.h ∧ -1 ≤ c ∧ c ≤ B.w := z
    exact ⟨by omega, by omega, by omega, by omega⟩
  | .cell r c a b, z => by
    have z : (0 ≤ r ∧ r < B.h ∧ 0 ≤ c ∧ c < B.w) ∧ a.inB B ∧ b.inB B := z
    exact ⟨⟨by omega, by omega, by omega, by omega⟩, Den.inB_bd hh hw hm z.2.1, Den.inB_bd hh hw hm z.2.2⟩
/-! ### all pictures tried -/
/-- all open cells told, no other -/
structure Whole (B : Box) (g : Cas) : Prop where
  all : ∀ c ∈ B.opens, g c.1 c.2 ≠ none
  on : ∀ r c : Int, g r c ≠ none → ((r, c) : Cell) ∈ B.opens
theorem Whole.ends {B : Box} {g : Cas} (h : Whole B g) {bs ss : List Int} (nf : ∀ c ∈ B.places, ¬ pf B g bs ss c.1 c.2) : SsEnd B g bs ss := ⟨h.all, h.on, nf⟩
theorem Whole.meets {B : Box} (hok : B.ok) {g : Cas} (h : Whole B g) : meets B (B.pic g) := by
  refine ⟨rfl, rfl, fun r c hr hc => ?_⟩
  rcases hok r c hr hc with h1 | h1
  · exact .inl h1
  · right
    show (if M.said B g (r : Int) (c : Int) = some true then 79 else 46) = B.g r c
    have hi : B.inn (r : Int) (c : Int) := by unfold Box.inn; omega
    have hs : B.sg (r : Int) (c : Int) = B.g r c := by simp [Box.sg]
    have hg : g (r : Int) (c : Int) = none := by
      cases e : g (r : Int) (c : Int) with
      | none => rfl
      | some b =>
        have := ((B.mem_opens ((r : Int), (c : Int))).mp (h.on _ _ (by rw [e]; simp))).2
        rw [hs] at this; omega
    unfold M.said
    rw [if_pos hi, hg]
    dsimp only
    rw [hs, if_neg (show ¬ B.g r c = 63 by omega)]
    rcases h1 with h1 | h1 <;> rw [h1] <;> simp
/-- the case that a number tells -/
def numC (B : Box) (n : Nat) : Nat → Cas
  | 0 => noC
  | k + 1 => putC (numC B n k) (B.opens.getD k (0, 0)).1 (B.opens.getD k (0, 0)).2 (bit n k)
theorem opens_getD {B : Box} {k : Nat} (hk : k < B.opens.length) : B.opens[k]? = some (B.opens.getD k (0, 0)) := by
  rw [List.getD_eq_getElem?_getD, List.getElem?_eq_getElem hk]; rfl
theorem numC_on {B : Box} {n : Nat} : ∀ {k : Nat}, k ≤ B.opens.length → ∀ r c : Int, numC B n k r c ≠ none → ((r, c) : Cell) ∈ B.opens
  | 0, _, r, c, h => absurd rfl h
  | k + 1, hk, r, c, h => by
    unfold numC putC at h
    split at h
    · rename_i e
      have := List.mem_of_getElem? (opens_getD (B := B) (k := k) (by omega))
      rw [e.1, e.2]; exact this
    · exact numC_on (by omega) r c h
theorem numC_at {B : Box} {n : Nat} : ∀ {k : Nat}, k ≤ B.opens.length → ∀ (i : Nat) (c : Cell), i < k → B.opens[i]? = some c → numC B n k c.1 c.2 = some (bit n i)
  | 0, _, i, c, h, _ => by omega
  | k + 1, hk, i, c, h, hc => by
    unfold numC putC
    have hk2 := opens_getD (B := B) (k := k) (by omega)
    by_cases e : i = k
    · subst e
      rw [hc] at hk2
      rw [if_pos]
      have := Option.some.inj hk2
      rw [← this]; exact ⟨rfl, rfl⟩
    · rw [if_neg]
      · exact numC_at (by omega) i c (by omega) hc
      · rintro ⟨e1, e2⟩
        have ec : c = B.opens.getD k (0, 0) := Prod.ext e1 e2
        rw [← ec] at hk2
        exact e ((List.getElem?_inj (List.getElem?_eq_some_iff.mp hc).1 (lt_nodup B.opens_lt)).mp (hc.trans hk2.symm))
theorem numC_whole (B : Box) (n : Nat) : Whole B (numC B n B.opens.length) :=
  ⟨fun c hc => by
    obtain ⟨i, hi⟩ := List.mem_iff_getElem?.mp hc
    rw [numC_at (Nat.le_refl _) i c (List.getElem?_eq_some_iff.mp hi).1 hi]; simp, fun r c h => numC_on (Nat.le_refl _) r c h⟩
theorem sg_pic {B : Box} {g : Cas} {r c : Int} (hi : B.inn r c) : (B.pic g).sg r c = if said B g r c = some true then 79 else 46 := by
  show (if M.said B g (r.toNat : Int) (c.toNat : Int) = some true then 79 else 46) = _
  unfold Box.inn at hi
  rw [show ((r.toNat : Nat) : Int) = r by omega, show ((c.toNat : Nat) : Int) = c by omega]
theorem alive_pic {B : Box} {g : Cas} {r c : Int} : ((r, c) : Cell) ∈ (B.pic g).alive ↔ B.inn r c ∧ said B g r c = some true := by
  rw [Box.mem_alive]
  constructor
  · rintro ⟨h1, h2⟩
    have h1 : B.inn r c := h1
    rw [sg_pic h1] at h2
    refine ⟨h1, ?_⟩
    split at h2
    · assumption
    · omega
  · rintro ⟨h1, h2⟩
    exact ⟨h1, by rw [sg_pic h1, if_pos h2]⟩
theorem pic_is {B P : Box} (hok : B.ok) (hP : P.full) (hm : meets B P) {g : Cas} (h : Whole B g) (hg : ∀ c ∈ B.opens, g c.1 c.2 = some (decide (P.sg c.1 c.2 = 79))) : (B.pic g).alive = P.alive := by
  refine lt_ext (Box.alive_lt _) P.alive_lt fun x => ?_
  obtain ⟨r, c⟩ := x
  rw [alive_pic, Box.mem_alive]
  have hin : P.inn r c ↔ B.inn r c := by unfold Box.inn; rw [hm.1, hm.2.1]
  rw [hin]
  refine and_congr_right fun hi => ?_
  have hi2 := hi
  unfold Box.inn at hi2
  have z := hm.2.2 r.toNat c.toNat (by omega) (by omega)
  have z : B.sg r c = 63 ∨ P.sg r c = B.sg r c := z
  have zo : B.sg r c = 63 ∨ B.sg r c = 46 ∨ B.sg r c = 79 := hok r.toNat c.toNat (by omega) (by omega)
  unfold said
  rw [if_pos hi]
  by_cases hq : B.sg r c = 63
  · have hc : ((r, c) : Cell) ∈ B.opens := (B.mem_opens (r, c)).mpr ⟨hi, hq⟩
    have := hg (r, c) hc
    dsimp only at this
    rw [this]
    simp
  · have hn : g r c = none := by
      cases e : g r c with
      | none => rfl
      | some b => exact absurd ((B.mem_opens (r, c)).mp (h.on r c (by rw [e]; simp))).2 hq
    rw [hn]
    dsimp only
    rw [if_neg hq]
    rcases z with z | z
    · exact absurd z hq
    · rw [z]; simp
/-- all pictures of the box tried -/
theorem any_iff {B : Box} (hok : B.ok) (bs ss : List Int) : (∃ n : Nat, n < 2 ^ B.opens.length ∧ nxt (B.pic (numC B n B.opens.length)).alive bs ss = (B.pic (numC B n B.opens.length)).alive) ↔ ∃ P : Box, P.full ∧ meets B P ∧ nxt P.alive bs ss = P.alive := by
  constructor
  · rintro ⟨n, _, h⟩
    exact ⟨_, B.pic_full _, (numC_whole B n).meets hok, h⟩
  · rintro ⟨P, h1, h2, h3⟩
    obtain ⟨n, hn, hb⟩ := bits_num (B.opens.map fun c => decide (P.sg c.1 c.2 = 79))
    rw [List.length_map] at hn
    refine ⟨n, hn, ?_⟩
    rw [pic_is hok h1 h2 (numC_whole B n) fun c hc => ?_]
    · exact h3
    · obtain ⟨i, hi⟩ := List.mem_iff_getElem?.mp hc
      rw [numC_at (Nat.le_refl _) i c (List.getElem?_eq_some_iff.mp hi).1 hi, hb i _ (by rw [List.getElem?_map, hi]; rfl)]
/-- the living cells of a row of a picture -/
theorem arow_pic (B : Box) (g : Cas) (r : Nat) : (B.pic g).arow r = (List.range B.w).filterMap fun c : Nat => if num (said B g (r : Int) (c : Int)) = 1 then some (((r : Int), (c : Int)) : Cell) else none := by
  unfold Box.arow
  refine congrArg (fun f => (List.range B.w).filterMap f) (funext fun c => ?_)
  have e : (B.pic g).g r c = if said B g (r : Int) (c : Int) = some true then 79 else 46 := rfl
  rw [e]
  cases said B g (r : Int) (c : Int) with
  | none => simp [num]
  | some b => cases b <;> simp [num]
end M
namespace M
theorem bit_int2 (i k : Nat) : decide ((0 + (i : Int)) / (1 * 2 ^ (0 + (k : Int)).toNat) % 2 = 1) = bit i k := by
  have e1 : (0 + (k : Int)).toNat = k := by omega
  have e2 : (2 : Int) ^ k = ((2 ^ k : Nat) : Int) := by push_cast; rfl
  rw [e1, e2, Int.zero_add, Int.one_mul, ← Int.natCast_ediv]
  unfold bit
  exact decide_eq_decide.mpr (by omega)
end M
namespace M
open PySem PyProof.Rows L2 J
theorem row_ok {B : Box} (hok : B.ok) {r : Nat} (hr : r < B.h) : PyData.strOk (B.row r) = true := by
  unfold PyData.strOk Box.row
  simp
  intro x hx
  have := hok r x hr hx
  omega
theorem rws_shape {B : Box} (hok : B.ok) : SeqAt.shaped (.list (B.rws.map PyData.str)) = true := list_shape fun d hd => by
  obtain ⟨x, hx, rfl⟩ := List.mem_map.mp hd
  obtain ⟨i, hi⟩ := List.mem_iff_getElem?.mp hx
  obtain ⟨h1, rfl⟩ := B.rws_get hi
  exact ⟨by simp [PyData.canLay0, row_ok hok h1], by simp [PyData.depth]⟩
theorem rws_refl (B : Box) : PyData.eqv (.list (B.rws.map PyData.str)) (.list (B.rws.map PyData.str)) = true := list_refl fun d hd => by
  obtain ⟨x, _, rfl⟩ := List.mem_map.mp hd
  simp [PySem.W.alike]
end M
namespace M
open PySem PyProof.Rows L2 J
theorem in_dotO {v : Nat} (h : v = 46 ∨ v = 79) : true = !(Builtin.Str.occurrences (Str.ofString ".O") ⟨#[v]⟩ 0 (Str.ofString ".O").length 1).isEmpty := by
  rcases h with rfl | rfl <;> decide +kernel
theorem one_shape {v : Nat} (h : v < 1114112) : SeqAt.shaped (.str ⟨#[v]⟩) = true := by
  simp [SeqAt.shaped, PyData.canLay0, PyData.strOk, PyData.depth, h]
theorem two_shape {v w : Nat} (h : v < 1114112) (h2 : w < 1114112) : SeqAt.shaped (.list [.str ⟨#[v]⟩, .str ⟨#[w]⟩]) = true := by
  simp [SeqAt.shaped, PyData.canLay0, PyData.canLayAll0, PyData.strOk, PyData.depth, PyData.depthAll, h, h2]
theorem in_two {u v : Nat} (h : u = 63 ∨ v = u) : true = ([PyData.str ⟨#[63]⟩, PyData.str ⟨#[v]⟩].any fun z => PyData.eqv z (.str ⟨#[u]⟩)) := by
  rcases h with rfl | rfl <;> simp [PyData.eqv]
end M

/-! M8: pasts of targets. -/
namespace M
open PySem PyProof.Rows L2 J
/-- how many about a target's cell are said so -/
def nP (f : Cas) (r c : Int) (x : Option Bool) : Nat := (ar8.filter fun d => decide (f (r + d.1) (c + d.2) = x)).length
theorem nP_le (f : Cas) (r c : Int) (x : Option Bool) : nP f r c x ≤ 8 := by
  unfold nP
  exact Nat.le_trans (List.length_filter_le _ _) (by decide)
def wan (T : Box) (r c : Int) : Bool := decide (T.sg r c = 79)
def okp (T : Box) (f : Cas) (bs ss : List Int) (r c : Int) (v : Bool) : Prop := (f (r + 1) (c + 1) = none ∨ f (r + 1) (c + 1) = some v) ∧ ∃ k : Nat, k ≤ nP f r c none ∧ lv bs ss v ((nP f r c (some true) : Int) + (k : Int)) = wan T r c
/-- a cell of the target fails in a case -/
def pfl (T : Box) (f : Cas) (bs ss : List Int) (r c : Int) : Prop := ¬ ∃ v, okp T f bs ss r c v
theorem pfl_same {bs ss bs' ss' : List Int} (h1 : SameS bs bs') (h2 : SameS ss ss') (T : Box) (f : Cas) (r c : Int) : pfl T f bs' ss' r c ↔ pfl T f bs ss r c := by
  unfold pfl okp
  simp only [lvS_same h1 h2]
abbrev sdC : Cas → Int → Int → Option Bool := fun f r c => f r c
theorem holdP_same {T : Box} {bs ss bs' ss' : List Int} (h1 : SameS bs bs') (h2 : SameS ss ss') : ∀ (d : Den) (f : Cas), hold (pfl T · bs' ss') sdC d f ↔ hold (pfl T · bs ss) sdC d f
  | .fails r c, f => pfl_same h1 h2 T f r c
  | .cell r c a b, f => by
    unfold hold
    split
    · exact holdP_same h1 h2 b f
    · exact holdP_same h1 h2 a f
    · rw [holdP_same h1 h2 a, holdP_same h1 h2 b]
/-- leaves at cells of the target, cells of the past -/
def Den.inT (T : Box) : Den → Prop
  | .fails r c => 0 ≤ r ∧ r < T.h ∧ 0 ≤ c ∧ c < T.w
  | .cell r c a b => (0 ≤ r ∧ r < T.h + 2 ∧ 0 ≤ c ∧ c < T.w + 2) ∧ a.inT T ∧ b.inT T
/-- a case that a set of living cells agrees with -/
def agL (f : Cas) (A : List Cell) : Prop := ∀ r c b, f r c = some b → b = decide (((r, c) : Cell) ∈ A)
theorem agL_no (A : List Cell) : agL noC A := fun r c b h => nomatch h
theorem agL_put {f : Cas} {A : List Cell} (h : agL f A) {r c : Int} {b : Bool} (e : b = decide (((r, c) : Cell) ∈ A)) : agL (putC f r c b) A := fun r' c' b' h' => by
  unfold putC at h'
  split at h'
  · rename_i z
    cases h'
    rw [z.1, z.2]; exact e
  · exact h _ _ _ h'
/-- the living cells about a target's cell -/
theorem cnt_nP {A : List Cell} (hA : A.Nodup) (r c : Int) : cnt A (r + 1, c + 1) = (ar8.filter fun d => decide (((r + d.1, c + d.2) : Cell) ∈ A)).length := by
  rw [cnt_ar8 hA]
  congr 1
  refine List.filter_congr fun d _ => ?_
  rw [show (r + 1 + d.1 - 1 : Int) = r + d.1 by omega, show (c + 1 + d.2 - 1 : Int) = c + d.2 by omega]
theorem pfl_agL {T : Box} {f : Cas} {A : List Cell} (hA : A.Nodup) (h : agL f A) {bs ss : List Int} {r c : Int} (hp : pfl T f bs ss r c) : lv bs ss (decide (((r + 1, c + 1) : Cell) ∈ A)) (cnt A (r + 1, c + 1)) ≠ wan T r c := by
  intro e
  refine hp ⟨decide (((r + 1, c + 1) : Cell) ∈ A), ?_, ?_⟩
  · cases e2 : f (r + 1) (c + 1) with
    | none => exact .inl rfl
    | some b => exact .inr (by rw [h _ _ _ e2])
  · have sp := filt_split (fun d : Int × Int => decide (((r + d.1, c + d.2) : Cell) ∈ A)) (fun d => decide (f (r + d.1) (c + d.2) = some true)) (fun d hd => by
      have := h _ _ _ (of_decide_eq_true hd)
      exact this.symm) ar8
    have le : (ar8.filter fun d => decide (((r + d.1, c + d.2) : Cell) ∈ A) && !decide (f (r + d.1) (c + d.2) = some true)).length ≤ nP f r c none := by
      unfold nP
      refine filt_le ?_ _
      intro d hd
      simp only [Bool.and_eq_true, decide_eq_true_eq, Bool.not_eq_true', decide_eq_false_iff_not] at hd
      refine decide_eq_true ?_
      cases e2 : f (r + d.1) (c + d.2) with
      | none => rfl
      | some b =>
        have e3 := h _ _ _ e2
        cases b with
        | true => exact absurd e2 hd.2
        | false => exact absurd hd.1 (of_decide_eq_false e3.symm)
    refine ⟨_, le, ?_⟩
    rw [cnt_nP hA, sp] at e
    have e4 : nP f r c (some true) = (ar8.filter fun d => decide (f (r + d.1) (c + d.2) = some true)).length := rfl
    rw [e4]
    push_cast at e ⊢
    exact e
/-- a denial that holds: some cell of the target is another in the next generation -/
theorem holdP_sound {T : Box} {A : List Cell} (hA : A.Nodup) {bs ss : List Int} : ∀ (d : Den) (f : Cas), d.inT T → agL f A → hold (pfl T · bs ss) sdC d f → ∃ r c : Int, (0 ≤ r ∧ r < T.h ∧ 0 ≤ c ∧ c < T.w) ∧ lv bs ss (decide (((r + 1, c + 1) : Cell) ∈ A)) (cnt A (r + 1, c + 1)) ≠ wan T r c
  | .fails r c, f, hi, h, hh => ⟨r, c, hi, pfl_agL hA h hh⟩
  | .cell r c a b, f, hi, h, hh => by
    have hi : (0 ≤ r ∧ r < T.h + 2 ∧ 0 ≤ c ∧ c < T.w + 2) ∧ a.inT T ∧ b.inT T := hi
    unfold hold at hh
    split at hh
    · exact holdP_sound hA b f hi.2.2 h hh
    · exact holdP_sound hA a f hi.2.1 h hh
    · cases hv : decide (((r, c) : Cell) ∈ A) with
      | true => exact holdP_sound hA b _ hi.2.2 (agL_put h hv.symm) hh.2
      | false => exact holdP_sound hA a _ hi.2.1 (agL_put h hv.symm) hh.1
/-- .. and no target that the next generation shows is denied -/
def shows (T : Box) (A : List Cell) (bs ss : List Int) : Prop := ∀ r c : Int, 0 ≤ r → r < T.h → 0 ≤ c → c < T.w → (((r + 1, c + 1) : Cell) ∈ nxt A bs ss ↔ T.sg r c = 79)
theorem lv_nxt {A : List Cell} {bs ss : List Int} (hb : ∀ b ∈ bs, 1 ≤ b) (x : Cell) : decide (x ∈ nxt A bs ss) = lv bs ss (decide (x ∈ ddp A)) (cnt (ddp A) x) := by
  have e : decide (x ∈ nxt A bs ss) = lvN (ddp A) bs ss x := by
    cases h : lvN (ddp A) bs ss x with
    | true => exact decide_eq_true (nxt_mem.mpr h)
    | false => exact decide_eq_false fun z => by rw [nxt_mem.mp z] at h; cases h
  rw [e]
  unfold lvN
  by_cases hx : x ∈ ddp A
  · simp [hx]
  · by_cases h0 : cnt (ddp A) x = 0
    · have : lv bs ss false (0 : Int) = false := by
        unfold lv
        rw [if_neg (by decide)]
        exact decide_eq_false fun z => by have := hb _ z; omega
      simp [hx, h0, this]
    · have h1 : 1 ≤ cnt (ddp A) x := by omega
      simp [hx, h1]
theorem denyP_sound {T : Box} {A : List Cell} {bs ss : List Int} (hb : ∀ b ∈ bs, 1 ≤ b) (hs : shows T A bs ss) {d : Den} (hi : d.inT T) (hd : hold (pfl T · bs ss) sdC d noC) : False := by
  obtain ⟨r, c, ⟨h1, h2, h3, h4⟩, hn⟩ := holdP_sound (ddp_nodup A) d noC hi (agL_no _) hd
  have z := hs r c h1 h2 h3 h4
  rw [← lv_nxt hb] at hn
  exact hn (decide_eq_decide.mpr z)
end M
namespace M
open PySem PyProof.Rows L2 J
theorem ar8_next {i : Nat} {d : Int × Int} (h : ar8[i]? = some d) (P : Int × Int → Bool) : ((ar8.take (i + 1)).filter P).length = ((ar8.take i).filter P).length + (if P d = true then 1 else 0) := by
  rw [List.take_add_one, h, List.filter_append, List.length_append]
  cases e : P d <;> simp [e]
/-- a case that stays a table of pairs: what is got -/
theorem caseR_is {f : Cas} {kvs : List (List Key × J.D)} (h : CaseR f kvs) (r c : Int) : (gV kvs [.inl r, .inl c]).isSome = (f r c).isSome := by
  rw [h r c]; cases f r c <;> rfl
end M
namespace M
open PySem PyProof.Rows L2 J
/-- the i-th cell of a past of width w -/
def plc (w i : Nat) : Cell := (((i / w : Nat) : Int), ((i % w : Nat) : Int))
theorem plc_inj {w i j : Nat} (h : plc w i = plc w j) : i = j := by
  unfold plc at h
  have h1 := congrArg Prod.fst h
  have h2 := congrArg Prod.snd h
  simp only [Int.natCast_inj] at h1 h2
  rw [← Nat.div_add_mod i w, ← Nat.div_add_mod j w, h1, h2]
theorem plc_of {w : Nat} {r c : Nat} (h : c < w) : plc w (r * w + c) = ((r : Int), (c : Int)) := by
  have h0 : 0 < w := by omega
  unfold plc
  rw [Nat.add_comm, Nat.add_mul_div_right _ _ h0, Nat.add_mul_mod_self_right, Nat.div_eq_of_lt h, Nat.mod_eq_of_lt h, Nat.zero_add]
theorem plc_bd {w h i : Nat} (hi : i < h * w) : (0 ≤ (plc w i).1 ∧ (plc w i).1 < h) ∧ 0 ≤ (plc w i).2 ∧ (plc w i).2 < w := by
  have h0 : 0 < w := Nat.pos_of_ne_zero fun z => by subst z; simp at hi
  have h1 : i / w < h := (Nat.div_lt_iff_lt_mul h0).mpr hi
  have h2 := Nat.mod_lt i h0
  unfold plc
  refine ⟨⟨Int.natCast_nonneg _, ?_⟩, Int.natCast_nonneg _, ?_⟩
  · exact Int.ofNat_lt.mpr h1
  · exact Int.ofNat_lt.mpr h2
theorem plc_end {w h r c : Nat} (hr : r < h) (hc : c < w) : r * w + c < h * w := by
  have : (r + 1) * w ≤ h * w := Nat.mul_le_mul_right _ hr
  rw [Nat.add_mul] at this
  omega
theorem pfl_ext {T : Box} {f g : Cas} {bs ss : List Int} {r c : Int} (h : ∀ r' c', r ≤ r' → r' ≤ r + 2 → c ≤ c' → c' ≤ c + 2 → f r' c' = g r' c') : pfl T f bs ss r c ↔ pfl T g bs ss r c := by
  have hn : ∀ x, nP f r c x = nP g r c x := fun x => by
    unfold nP
    congr 1
    refine List.filter_congr fun d hd => ?_
    have := ar8_bd hd
    rw [h _ _ (by omega) (by omega) (by omega) (by omega)]
  unfold pfl okp
  simp only [hn, h (r + 1) (c + 1) (by omega) (by omega) (by omega) (by omega)]
/-- the search for a past at its k-th cell -/
structure PsOk (T : Box) (f : Cas) (bs ss : List Int) (ps : List (Cell × Bool)) (k : Nat) : Prop where
  cr : CaseR f (ps.map cbK)
  len : ps.length ≤ k
  le : k ≤ (T.h + 2) * (T.w + 2)
  as_ : ∀ r c : Int, f r c ≠ none ↔ ∃ i : Nat, i < k ∧ plc (T.w + 2) i = (r, c)
  nf : ∀ r c : Int, T.inn r c → ¬ pfl T f bs ss r c
theorem PsOk.none {T : Box} {f : Cas} {bs ss : List Int} {ps : List (Cell × Bool)} {k : Nat} (h : PsOk T f bs ss ps k) : f (plc (T.w + 2) k).1 (plc (T.w + 2) k).2 = none := by
  cases e : f (plc (T.w + 2) k).1 (plc (T.w + 2) k).2 with
  | none => rfl
  | some b =>
    obtain ⟨i, hi, e2⟩ := (h.as_ _ _).mp (by rw [e]; simp)
    have := plc_inj e2
    omega
theorem PsOk.step {T : Box} {f : Cas} {bs ss : List Int} {ps ps2 : List (Cell × Bool)} {k : Nat} (h : PsOk T f bs ss ps k) (hk : k < (T.h + 2) * (T.w + 2)) {v : Bool} (cr : CaseR (putC f (plc (T.w + 2) k).1 (plc (T.w + 2) k).2 v) (ps2.map cbK)) (len : ps2.length ≤ k + 1)
    (nf : ∀ x y : Int, T.inn x y → (plc (T.w + 2) k).1 - 2 ≤ x → x ≤ (plc (T.w + 2) k).1 → (plc (T.w + 2) k).2 - 2 ≤ y → y ≤ (plc (T.w + 2) k).2 → ¬ pfl T (putC f (plc (T.w + 2) k).1 (plc (T.w + 2) k).2 v) bs ss x y) : PsOk T (putC f (plc (T.w + 2) k).1 (plc (T.w + 2) k).2 v) bs ss ps2 (k + 1) := by
  refine ⟨cr, len, hk, fun r c => ?_, fun r c hi => ?_⟩
  · unfold putC
    by_cases e : r = (plc (T.w + 2) k).1 ∧ c = (plc (T.w + 2) k).2
    · rw [if_pos e]
      exact ⟨fun _ => ⟨k, by omega, by rw [e.1, e.2]⟩, fun _ => by simp⟩
    · rw [if_neg e, h.as_]
      refine ⟨fun ⟨i, hi, e2⟩ => ⟨i, by omega, e2⟩, fun ⟨i, hi, e2⟩ => ⟨i, ?_, e2⟩⟩
      by_cases ek : i = k
      · subst ek
        rw [e2] at e
        exact absurd ⟨rfl, rfl⟩ e
      · omega
  · by_cases hn : (plc (T.w + 2) k).1 - 2 ≤ r ∧ r ≤ (plc (T.w + 2) k).1 ∧ (plc (T.w + 2) k).2 - 2 ≤ c ∧ c ≤ (plc (T.w + 2) k).2
    · exact nf r c hi hn.1 hn.2.1 hn.2.2.1 hn.2.2.2
    · refine fun z => h.nf r c hi ((pfl_ext fun r' c' h1 h2 h3 h4 => ?_).mp z)
      unfold putC
      rw [if_neg]
      rintro ⟨rfl, rfl⟩
      omega
structure PsEnd (T : Box) (g : Cas) (bs ss : List Int) : Prop where
  all : ∀ r c : Nat, r < T.h + 2 → c < T.w + 2 → g (r : Int) (c : Int) ≠ none
  nf : ∀ r c : Int, T.inn r c → ¬ pfl T g bs ss r c
theorem PsOk.fin {T : Box} {f : Cas} {bs ss : List Int} {ps : List (Cell × Bool)} {k : Nat} (h : PsOk T f bs ss ps k) (hk : k = (T.h + 2) * (T.w + 2)) : PsEnd T f bs ss :=
  ⟨fun r c h1 h2 => (h.as_ _ _).mpr ⟨r * (T.w + 2) + c, by rw [hk]; exact plc_end h1 h2, plc_of h2⟩, h.nf⟩
/-- the past that the case tells -/
def Box.pst (T : Box) (g : Cas) : Box := ⟨T.h + 2, T.w + 2, fun r c => if g (r : Int) (c : Int) = some true then 79 else 46⟩
theorem Box.pst_full (T : Box) (g : Cas) : (T.pst g).full := fun r c _ _ => by
  show (if g (r : Int) (c : Int) = some true then 79 else 46) = 46 ∨ (if g (r : Int) (c : Int) = some true then 79 else 46) = 79
  split <;> simp
end M
namespace M
theorem perm_3 {α : Type} (a b c : α) (l : List α) : (a :: b :: c :: l).Perm (c :: a :: b :: l) := ((List.Perm.swap c b l).cons a).trans (List.Perm.swap c a (b :: l))
end M
namespace M
open PySem PyProof.Rows L2 J
/-- the nine cells above a target's cell, one by one, but the middle -/
def preT (f : Cas) (rc : Cell) (x : Option Bool) (k : Nat) : Nat := (((near rc).take k).filter fun p => decide (p ≠ rc ∧ f p.1 p.2 = x)).length
theorem preT_snoc {f : Cas} {rc p : Cell} {x : Option Bool} {k : Nat} (h : (near rc)[k]? = some p) : preT f rc x (k + 1) = preT f rc x k + (if p ≠ rc ∧ f p.1 p.2 = x then 1 else 0) := by
  unfold preT
  rw [List.take_add_one, h, List.filter_append, List.length_append]
  by_cases e : p ≠ rc ∧ f p.1 p.2 = x
  · rw [if_pos e, (by simp [e] : (List.filter (fun p => decide (p ≠ rc ∧ f p.1 p.2 = x)) (some p).toList).length = 1)]
  · rw [if_neg e]; simp [e]
theorem preT_all (f : Cas) (r c : Int) (x : Option Bool) : preT f (r + 1, c + 1) x 9 = nP f r c x := by
  have e0 : preT f (r + 1, c + 1) x 9 = ((near (r + 1, c + 1)).filter fun p => decide (p ≠ (r + 1, c + 1) ∧ f p.1 p.2 = x)).length := rfl
  rw [e0]
  unfold nP
  have e : ((near (r + 1, c + 1)).filter fun p => decide (p ≠ (r + 1, c + 1) ∧ f p.1 p.2 = x)) = ((near (r + 1, c + 1)).filter (fun p => decide (p ≠ (r + 1, c + 1)))).filter fun p => decide (f p.1 p.2 = x) := by
    rw [List.filter_filter]; congr 1; funext p; rw [Bool.decide_and, Bool.and_comm]
  rw [e, near_ar8, List.filter_map, List.length_map]
  congr 1
  refine List.filter_congr fun d _ => ?_
  show decide (f (r + 1 + d.1 - 1) (c + 1 + d.2 - 1) = x) = _
  rw [show (r + 1 + d.1 - 1 : Int) = r + d.1 by omega, show (c + 1 + d.2 - 1 : Int) = c + d.2 by omega]
theorem near_getT (r c : Int) {i j : Nat} (hi : i < 3) (hj : j < 3) : (near (r + 1, c + 1))[3 * i + j]? = some (r + (i : Int), c + (j : Int)) := by
  rw [near_get _ hi hj]
  dsimp only
  rw [show (r + 1 - 1 + (i : Int)) = r + (i : Int) by omega, show (c + 1 - 1 + (j : Int)) = c + (j : Int) by omega]
end M
namespace M
open PySem PyProof.Rows L2 J
def sgT (y : Int) : Nat := if y % 2 = 1 then 79 else 46
theorem sgT_at (y : Int) : atI (Str.ofString ".O").cps.toList (y % 2) = some (sgT y) := by
  unfold sgT
  have h7 : y % 2 = 0 ∨ y % 2 = 1 := by omega
  rcases h7 with h7 | h7
  · rw [h7]; decide +kernel
  · rw [h7]; decide +kernel
/-- the target that drawn numbers tell -/
def boxT (h w : Nat) (ns : List Int) : Box := ⟨h, w, fun r c => sgT (ns.getD (r * w + c) 0)⟩
theorem boxT_full (h w : Nat) (ns : List Int) : (boxT h w ns).full := fun r c _ _ => by
  show sgT _ = 46 ∨ sgT _ = 79
  unfold sgT
  split <;> simp
theorem boxT_row {h w : Nat} {ns : List Int} (hl : ns.length = h * w) {r : Nat} (hr : r < h) : (boxT h w ns).row r = ⟨(((ns.drop (r * w)).take w).map sgT).toArray⟩ := by
  have h1 : r * w + w ≤ h * w := by
    have : (r + 1) * w ≤ h * w := Nat.mul_le_mul_right _ hr
    rw [Nat.succ_mul] at this; exact this
  rw [slice_get ns _ w (by omega), List.map_map]; rfl
end M
namespace M
open PySem PyProof.Rows L2 J
/-- what a set of living cells shows of a target's box -/
def shB (h w : Nat) (S : List Cell) : Box := ⟨h, w, fun r c => if (((r : Int) + 1, (c : Int) + 1) : Cell) ∈ S then 79 else 46⟩
theorem shB_full (h w : Nat) (S : List Cell) : (shB h w S).full := fun r c _ _ => by
  show (if (((r : Int) + 1, (c : Int) + 1) : Cell) ∈ S then 79 else 46) = 46 ∨ (if (((r : Int) + 1, (c : Int) + 1) : Cell) ∈ S then 79 else 46) = 79
  split <;> simp
theorem shB_shows (h w : Nat) (A : List Cell) (bs ss : List Int) : shows (shB h w (nxt A bs ss)) A bs ss := fun r c h1 h2 h3 h4 => by
  have e : (shB h w (nxt A bs ss)).sg r c = if (((r.toNat : Int) + 1, (c.toNat : Int) + 1) : Cell) ∈ nxt A bs ss then 79 else 46 := rfl
  rw [e, show ((r.toNat : Nat) : Int) = r by omega, show ((c.toNat : Nat) : Int) = c by omega]
  split
  · rename_i z; exact ⟨fun _ => rfl, fun _ => z⟩
  · rename_i z; exact ⟨fun h => absurd h z, fun h => absurd h (by decide)⟩
end M
namespace M
open PySem PyProof.Rows L2 J
theorem cells_shape (A : List Cell) : SeqAt.shaped (.list (A.map cD)) = true := list_shape fun d hd => by
  obtain ⟨p, _, rfl⟩ := List.mem_map.mp hd
  exact ⟨by simp [cD, PyData.canLay0, PyData.canLayAll0], by simp [cD, PyData.depth, PyData.depthAll]⟩
theorem any_cell (c : Cell) : ∀ A : List Cell, ((A.map cD).any fun z => PyData.eqv z (cD c)) = decide (c ∈ A)
  | [] => by simp
  | a :: r => by
    rw [List.map_cons, List.any_cons, any_cell c r, cD_eqv]
    by_cases h : a = c
    · subst h; simp
    · have h2 : ¬ c = a := fun z => h z.symm
      simp [h, h2]
theorem sgB_at (b : Bool) : atI (Str.ofString ".O").cps.toList (if b = true then 1 else 0) = some (if b = true then 79 else 46) := by
  cases b <;> decide +kernel
end M

/-! M9: pasts that are found. -/
namespace M
open PySem PyProof.Rows L2 J
/-- the case that a picture tells, up to a place -/
def bxP (P : Box) (i j : Nat) : Cas := fun r c => if P.inn r c ∧ (r < i ∨ r = i ∧ c < j) then some (decide (P.sg r c = 79)) else none
def bxC (P : Box) : Cas := fun r c => if P.inn r c then some (decide (P.sg r c = 79)) else none
theorem bxP_zero (P : Box) : bxP P 0 0 = noC := by
  funext r c
  unfold bxP noC
  rw [if_neg]
  rintro ⟨h, h2⟩
  unfold Box.inn at h
  omega
theorem bxP_step {P : Box} {i j : Nat} (hi : i < P.h) (hj : j < P.w) : putC (bxP P i j) (i : Int) (j : Int) (decide (P.g i j = 79)) = bxP P i (j + 1) := by
  funext r c
  unfold putC bxP
  by_cases h : r = (i : Int) ∧ c = (j : Int)
  · rw [if_pos h, if_pos]
    · rw [h.1, h.2]
      have e : P.sg (i : Int) (j : Int) = P.g i j := by simp [Box.sg]
      rw [e]
    · rw [h.1, h.2]
      unfold Box.inn
      omega
  · rw [if_neg h]
    by_cases h2 : P.inn r c ∧ (r < i ∨ r = i ∧ c < j)
    · rw [if_pos h2, if_pos ⟨h2.1, by omega⟩]
    · rw [if_neg h2, if_neg]
      rintro ⟨z1, z2⟩
      exact h2 ⟨z1, by omega⟩
theorem bxP_row (P : Box) (i : Nat) : bxP P i P.w = bxP P (i + 1) 0 := by
  funext r c
  unfold bxP
  by_cases h2 : P.inn r c ∧ (r < (i : Int) ∨ r = (i : Int) ∧ c < (P.w : Int))
  · rw [if_pos h2, if_pos ⟨h2.1, by omega⟩]
  · rw [if_neg h2, if_neg]
    rintro ⟨z1, z2⟩
    refine h2 ⟨z1, ?_⟩
    unfold Box.inn at z1
    omega
theorem bxP_all (P : Box) : bxP P P.h 0 = bxC P := by
  funext r c
  unfold bxP bxC
  by_cases h2 : P.inn r c
  · rw [if_pos h2, if_pos ⟨h2, by unfold Box.inn at h2; omega⟩]
  · rw [if_neg h2, if_neg fun z => h2 z.1]
theorem pst_sg (T : Box) (g : Cas) {r c : Int} (h : 0 ≤ r ∧ 0 ≤ c) : (T.pst g).sg r c = if g r c = some true then 79 else 46 := by
  show (if g (r.toNat : Int) (c.toNat : Int) = some true then 79 else 46) = _
  rw [show ((r.toNat : Nat) : Int) = r by omega, show ((c.toNat : Nat) : Int) = c by omega]
theorem PsEnd.sm {T : Box} {g : Cas} {bs ss : List Int} (h : PsEnd T g bs ss) {r c : Int} (hr : 0 ≤ r ∧ r < T.h + 2 ∧ 0 ≤ c ∧ c < T.w + 2) : ∃ b, g r c = some b := by
  have z := h.all r.toNat c.toNat (by omega) (by omega)
  rw [show ((r.toNat : Nat) : Int) = r by omega, show ((c.toNat : Nat) : Int) = c by omega] at z
  exact Option.ne_none_iff_exists'.mp z
theorem PsEnd.bx {T : Box} {g : Cas} {bs ss : List Int} (h : PsEnd T g bs ss) {r c : Int} (hr : 0 ≤ r ∧ r < T.h + 2 ∧ 0 ≤ c ∧ c < T.w + 2) : bxC (T.pst g) r c = g r c := by
  obtain ⟨b, hb⟩ := h.sm hr
  unfold bxC
  rw [if_pos (show (T.pst g).inn r c from by show 0 ≤ r ∧ r < ((T.h + 2 : Nat) : Int) ∧ 0 ≤ c ∧ c < ((T.w + 2 : Nat) : Int); omega), pst_sg T g (by omega), hb]
  cases b <;> simp
theorem PsEnd.past {T : Box} {g : Cas} {bs ss : List Int} (h : PsEnd T g bs ss) {r c : Int} (hi : T.inn r c) : ¬ pfl T (bxC (T.pst g)) bs ss r c := fun z => by
  unfold Box.inn at hi
  exact h.nf r c hi ((pfl_ext fun r' c' h1 h2 h3 h4 => h.bx (by omega)).mp z)
/-- cells that say what the case says, where the target sees it -/
theorem PsEnd.shows {T : Box} {g : Cas} {bs ss : List Int} (h : PsEnd T g bs ss) (hb : ∀ b ∈ bs, 1 ≤ b) {A : List Cell} (hA : ∀ r c : Int, 0 ≤ r → r < T.h + 2 → 0 ≤ c → c < T.w + 2 → (((r, c) : Cell) ∈ A ↔ g r c = some true)) : M.shows T A bs ss := fun r c h1 h2 h3 h4 => by
  have hA2 : ∀ r c : Int, 0 ≤ r → r < T.h + 2 → 0 ≤ c → c < T.w + 2 → g r c = some (decide (((r, c) : Cell) ∈ ddp A)) := fun r c h1 h2 h3 h4 => by
    obtain ⟨b, hb⟩ := h.sm (r := r) (c := c) ⟨h1, h2, h3, h4⟩
    rw [hb]
    have z := hA r c h1 h2 h3 h4
    rw [hb] at z
    congr 1
    cases b with
    | true => exact (decide_eq_true (ddp_mem.mpr (z.mpr rfl))).symm
    | false => exact (decide_eq_false fun q => nomatch z.mp (ddp_mem.mp q)).symm
  have hp : ¬ ¬ ∃ v, okp T g bs ss r c v := h.nf r c ⟨h1, h2, h3, h4⟩
  obtain ⟨v, hv, k, hk, e⟩ := Classical.not_not.mp hp
  have h0 : nP g r c none = 0 := by
    unfold nP
    rw [List.length_eq_zero_iff, List.filter_eq_nil_iff]
    intro d hd
    have := ar8_bd hd
    rw [hA2 _ _ (by omega) (by omega) (by omega) (by omega)]
    simp
  have hk0 : k = 0 := by omega
  subst hk0
  have hc : nP g r c (some true) = cnt (ddp A) (r + 1, c + 1) := by
    rw [cnt_nP (ddp_nodup A)]
    unfold nP
    congr 1
    refine List.filter_congr fun d hd => ?_
    have := ar8_bd hd
    rw [hA2 _ _ (by omega) (by omega) (by omega) (by omega)]
    by_cases z : ((r + d.1, c + d.2) : Cell) ∈ ddp A <;> simp [z]
  have hm := hA2 (r + 1) (c + 1) (by omega) (by omega) (by omega) (by omega)
  have hv2 : v = decide (((r + 1, c + 1) : Cell) ∈ ddp A) := by
    rcases hv with hv | hv
    · rw [hm] at hv; cases hv
    · rw [hm] at hv; exact (Option.some.inj hv).symm
  rw [hc, hv2] at e
  have z := lv_nxt (A := A) (bs := bs) (ss := ss) hb (r + 1, c + 1)
  rw [show (cnt (ddp A) (r + 1, c + 1) : Int) + ((0 : Nat) : Int) = (cnt (ddp A) (r + 1, c + 1) : Int) by omega] at e
  rw [e] at z
  exact decide_eq_decide.mp z
end M
namespace M
open PySem PyProof.Rows L2 J
theorem cut_to {α : Type} (xs : List α) (b : Nat) (hb : b ≤ xs.length) : cutG xs none (some (b : Int)) = xs.take b := by
  unfold cutG
  rw [HT.sIx_nat]
  have e1 : HT.sIx xs.length 0 none = 0 := rfl
  rw [e1, List.drop_zero, Nat.min_eq_left hb, Nat.sub_zero]
/-- the first rows -/
def Box.top (B : Box) (k : Nat) : Box := ⟨k, B.w, B.g⟩
theorem Box.top_rws (B : Box) {k : Nat} (h : k ≤ B.h) : (B.top k).rws = B.rws.take k := by
  unfold Box.rws
  rw [← List.map_take, List.take_range, Nat.min_eq_left h]
  rfl
theorem Box.top_full {B : Box} (h : B.full) {k : Nat} (hk : k ≤ B.h) : (B.top k).full := fun r c h1 h2 => h r c (Nat.lt_of_lt_of_le h1 hk) h2
end M
namespace M
open PySem PyProof.Rows L2 J
theorem PsEnd.same {T : Box} {g : Cas} {bs ss bs' ss' : List Int} (h1 : SameS bs bs') (h2 : SameS ss ss') (h : PsEnd T g bs' ss') : PsEnd T g bs ss := ⟨h.all, fun r c hi z => h.nf r c hi ((pfl_same h1 h2 T g r c).mpr z)⟩
theorem PsEnd.shows2 {T : Box} {g : Cas} {bs ss : List Int} (h : PsEnd T g bs ss) (hb : ∀ b ∈ bs, 1 ≤ b) {Ar : List Cell} (hA : ∀ x ∈ Ar, x.1 = -1 ∨ x.2 = -1) : M.shows T (srtC (Ar ++ (T.pst g).alive)) bs ss := h.shows hb fun r c h1 h2 h3 h4 => by
  rw [srtC_mem, List.mem_append, Box.mem_alive]
  have hi : (T.pst g).inn r c := by
    show 0 ≤ r ∧ r < ((T.h + 2 : Nat) : Int) ∧ 0 ≤ c ∧ c < ((T.w + 2 : Nat) : Int)
    omega
  rw [pst_sg T g ⟨h1, h3⟩]
  constructor
  · rintro (z | ⟨_, z⟩)
    · rcases hA _ z with q | q <;> dsimp only at q <;> omega
    · by_cases e : g r c = some true
      · exact e
      · rw [if_neg e] at z; exact absurd z (by decide)
  · intro z
    exact .inr ⟨hi, by rw [if_pos z]⟩
end M

/-! S4a: tables of any size: the walk of a search meets each slot. -/
namespace J
open PySem PySem.Spec PyProof.Rows L2

/-! ### the round x -> 5 x + 1 -/
def gN : Nat -> Nat
  | 0 => 0
  | n + 1 => 5 * gN n + 1
theorem gN_pow : ∀ n, 5 ^ n = 4 * gN n + 1
  | 0 => rfl
  | n + 1 => by rw [Nat.pow_succ, gN_pow n, gN]; omega
theorem gN_par : ∀ n, gN n % 2 = n % 2
  | 0 => rfl
  | n + 1 => by have := gN_par n; rw [gN]; omega
theorem gN_add (a : Nat) : ∀ d, gN (d + a) = gN a * 5 ^ d + gN d
  | 0 => by simp [gN]
  | d + 1 => by
    rw [show d + 1 + a = (d + a) + 1 by omega, gN, gN_add a d, gN, Nat.pow_succ, Nat.mul_add, ← Nat.mul_assoc, Nat.add_assoc]
    congr 1
    simp [Nat.mul_comm, Nat.mul_left_comm, Nat.mul_assoc]
theorem gN_dbl (n : Nat) : gN (n + n) = 2 * (gN n * (2 * gN n + 1)) := by
  rw [gN_add, gN_pow]
  generalize gN n = g
  rw [show g * (4 * g + 1) = 2 * (g * (2 * g)) + g by rw [Nat.mul_add, Nat.mul_one, show 4 * g = 2 * (2 * g) by omega, Nat.mul_left_comm], Nat.mul_add, Nat.mul_one]
  omega
theorem odd_cop {x : Nat} (h : x % 2 = 1) (e : Nat) : Nat.Coprime (2 ^ e) x := by
  refine Nat.Coprime.pow_left e ?_
  show Nat.gcd 2 x = 1
  rw [Nat.gcd_rec, h]
  rfl
theorem gN_dvd : ∀ (e n : Nat), 2 ^ e ∣ gN n -> 2 ^ e ∣ n
  | 0, n, _ => by simp
  | e + 1, n, h => by
    have h2 : 2 ∣ gN n := Nat.dvd_trans ⟨2 ^ e, by rw [Nat.pow_succ, Nat.mul_comm]⟩ h
    have hp := gN_par n
    obtain ⟨k, rfl⟩ : ∃ k, n = k + k := ⟨n / 2, by omega⟩
    rw [gN_dbl, Nat.pow_succ, Nat.mul_comm (2 ^ e)] at h
    have h3 := Nat.dvd_of_mul_dvd_mul_left (by decide) h
    have h4 := gN_dvd e k (Nat.Coprime.dvd_of_dvd_mul_right (odd_cop (by omega) e) h3)
    rw [show k + k = 2 * k by omega, Nat.pow_succ, Nat.mul_comm (2 ^ e)]
    exact Nat.mul_dvd_mul_left 2 h4
theorem mod5 (x M : Nat) : (x % M * 5 + 1) % M = (x * 5 + 1) % M := by
  rw [Nat.add_mod, Nat.mul_mod, Nat.mod_mod, ← Nat.mul_mod, ← Nat.add_mod]
theorem lcg_form (m : Nat) {i : Nat} (hi : i ≤ m) : ∀ k, lcgI m i k = (i * 5 ^ k + gN k) % (m + 1)
  | 0 => by rw [lcgI, Nat.pow_zero, gN, Nat.mul_one, Nat.add_zero, Nat.mod_eq_of_lt (Nat.lt_succ_of_le hi)]
  | k + 1 => by
    rw [lcgI, lcg_form m hi k, mod5, gN, Nat.pow_succ, ← Nat.mul_assoc]
    congr 1
    rw [Nat.add_mul]; omega
theorem lcg_inj {m e i : Nat} (hm : m + 1 = 2 ^ e) (hi : i ≤ m) {a d : Nat} (h : lcgI m i a = lcgI m i (d + a)) (hd : d ≤ m) : d = 0 := by
  rw [lcg_form m hi, lcg_form m hi] at h
  have z := Nat.sub_mod_eq_zero_of_mod_eq h.symm
  have e1 : i * 5 ^ (d + a) + gN (d + a) - (i * 5 ^ a + gN a) = gN d * (5 ^ a * (4 * i + 1)) := by
    rw [show d + a = a + d by omega, gN_add d a, Nat.pow_add, gN_pow d]
    generalize gN d = x
    generalize 5 ^ a = y
    rw [show i * (y * (4 * x + 1)) = i * y + x * (y * (4 * i)) by
      rw [Nat.mul_add, Nat.mul_one, Nat.mul_add, Nat.add_comm]; congr 1
      rw [← Nat.mul_assoc, ← Nat.mul_assoc, ← Nat.mul_assoc, ← Nat.mul_assoc]
      simp [Nat.mul_comm, Nat.mul_left_comm, Nat.mul_assoc]]
    rw [Nat.mul_add y, Nat.mul_one, Nat.mul_add x]
    omega
  rw [e1, hm] at z
  have z2 : 2 ^ e ∣ gN d := Nat.Coprime.dvd_of_dvd_mul_right (odd_cop (by
    rw [gN_pow, Nat.mul_mod, Nat.add_mod, Nat.mul_mod 4]; simp
    rw [Nat.add_mod, Nat.mul_mod]; simp) e) (Nat.dvd_of_mod_eq_zero z)
  have z3 := gN_dvd e d z2
  cases d with
  | zero => rfl
  | succ d =>
    have := Nat.le_of_dvd (Nat.succ_pos _) z3
    omega
theorem lcg_le {m i : Nat} (hi : i ≤ m) (k : Nat) : lcgI m i k ≤ m := by
  rw [lcg_form m hi]; exact Nat.le_of_lt_succ (Nat.mod_lt _ (Nat.succ_pos _))
/-- within n + 1 turns a slot comes that is not among n given ones -/
theorem lcg_new {m e i : Nat} (hm : m + 1 = 2 ^ e) (hi : i ≤ m) {occ : List Nat} (hn : occ.length ≤ m) : ∃ k, k ≤ occ.length ∧ lcgI m i k ∉ occ := by
  refine Classical.byContradiction fun no => ?_
  have all : ∀ k, k ≤ occ.length -> lcgI m i k ∈ occ := fun k hk => Classical.byContradiction fun c => no ⟨k, hk, c⟩
  have nd : ((List.range (occ.length + 1)).map (lcgI m i)).Nodup := by
    refine List.pairwise_map.mpr (List.Pairwise.imp_of_mem (fun {a b} ha hb (hlt : a < b) z => ?_) List.pairwise_lt_range)
    have h1 := List.mem_range.mp hb
    have := lcg_inj hm hi (a := a) (d := b - a) (by rw [z]; congr 1; omega) (by omega)
    omega
  have := nat_nodup_len _ occ nd fun x hx => by
    obtain ⟨k, hk, rfl⟩ := List.mem_map.mp hx
    exact all k (Nat.le_of_lt_succ (List.mem_range.mp hk))
  rw [List.length_map, List.length_range] at this
  omega
/-- so within n + 12 runs -/
theorem run_new {m e : Nat} (hm : m + 1 = 2 ^ e) (h : Int) {occ : List Nat} (hn : occ.length ≤ m) : ∃ r, r ≤ occ.length + 12 ∧ runI m (SetTable.bits h) r ∉ occ := by
  obtain ⟨k, h1, h2⟩ := lcg_new hm (runI_le m (SetTable.bits h) 12) hn
  exact ⟨12 + k, by omega, by rw [runI_tail (bits_lt h)]; exact h2⟩
theorem way_new {m e : Nat} (hm : m + 1 = 2 ^ e) (h : Int) {occ : List Nat} (hn : occ.length ≤ m) : ∃ K, K ≤ 10 * (occ.length + 12) ∧ way m h K ∉ occ ∧ ∀ k, k < K -> way m h k ∈ occ := by
  obtain ⟨r, h1, h2⟩ := run_new hm h hn
  obtain ⟨k, hk, e2⟩ := run_nth m (SetTable.bits h) r
  obtain ⟨K, q1, q2, q3⟩ := st_least (p := fun k => way m h k ∉ occ) k (by
    show (nth m (runAt m (SetTable.bits h % (m + 1)) (SetTable.bits h)) k).j ∉ occ
    rw [e2]; exact h2)
  exact ⟨K, by omega, q2, fun k' hk' => Classical.byContradiction fun c => q3 k' hk' c⟩
theorem way_in {m : Nat} {h : Int} {k : Nat} : way m h k ≤ m := by
  have r := runEnd_bd (m := m) (i := SetTable.bits h % (m + 1)) (Nat.le_of_lt_succ (Nat.mod_lt _ (Nat.succ_pos _)))
  have q := nth_in (m := m) k (runAt m (SetTable.bits h % (m + 1)) (SetTable.bits h)) (show SetTable.bits h % (m + 1) + (SetTable.runEnd m (SetTable.bits h % (m + 1)) - SetTable.bits h % (m + 1)) ≤ m by omega)
  exact Nat.le_trans (Nat.le_add_right _ _) q
end J

/-! S4b: the table of a set, whatever its size. -/
namespace J
open PySem PySem.Spec PyProof.Rows L2

/-- the sizes that tables get while fewer than 9900 are put in -/
def Siz (m : Nat) : Prop := ∃ e, m + 1 = 2 ^ e ∧ (e = 3 ∨ e = 5 ∨ e = 7 ∨ e = 9 ∨ e = 11 ∨ e = 13 ∨ e = 15)
theorem Siz.val {m : Nat} (h : Siz m) : m = 7 ∨ m = 31 ∨ m = 127 ∨ m = 511 ∨ m = 2047 ∨ m = 8191 ∨ m = 32767 := by
  obtain ⟨e, h1, h2⟩ := h
  rcases h2 with rfl | rfl | rfl | rfl | rfl | rfl | rfl <;> simp at h1 <;> omega
theorem Siz.mk7 : Siz 7 := ⟨3, rfl, .inl rfl⟩
theorem Siz.odd {m : Nat} (h : Siz m) : m % 2 = 1 := by rcases h.val with r | r | r | r | r | r | r <;> subst r <;> rfl

/-- each item of hs stands on its way, behind taken places only -/
structure Tb (t : SetTable) (hs : List Int) : Prop where
  up : Ris t.place.toList
  no : t.dummies = #[]
  len : t.place.toList.length = hs.length
  siz : Siz t.mask
  top : ∀ x ∈ t.place.toList, x ≤ t.mask
  met : ∀ (i : Nat) (h : Int) (j : Nat), hs[i]? = some h -> t.place.toList[i]? = some j -> ∃ k, way t.mask h k = j ∧ ∀ k', k' < k -> way t.mask h k' ∈ t.place.toList
/-- the first free place of the way -/
structure Fst (t : SetTable) (h : Int) (K : Nat) : Prop where
  out : way t.mask h K ∉ t.place.toList
  ins : ∀ k, k < K -> way t.mask h k ∈ t.place.toList
section
variable {t : SetTable} {hs : List Int}
theorem Tb.fst (T : Tb t hs) (hl : hs.length ≤ t.mask) (h : Int) : ∃ K, K ≤ 10 * (hs.length + 12) ∧ Fst t h K := by
  obtain ⟨e, he, _⟩ := T.siz
  obtain ⟨K, h1, h2, h3⟩ := way_new he h (occ := t.place.toList) (by rw [T.len]; exact hl)
  exact ⟨K, by rw [T.len] at h1; exact h1, h2, h3⟩
theorem Tb.ahead (T : Tb t hs) {h : Int} {K : Nat} (F : Fst t h K) {i j : Nat} (hi : hs[i]? = some h) (hj : t.place.toList[i]? = some j) : ∃ k, k < K ∧ way t.mask h k = j := by
  obtain ⟨k, e, hb⟩ := T.met i h j hi hj
  refine ⟨k, Classical.byContradiction fun c => ?_, e⟩
  by_cases d : k = K
  · subst d; exact F.out (by rw [e]; exact List.mem_of_getElem? hj)
  · exact F.out (hb K (by omega))
theorem Tb.at (T : Tb t hs) {i : Nat} (hi : i < hs.length) : ∃ j, t.place.toList[i]? = some j := ⟨_, List.getElem?_eq_getElem (by rw [T.len]; exact hi)⟩
/-- what putting one in makes -/
structure PutOk (t : SetTable) (hs : List Int) (h : Int) (t' : SetTable) (p : Nat) : Prop where
  le : p ≤ hs.length
  tb : Tb t' (hs.take p ++ h :: hs.drop p)
  msk : t'.mask = t.mask
  led : t'.led = t.led
  pln : t'.plain = t.plain
  fil : t'.fill = hs.length + 1
theorem Tb.add (T : Tb t hs) {h : Int} {K : Nat} (F : Fst t h K) : PutOk t hs h (t.put (way t.mask h K)).1 (t.put (way t.mask h K)).2 := by
  generalize hj : way t.mask h K = j
  have hp : (t.put j).2 = SetTable.below t.place j := rfl
  rw [hp]
  have c1 : SetTable.below t.place j ≤ t.place.toList.length := (below_cut T.up j).1
  have c2 := c1
  rw [T.len] at c2
  have hn : j ∉ t.place.toList := by rw [← hj]; exact F.out
  have pl := put_place t j
  have more : ∀ {x : Nat}, x ∈ t.place.toList -> x ∈ (t.put j).1.place.toList := fun hx => by rw [pl]; exact mem_ins.mpr (.inr hx)
  have ln : (t.put j).1.place.toList.length = hs.length + 1 := by rw [pl, len_ins _ c1, T.len]
  refine ⟨c2, ⟨ris_insert T.up fun e => hn (List.mem_of_getElem? (by rw [Array.getElem?_toList]; exact e)), put_dm T.no j, by rw [len_ins _ c2]; exact ln, T.siz, fun x hx => ?_, fun i h' j' h1 h2 => ?_⟩, rfl, rfl, rfl, ?_⟩
  · rcases mem_ins.mp (by rw [← pl]; exact hx) with z | z
    · rw [z, ← hj]; exact way_in
    · exact T.top x z
  · rw [tins_get hs c2] at h1
    rw [pl, tins_get _ c1] at h2
    change ∃ k, way t.mask h' k = j' ∧ ∀ k', k' < k -> way t.mask h' k' ∈ (t.put j).1.place.toList
    have old : ∀ {i}, hs[i]? = some h' -> t.place.toList[i]? = some j' -> ∃ k, way t.mask h' k = j' ∧ ∀ k', k' < k -> way t.mask h' k' ∈ (t.put j).1.place.toList := fun a b => by
      obtain ⟨k, e, z⟩ := T.met _ h' j' a b
      exact ⟨k, e, fun k' hk => more (z k' hk)⟩
    split at h1
    · rename_i c
      rw [if_pos c] at h2
      exact old h1 h2
    · rename_i c
      rw [if_neg c] at h2
      split at h1
      · rename_i d
        rw [if_pos d] at h2
        cases h1; cases h2
        exact ⟨K, hj, fun k' hk => more (F.ins k' hk)⟩
      · rename_i d
        rw [if_neg d] at h2
        exact old h1 h2
  · show (t.put j).1.place.size + (t.put j).1.dummies.size = hs.length + 1
    rw [put_dm T.no j]
    exact ln
end

/-! ### all anew in a larger table -/
/-- an own place for each of the first hashes -/
structure Seat (m : Nat) (hs : List Int) (ow : Array (Option Nat)) (oc : List Nat) : Prop where
  sz : ow.size = m + 1
  ln : oc.length = hs.length
  occ : ∀ j, j ≤ m -> (oAt ow j ≠ none ↔ j ∈ oc)
  own : ∀ j k, j ≤ m -> oAt ow j = some k -> ∃ h K, hs[k]? = some h ∧ way m h K = j ∧ ∀ k', k' < K -> way m h k' ∈ oc
  all : ∀ k, k < hs.length -> ∃ j, j ≤ m ∧ oAt ow j = some k
theorem Seat.zero (m : Nat) : Seat m [] (Array.replicate (m + 1) none) [] where
  sz := Array.size_replicate
  ln := rfl
  occ := fun j hj => by rw [oAt_init hj]; simp
  own := fun j k hj e => by rw [oAt_init hj] at e; cases e
  all := fun k hk => nomatch hk
theorem Seat.more {m e : Nat} (hm : m + 1 = 2 ^ e) {hs : List Int} {ow : Array (Option Nat)} {oc : List Nat} (S : Seat m hs ow oc) (hl : hs.length ≤ m) (h : Int) :
    ∃ j, SetTable.layClean.free m ow (SetTable.turns m) (SetTable.bits h % (m + 1)) (SetTable.bits h) = some j ∧ Seat m (hs ++ [h]) (ow.setIfInBounds j (some hs.length)) (j :: oc) := by
  have hb : oc.length ≤ m := by rw [S.ln]; exact hl
  obtain ⟨r, r1, r2⟩ := run_new hm h hb
  obtain ⟨K, _, k2, k3⟩ := way_new hm h hb
  -- the way's first free place is not behind the r-th run
  have hKr : K ≤ off m (SetTable.bits h % (m + 1)) (SetTable.bits h) r := Classical.byContradiction fun c => by
    have z := k3 (off m (SetTable.bits h % (m + 1)) (SetTable.bits h) r) (by omega)
    rw [show way m h (off m (SetTable.bits h % (m + 1)) (SetTable.bits h) r) = runI m (SetTable.bits h) r by
      show (nth m _ _).j = _
      rw [nth_off, itL_run]; rfl] at z
    exact r2 z
  have occ : ∀ k, way m h k ∈ oc ↔ oAt ow (way m h k) ≠ none := fun k => (S.occ _ way_in).symm
  have fr := free_spec m ow (SetTable.turns m) r (SetTable.bits h % (m + 1)) (SetTable.bits h) K (by unfold SetTable.turns; omega) hKr (fun k hk => by
      have z := (occ k).mp (k3 k hk)
      change (oAt ow (way m h k)).isNone = false
      cases y : oAt ow (way m h k) with
      | none => exact absurd y z
      | some _ => rfl) (by
      change (oAt ow (way m h K)).isNone = true
      cases y : oAt ow (way m h K) with
      | none => rfl
      | some v => exact absurd ((occ K).mpr (by rw [y]; exact fun z => nomatch z)) k2)
  refine ⟨_, fr, ?_⟩
  change Seat m (hs ++ [h]) (ow.setIfInBounds (way m h K) (some hs.length)) (way m h K :: oc)
  have inb : way m h K < ow.size := by rw [S.sz]; exact Nat.lt_succ_of_le way_in
  have self := oAt_set_self (some hs.length) inb
  have else_ : ∀ {j}, j ≠ way m h K -> oAt (ow.setIfInBounds (way m h K) (some hs.length)) j = oAt ow j := fun hne => oAt_set_ne _ hne
  refine ⟨by rw [Array.size_setIfInBounds]; exact S.sz, by simp [S.ln], fun j hj => ?_, fun j k hj e => ?_, fun k hk => ?_⟩
  · by_cases c : j = way m h K
    · rw [c, self]; simp
    · rw [else_ c, S.occ j hj]; simp [c]
  · by_cases c : j = way m h K
    · rw [c, self] at e
      cases e
      exact ⟨h, K, by simp, c.symm, fun k' hk' => List.mem_cons_of_mem _ (k3 k' hk')⟩
    · rw [else_ c] at e
      obtain ⟨h', K', a1, a2, a3⟩ := S.own j k hj e
      exact ⟨h', K', by rw [List.getElem?_append_left (List.getElem?_eq_some_iff.mp a1).1]; exact a1, a2, fun k' hk' => List.mem_cons_of_mem _ (a3 k' hk')⟩
  · by_cases c : k = hs.length
    · exact ⟨way m h K, way_in, by rw [self, c]⟩
    · obtain ⟨j, hj, e⟩ := S.all k (by simp at hk; omega)
      refine ⟨j, hj, ?_⟩
      rw [else_ fun z => ?_]
      · exact e
      · exact k2 ((occ K).mpr (by rw [← z, e]; exact fun z => nomatch z))
theorem Seat.run {m e : Nat} (hm : m + 1 = 2 ^ e) : ∀ (r hs : List Int) (ow : Array (Option Nat)) (oc : List Nat), Seat m hs ow oc -> hs.length + r.length ≤ m ->
    ∃ ow' oc', r.foldl (stepF m) (some (ow, hs.length)) = some (ow', (hs ++ r).length) ∧ Seat m (hs ++ r) ow' oc'
  | [], hs, ow, oc, S, _ => ⟨ow, oc, by simp, by simpa using S⟩
  | h :: r, hs, ow, oc, S, hl => by
    simp only [List.length_cons] at hl
    obtain ⟨j, f, S2⟩ := S.more hm (by omega) h
    obtain ⟨ow', oc', g, S3⟩ := Seat.run hm r (hs ++ [h]) _ _ S2 (by simp; omega)
    refine ⟨ow', oc', ?_, by simpa using S3⟩
    rw [List.foldl_cons, stepF_some f]
    simpa using g
/-- the rows of the new table -/
theorem relaid_tb (t : SetTable) {hs : Array Int} {n M : Nat} (hw : SetTable.sizeAbove n - 1 = M) (hM : Siz M) (hn : hs.size ≤ M) :
    ∃ t' od, t.relaid hs n = some (t', od) ∧ od.toList.Perm (List.range hs.size) ∧ Tb t' (od.toList.map fun i => hs.getD i 0) ∧ t'.mask = M ∧ t'.led = t.led ∧ t'.plain = t.plain := by
  obtain ⟨e, he, _⟩ := id hM
  obtain ⟨ow, oc, f, S⟩ := Seat.run he hs.toList [] _ _ (Seat.zero M) (by simpa using hn)
  have f : hs.toList.foldl (stepF M) (some (Array.replicate (M + 1) none, 0)) = some (ow, ([] ++ hs.toList).length) := f
  rw [List.nil_append] at f S
  have lay : SetTable.layClean M hs = some ow := by rw [layClean_eq, f]; rfl
  generalize hL : liveOf M ow = L
  have re : t.relaid hs n = some (tabOf t M ow, (L.map (·.2)).toArray) := by rw [relaid_eq, hw, lay, ← hL]; rfl
  have inL : ∀ {j k : Nat}, (j, k) ∈ L ↔ j ≤ M ∧ oAt ow j = some k := fun {j k} => by rw [← hL]; exact mem_live S.sz
  have rs := ris_live (fun j => ow.getD j none) (List.range (M + 1)) List.pairwise_lt_range
  have rs1 : Ris (L.map (·.1)) := by rw [← hL]; exact rs.1
  have nd1 : (L.map (·.1)).Nodup := List.Pairwise.imp (fun h => Nat.ne_of_lt h) rs1
  have zl : L.length = hs.size := by
    have a := nat_nodup_len (L.map (·.1)) oc nd1 fun x hx => by
      obtain ⟨⟨y, k⟩, hq, rfl⟩ := List.mem_map.mp hx
      obtain ⟨b1, b2⟩ := inL.mp hq
      exact (S.occ y b1).mp (by rw [b2]; exact fun z => nomatch z)
    have b := nat_nodup_len (List.range hs.size) (L.map (·.2)) List.nodup_range fun k hk => by
      obtain ⟨j, b1, b2⟩ := S.all k (by rw [Array.length_toList]; exact List.mem_range.mp hk)
      exact List.mem_map.mpr ⟨(j, k), inL.mpr ⟨b1, b2⟩, rfl⟩
    rw [List.length_map, S.ln, Array.length_toList (xs := hs)] at a
    rw [List.length_map, List.length_range] at b
    omega
  have tp : (tabOf t M ow).place.toList = L.map (·.1) := by rw [← hL]; rfl
  refine ⟨_, _, re, perm_range hs.size _ (by simpa using zl) fun k hk => ?_, ⟨by rw [tp]; exact rs1, rfl, by rw [tp]; simp, hM, fun x hx => ?_, fun i h j h1 h2 => ?_⟩, rfl, rfl, rfl⟩
  · obtain ⟨j, b1, b2⟩ := S.all k (by rw [Array.length_toList]; exact hk)
    exact List.mem_map.mpr ⟨(j, k), inL.mpr ⟨b1, b2⟩, rfl⟩
  · rw [tp] at hx
    obtain ⟨⟨y, k⟩, hq, rfl⟩ := List.mem_map.mp hx
    exact (inL.mp hq).1
  · rw [tp, List.getElem?_map] at h2
    have h1 : ((L.map (·.2)).map fun i => hs.getD i 0)[i]? = some h := h1
    rw [List.getElem?_map, List.getElem?_map] at h1
    cases hq : L[i]? with
    | none => rw [hq] at h2; cases h2
    | some q =>
      obtain ⟨y, k⟩ := q
      rw [hq] at h1 h2
      simp only [Option.map_some, Option.some.injEq] at h1 h2
      subst h2
      obtain ⟨b1, b2⟩ := inL.mp (List.mem_of_getElem? hq)
      obtain ⟨h0, K, a1, a2, a3⟩ := S.own y k b1 b2
      have e0 : h0 = h := by
        rw [← h1, Array.getD_eq_getD_getElem?, ← Array.getElem?_toList, a1]; rfl
      subst e0
      refine ⟨K, a2, fun k' hk' => ?_⟩
      rw [tp]
      change way M h0 k' ∈ L.map (·.1)
      have z := (S.occ _ (way_in (m := M) (h := h0) (k := k'))).mpr (a3 k' hk')
      cases y : oAt ow (way M h0 k') with
      | none => exact absurd y z
      | some k2 => exact List.mem_map.mpr ⟨(way M h0 k', k2), inL.mpr ⟨way_in, y⟩, rfl⟩
/-- the next size -/
theorem grow_siz {m n : Nat} (h : Siz m) (h1 : n * 5 < m * 3) (h2 : m * 3 ≤ (n + 1) * 5) (hn : n < 9900) :
    ∃ M, Siz M ∧ SetTable.sizeAbove (SetTable.grown (n + 1)) - 1 = M ∧ SetTable.sizeAbove (SetTable.grown (n + 1)) ≤ 32768 ∧ (n + 1) * 5 < M * 3 := by
  rcases h.val with r | r | r | r | r | r | r <;> subst r
  · obtain rfl : n = 4 := by omega
    exact ⟨31, ⟨5, rfl, by simp⟩, by decide +kernel, by decide +kernel, by omega⟩
  · obtain rfl : n = 18 := by omega
    exact ⟨127, ⟨7, rfl, by simp⟩, by decide +kernel, by decide +kernel, by omega⟩
  · obtain rfl : n = 76 := by omega
    exact ⟨511, ⟨9, rfl, by simp⟩, by decide +kernel, by decide +kernel, by omega⟩
  · obtain rfl : n = 306 := by omega
    exact ⟨2047, ⟨11, rfl, by simp⟩, by decide +kernel, by decide +kernel, by omega⟩
  · obtain rfl : n = 1228 := by omega
    exact ⟨8191, ⟨13, rfl, by simp⟩, by decide +kernel, by decide +kernel, by omega⟩
  · obtain rfl : n = 4914 := by omega
    exact ⟨32767, ⟨15, rfl, by simp⟩, by decide +kernel, by decide +kernel, by omega⟩
  · omega
end J

/-! S4c: one tuple of ints is put into a set. -/
namespace J
open PySem PySem.Spec PyProof.Rows L2

abbrev SL := List (Addr × List Int)
/-- what stands at a: a set of the tuples L -/
structure Sc (P : Program) (w : World) (h : Heap) (a : Addr) (L : SL) (es : Array (Int × Value)) (ep : Nat) (t : SetTable) : Prop where
  ob : ∃ o, h.get? a = some o ∧ o.ExactSet ∧ o.data = .set es ep t
  ro : es.toList = rowsOf P w L
  tb : Tb t (L.map fun p => thash P w p.2)
  nd : (L.map (·.2)).Nodup
  pl : t.plain = true
  ld : w.params.followText "set-order" = true ∨ t.led = true
  rm : L.length * 5 < t.mask * 3
  fw : L.length ≤ 9900
section
variable {P : Program} {w : World} {A : Around} {E : Value -> Shared -> Prop} {s : Shared} {a : Addr} {L : SL} {es : Array (Int × Value)} {ep : Nat} {t : SetTable} {h : Heap}
theorem Sc.sz (R : Sc P w h a L es ep t) : es.size = L.length := by
  have z := congrArg List.length R.ro
  simpa [rowsOf] using z
theorem Sc.fits (R : Sc P w h a L es ep t) : t.fits es.size = true := by
  have h1 := R.tb.len
  have h2 := R.sz
  have h3 := R.rm
  simp only [List.length_map, Array.length_toList] at h1
  simp only [SetTable.fits, SetTable.fill, R.tb.no, Bool.and_eq_true, beq_iff_eq, decide_eq_true_eq, List.size_toArray, List.length_nil]
  omega
theorem Sc.row (R : Sc P w h a L es ep t) {i : Nat} {p : Addr × List Int} (e : L[i]? = some p) : es[i]? = some (thash P w p.2, Value.ref p.1) := by
  rw [← Array.getElem?_toList, R.ro, rowsOf, List.getElem?_map, e]
  rfl
theorem Sc.whole (R : Sc P w h a L es ep t) : ¬ t.gaveWay = true := by
  simp [SetTable.gaveWay, R.tb.siz.odd]
/-- a stand of the search -/
abbrev stn (t : SetTable) (h : Int) (c : Nat) : SetTable.Probe := nth t.mask (runAt t.mask (SetTable.bits h % (t.mask + 1)) (SetTable.bits h)) c
theorem stn_calm (t : SetTable) (h : Int) : ∀ c, (stn t h c).dummy = none
  | 0 => rfl
  | c + 1 => by
    have ih := stn_calm t h c
    show (nth t.mask _ (c + 1)).dummy = none
    rw [nth_succ]
    unfold adv
    split <;> exact ih
theorem stn_add (t : SetTable) (h : Int) (c q : Nat) : nth t.mask (stn t h c) q = stn t h (c + q) := (nth_add t.mask c _ q).symm
/-- the search from its c-th step on: f candidates may be met -/
theorem seek (R : Sc P w s.heap a L es ep t) (T : ∀ p ∈ L, IsT P w s.heap p.2 p.1) {x : Addr} {k : List Int} (hx : IsT P w s.heap k x) (hu : A.units < cLine) {K : Nat} (F : Fst t (thash P w k) K) (hK : K < 10 * SetTable.turns t.mask) {Q : SetFound -> Shared -> Prop}
    (yes : k ∈ L.map (·.2) -> Q (.there none) s) (no : k ∉ L.map (·.2) -> Q (.free (way t.mask (thash P w k) K) false) s) :
    ∀ (f c : Nat) (sd : Option SetTable.Probe), sd.getD (t.probeStart (thash P w k)) = stn t (thash P w k) c -> c ≤ K -> K - c < f ->
      (∀ (i : Nat) p, L[i]? = some p -> p.2 = k -> ∃ b, c ≤ b ∧ b < K ∧ t.place.toList[i]? = some (way t.mask (thash P w k) b)) ->
      wpAny (model P w) A (setSearchFrom a (.ref x) (thash P w k) true f sd) Q E s := by
  obtain ⟨o, ho, hex, hd⟩ := R.ob
  intro f
  induction f with
  | zero => intro c sd _ _ hf; omega
  | succ f ih =>
    intro c sd hsd hc hf on
    have wj : ∀ q, (nth t.mask (stn t (thash P w k) c) q).j = way t.mask (thash P w k) (c + q) := fun q => congrArg SetTable.Probe.j (stn_add t _ c q)
    have back : c + (K - c) = K := by omega
    have hAt : ∀ (i : Nat) p, L[i]? = some p -> (es[i]?.map (·.1)).getD 0 = thash P w p.2 := fun i p e => by
      rw [R.row e]; rfl
    have go := go_spec t R.tb.up R.tb.no (fun i => (es[i]?.map (·.1)).getD 0) (thash P w k) (10 * SetTable.turns t.mask) (K - c) (stn t (thash P w k) c) (stn_calm t _ c) (by omega)
      (fun q hq => by rw [wj]; exact F.ins _ (by omega)) (by rw [wj, back]; exact F.out)
    have pr : ∀ {m}, SetTable.probe.go t (fun i => (es[i]?.map (·.1)).getD 0) (thash P w k) (10 * SetTable.turns t.mask) (stn t (thash P w k) c) = m -> t.probe (fun i => (es[i]?.map (·.1)).getD 0) (thash P w k) (sd.getD (t.probeStart (thash P w k))) = m := fun {m} z => by
      rw [hsd]; exact z
    rw [setSearchFrom_succ]
    refine wpAny_bind (wpAny_setState_of ho hd R.fits ?_)
    dsimp only
    refine wp_if_neg R.whole ?_
    try refine wpAny_bind (wpAny_pure ?_)
    rcases go with ⟨q, i, hq, hi, hh, skip, e⟩ | ⟨skip, e⟩
    · rw [pr e]
      dsimp only
      rw [stn_add, stn_add]
      rw [wj] at hi
      have hil : i < L.length := by
        have z := (List.getElem?_eq_some_iff.mp hi).1
        rw [R.tb.len, List.length_map] at z
        exact z
      obtain ⟨p, hp⟩ : ∃ p, L[i]? = some p := ⟨_, List.getElem?_eq_getElem hil⟩
      have pm : p ∈ L := List.mem_of_getElem? hp
      have sl : t.slot (way t.mask (thash P w k) (c + q)) = .live i := slot_live R.tb.up hi
      have rest : wpAny (model P w) A (searchRest a (.ref x) (thash P w k) true f es t (way t.mask (thash P w k) (c + q)) i (stn t (thash P w k) (c + (q + 1)))) Q E s := by
        unfold searchRest
        rw [R.row hp]
        dsimp only
        refine wpAny_bind (wpAny_holding (wpAny_eqBool_tuple hu (T p pm) hx ?_))
        refine wpAny_bind (wpAny_setState_of ho hd R.fits ?_)
        dsimp only
        by_cases same : p.2 = k
        · exact wp_if_pos (by simp [same]) (wpAny_pure (yes (List.mem_map.mpr ⟨p, pm, same⟩)))
        refine wp_if_neg (by simp [same]) ?_
        try refine wpAny_bind (wpAny_pure ?_)
        rw [sameMem]
        dsimp only
        simp only [if_true, sl, R.row hp]
        refine wpAny_bind (wpAny_isSame_ref_self (wpAny_bind (wpAny_pure ?_)))
        simp only [if_true]
        refine wp_if_neg (by simp [same]) ?_
        refine ih (c + (q + 1)) _ rfl (by omega) (by omega) fun i0 p0 h0 hk0 => ?_
        obtain ⟨b, b1, b2, b3⟩ := on i0 p0 h0 hk0
        refine ⟨b, Classical.byContradiction fun low => ?_, b2, b3⟩
        by_cases at_ : b = c + q
        · subst at_
          have z := slot_live R.tb.up b3
          rw [sl] at z
          cases z
          rw [hp] at h0
          cases h0
          exact same hk0
        · refine skip (b - c) i0 (by omega) (by rw [wj, show c + (b - c) = b by omega]; exact b3) ?_
          rw [hAt i0 p0 h0, hk0]
      by_cases hl : t.led = true
      · refine wp_if_neg (by simp [hl]) ?_
        try refine wpAny_bind (wpAny_pure ?_)
        exact rest
      · refine wp_if_pos (by simp [hl]) ?_
        refine wpAny_bind (seen_tup hx (fun y hy => ?_) ?_)
        · obtain ⟨r, hr, rfl⟩ := List.mem_map.mp hy
          have hr : r ∈ es.toList := by
            have z : r ∈ es ∧ r.1 = thash P w k := by simpa using hr
            simpa using z.1
          rw [R.ro] at hr
          obtain ⟨p2, hp2, rfl⟩ := List.mem_map.mp hr
          exact ⟨p2.2, p2.1, rfl, T p2 hp2⟩
        · refine wp_if_neg (by decide) ?_
          try refine wpAny_bind (wpAny_pure ?_)
          exact rest
    · rw [pr e, wj, back]
      dsimp only
      refine wpAny_pure (no fun hm => ?_)
      obtain ⟨p0, h0, hk0⟩ := List.mem_map.mp hm
      obtain ⟨i0, e0⟩ := List.getElem?_of_mem h0
      obtain ⟨b, b1, b2, b3⟩ := on i0 p0 e0 hk0
      refine skip (b - c) i0 (by omega) (by rw [wj, show c + (b - c) = b by omega]; exact b3) ?_
      rw [hAt i0 p0 e0, hk0]
theorem seek0 (R : Sc P w s.heap a L es ep t) (T : ∀ p ∈ L, IsT P w s.heap p.2 p.1) {x : Addr} {k : List Int} (hx : IsT P w s.heap k x) (hu : A.units < cLine) {Q : SetFound -> Shared -> Prop}
    (yes : k ∈ L.map (·.2) -> Q (.there none) s) (no : ∀ K, k ∉ L.map (·.2) -> Fst t (thash P w k) K -> Q (.free (way t.mask (thash P w k) K) false) s) : wpAny (model P w) A (setSearch a (.ref x) (thash P w k) true) Q E s := by
  have rm := R.rm
  have fw := R.fw
  obtain ⟨K, hK, F⟩ := R.tb.fst (by rw [List.length_map]; omega) (thash P w k)
  rw [List.length_map] at hK
  unfold setSearch
  have hK2 : K < 10 * SetTable.turns t.mask := Classical.byContradiction fun c => by
    unfold SetTable.turns at c
    omega
  refine seek R T hx hu F hK2 yes (fun n => no K n F) 100000 0 none rfl (Nat.zero_le _) (by omega) fun i p hp hk => ?_
  have hi : (L.map fun p => thash P w p.2)[i]? = some (thash P w k) := by rw [List.getElem?_map, hp, ← hk]; rfl
  obtain ⟨j, hj⟩ := R.tb.at (i := i) (by rw [List.length_map]; exact (List.getElem?_eq_some_iff.mp hp).1)
  obtain ⟨b, hb, e⟩ := R.tb.ahead F hi hj
  exact ⟨b, Nat.zero_le _, hb, by rw [hj, e]⟩
end
end J

/-! S4d: set(xs), sorted(set) of tuples of ints. -/
namespace J
open PySem PySem.Spec PyProof.Rows L2
section
variable {P : Program} {w : World} {A : Around} {E : Value -> Shared -> Prop} {s : Shared} {a : Addr} {L : SL} {es : Array (Int × Value)} {ep : Nat} {t : SetTable} {h : Heap}
theorem rowsOf_len (L : SL) : (rowsOf P w L).length = L.length := List.length_map _
theorem relay_run {o : Obj} (ho : s.heap.get? a = some o) (hex : o.ExactSet) (hd : o.data = .set es ep t) (ro : es.toList = rowsOf P w L) (tb : Tb t (L.map fun p => thash P w p.2)) (hm : L.length ≤ t.mask) (nd : (L.map (·.2)).Nodup) (pl : t.plain = true)
    (ld : w.params.followText "set-order" = true ∨ t.led = true) (fw : L.length ≤ 9900) {n M : Nat} (hw : SetTable.sizeAbove n - 1 = M) (hM : Siz M) (h2 : SetTable.sizeAbove n ≤ 32768) (hn : L.length * 5 < M * 3) {Q : Unit -> Shared -> Prop}
    (fin : ∀ h' L' es' ep' t', Heap.SameBut a s.heap h' -> Sc P w h' a L' es' ep' t' -> L'.Perm L -> Q () { s with heap := h' }) : wpAny (model P w) A (setRelay a n) Q E s := by
  have z1 : es.size = L.length := by rw [← Array.length_toList, ro, rowsOf_len]
  have tl := tb.len
  rw [List.length_map, Array.length_toList] at tl
  have fits : t.fits es.size = true := by
    simp only [SetTable.fits, SetTable.fill, tb.no, Bool.and_eq_true, beq_iff_eq, decide_eq_true_eq, List.size_toArray, List.length_nil]
    omega
  obtain ⟨t', od, e, hp, T, em, el, epl⟩ := relaid_tb t (hs := es.map (·.1)) (n := n) hw hM (by rw [Array.size_map]; omega)
  rw [Array.size_map, z1] at hp
  obtain ⟨L2, r1, r2, r3⟩ := order_rows L es od ro hp
  rw [← r3] at T
  have z2 : (od.filterMap (es[·]?)).size = es.size := by rw [← Array.length_toList, r1, rowsOf_len, r2.length_eq, z1]
  rw [setRelay_eq]
  refine wpAny_bind (wpAny_setState_of ho hd fits ?_)
  dsimp only
  refine wp_if_neg (by rw [sizeLine_eq]; omega) ?_
  try refine wpAny_bind (wpAny_pure ?_)
  rw [e]
  dsimp only
  refine wpAny_bind ?_
  refine wp_if_neg (by rw [z2]; simp) ?_
  try refine wpAny_bind (wpAny_pure ?_)
  refine wpAny_pure ?_
  dsimp only
  refine wpAny_storeSet_of ho hd ?_ (by rw [z2, sizeLine_eq]; omega)
  refine fin _ L2 (od.filterMap (es[·]?)) (ep + 1) t' (Heap.SameBut.update ..) ⟨⟨_, store_at ho hd, ⟨hex.1, hex.2.1, hex.2.2⟩, rfl⟩, r1, T, (r2.map (·.2)).nodup_iff.mpr nd, by rw [epl]; exact pl, by rw [el]; exact ld, by rw [r2.length_eq, em]; exact hn, by rw [r2.length_eq]; exact fw⟩ r2
theorem add_run (R : Sc P w s.heap a L es ep t) (T : ∀ p ∈ L, IsT P w s.heap p.2 p.1) {x : Addr} {k : List Int} (hx : IsT P w s.heap k x) (hu : A.units < cLine) (fw : L.length < 9900) {Q : Bool -> Shared -> Prop}
    (fin : ∀ b h' L' es' ep' t', Heap.SameBut a s.heap h' -> Sc P w h' a L' es' ep' t' -> (k ∈ L.map (·.2) ∧ L' = L) ∨ (k ∉ L.map (·.2) ∧ L'.Perm ((x, k) :: L)) -> Q b { s with heap := h' }) :
    wpAny (model P w) A (setAddHashed a (.ref x) (thash P w k)) Q E s := by
  obtain ⟨o, ho, hex, hd⟩ := R.ob
  unfold setAddHashed
  refine wpAny_holding ?_
  rw [show (100000 : Nat) = 99999 + 1 from rfl, setAddHashedIn_succ]
  refine wpAny_bind (wpAny_setState_of ho hd R.fits ?_)
  dsimp only
  refine wp_if_neg (by simp [byScan, Value.scannable]) ?_
  try refine wpAny_bind (wpAny_pure ?_)
  refine wpAny_bind (seek0 R T hx hu (fun hm => ?_) fun K hm F => ?_)
  · dsimp only
    exact wpAny_pure (fin false s.heap L es ep t (Heap.SameBut.refl a s.heap) R (.inl ⟨hm, rfl⟩))
  dsimp only
  refine wpAny_bind (wpAny_setState_of ho hd R.fits ?_)
  dsimp only
  obtain ⟨q1, q2, q3, q4, q5, q6⟩ := R.tb.add F
  generalize t.put (way t.mask (thash P w k) K) = pt at q1 q2 q3 q4 q5 q6 ⊢
  obtain ⟨t1, p⟩ := pt
  dsimp only at q1 q2 q3 q4 q5 q6 ⊢
  have pl1 : t1.plain = true := by rw [q5]; exact R.pl
  first
    | (refine wpAny_bind ?_; refine wp_if_pos pl1 ?_; refine hashBy_tup hx ?_)
    | refine wp_if_pos pl1 (wpAny_bind (hashBy_tup hx ?_))
  simp only [if_true]
  have pm := put_perm L p (x, k)
  have in1 : (SetTable.insertAt es p (thash P w k, Value.ref x)).toList = rowsOf P w (L.take p ++ (x, k) :: L.drop p) := by
    rw [SetTable.toList_insertAt, rows_put, R.ro]
  have tb1 : Tb t1 ((L.take p ++ (x, k) :: L.drop p).map fun p => thash P w p.2) := by
    rw [List.map_append, List.map_cons, List.map_take, List.map_drop]
    exact q2
  have nd1 : ((L.take p ++ (x, k) :: L.drop p).map (·.2)).Nodup := (pm.map (·.2)).nodup_iff.mpr (List.nodup_cons.mpr ⟨hm, R.nd⟩)
  have ln1 := pm.length_eq
  simp only [List.length_cons] at ln1
  generalize L.take p ++ (x, k) :: L.drop p = L1 at pm in1 tb1 nd1 ln1
  have sz1 : (SetTable.insertAt es p (thash P w k, Value.ref x)).size = L.length + 1 := by rw [← Array.length_toList, in1, rowsOf_len, ln1]
  generalize SetTable.insertAt es p (thash P w k, Value.ref x) = es1 at in1 sz1 ⊢
  refine wpAny_bind (wpAny_storeSet_of ho hd ?_ (by rw [sz1, sizeLine_eq]; omega))
  have sb : Heap.SameBut a s.heap (s.heap.update a (Obj.putSet es1 t1)) := Heap.SameBut.update ..
  have ho1 := store_at (es' := es1) (t' := t1) ho hd
  generalize s.heap.update a (Obj.putSet es1 t1) = h1 at sb ho1 ⊢
  have ld1 : w.params.followText "set-order" = true ∨ t1.led = true := by rw [q4]; exact R.ld
  have fil : t1.fill = L.length + 1 := by rw [q6, List.length_map]
  have rm := R.rm
  by_cases full : t1.tooFull = true
  · have hf : t.mask * 3 ≤ (L.length + 1) * 5 := by
      have z := full
      unfold SetTable.tooFull at z
      rw [decide_eq_true_eq, fil, q3] at z
      exact z
    obtain ⟨M, g1, g2, g3, g4⟩ := grow_siz R.tb.siz rm hf fw
    first
      | (refine wpAny_bind ?_; refine wp_if_pos (by simp [full]) ?_)
      | (refine wp_if_pos (by simp [full]) ?_; refine wpAny_bind ?_)
    rw [R.sz]
    refine relay_run (s := { s with heap := h1 }) ho1 ⟨hex.1, hex.2.1, hex.2.2⟩ rfl in1 tb1 (by rw [q3]; have := R.tb.siz.val; omega) nd1 pl1 ld1 (by omega) g2 g1 g3 (by rw [ln1]; exact g4) fun h2 L2 es2 ep2 t2 sb2 R2 pm2 => ?_
    exact wpAny_pure (fin true h2 L2 es2 ep2 t2 (sb.trans sb2) R2 (.inr ⟨hm, pm2.trans pm⟩))
  · first
      | refine wp_if_neg (by simp [full]) ?_
      | (refine wpAny_bind ?_; refine wp_if_neg (by simp [full]) ?_; refine wpAny_pure ?_)
    refine wpAny_pure (fin true h1 L1 es1 (ep + 1) t1 sb ⟨⟨_, ho1, ⟨hex.1, hex.2.1, hex.2.2⟩, rfl⟩, in1, tb1, nd1, pl1, ld1, ?_, by omega⟩ (.inr ⟨hm, pm⟩))
    have z := full
    unfold SetTable.tooFull at z
    rw [decide_eq_true_eq, fil] at z
    omega
/-- what came of the first i items -/
structure Gt (ks : SL) (i : Nat) (L : SL) : Prop where
  sub : ∀ p ∈ L, p ∈ ks
  all : ∀ p ∈ ks.take i, p.2 ∈ L.map (·.2)
  len : L.length ≤ i
theorem keep_T {h h' : Heap} {k : List Int} {b : Addr} (x : IsT P w h k b) (hk : ∀ c o, h.get? c = some o -> h'.get? c = some o) : IsT P w h' k b := by
  obtain ⟨o, items, n, ho, r⟩ := x
  exact ⟨o, items, n, hk _ _ ho, r⟩
theorem Sc.zero {a : Addr} (ho : h.get? a = some (set0 w)) : Sc P w h a [] #[] 0 (.fresh 0 0 (!w.params.followText "set-order")) where
  ob := ⟨_, ho, ⟨rfl, rfl, rfl⟩, rfl⟩
  ro := rfl
  tb := ⟨List.Pairwise.nil, rfl, rfl, Siz.mk7, fun x hx => by simp [SetTable.fresh] at hx, fun i h j hi _ => by simp at hi⟩
  nd := List.nodup_nil
  pl := rfl
  ld := by cases w.params.followText "set-order" <;> simp [SetTable.fresh]
  rm := by show 0 * 5 < 7 * 3; decide
  fw := by decide
theorem Sc.at {h h' : Heap} (R : Sc P w h a L es ep t) (e : ∀ o, h.get? a = some o -> h'.get? a = some o) : Sc P w h' a L es ep t :=
  ⟨let ⟨o, ho, r⟩ := R.ob; ⟨o, e o ho, r⟩, R.ro, R.tb, R.nd, R.pl, R.ld, R.rm, R.fw⟩
theorem set_cells {l : Addr} {items : Array Value} (ks : SL) {Q : Value -> Shared -> Prop} (hh : A.handled = none) (hl : s.heap.IsList l items) (hit : items.toList = ks.map fun p => Value.ref p.1) (hk : ∀ p ∈ ks, IsT P w s.heap p.2 p.1) (fw : ks.length ≤ 9900) (hu : A.units + 4 < cLine)
    (fin : ∀ (h' : Heap) (tk : Nat) L es ep t, Sc P w h' s.heap.objs.size L es ep t -> (∀ p ∈ L, p ∈ ks) -> (∀ p ∈ ks, p.2 ∈ L.map (·.2)) -> Keeps s.heap h' -> Q (.ref s.heap.objs.size) { s with heap := h', toks := tk }) :
    wpAny (model P w) A (call (.type "set") [.ref l]) Q E s := by
  have hz : items.size = ks.length := by rw [← Array.length_toList, hit, List.length_map]
  refine call_set_any (Iv := fun i h => ∃ L es ep t, Sc P w h s.heap.objs.size L es ep t ∧ Gt ks i L) hh hl (fun h e _ => ⟨[], _, _, _, Sc.zero e, ⟨fun p hp => (by cases hp), fun p hp => (by simp at hp), Nat.le_refl 0⟩⟩)
    (fun i h h' ⟨L, es, ep, t, R, g⟩ e _ => ⟨L, es, ep, t, R.at e, g⟩) (fun A' hA i v s1 F W hv hkp ⟨L, es, ep, t, R, g⟩ cont => ?_) fun h' tk ⟨L, es, ep, t, R, g⟩ hkp => fin h' tk L es ep t R g.sub (fun p hp => g.all p (by rw [hz, List.take_length]; exact hp)) hkp
  rw [hit, List.getElem?_map] at hv
  cases hp : ks[i]? with
  | none => rw [hp] at hv; cases hv
  | some p =>
    rw [hp] at hv
    cases hv
    have T1 : ∀ p ∈ ks, IsT P w s1.heap p.2 p.1 := fun p hp => keep_T (hk p hp) hkp
    have pk : p ∈ ks := List.mem_of_getElem? hp
    have il : i < ks.length := (List.getElem?_eq_some_iff.mp hp).1
    have tn : ks.take (i + 1) = ks.take i ++ [p] := by rw [List.take_add_one, hp]; rfl
    unfold setAdd
    refine wpAny_holding (wpAny_bind (wpAny_pyHash_tuple (knd := intKind P w) (by omega) (T1 p pk) ?_))
    refine add_run (s := { s1 with toks := s1.toks + (p.2.length + 1) }) R (fun q hq => T1 q (g.sub q hq)) (T1 p pk) (by omega) (by have := g.len; omega) fun b h' L' es' ep' t' sb R' cs => ?_
    refine cont b h' _ (Nat.le_add_right _ _) sb ⟨L', es', ep', t', R', ?_⟩
    rcases cs with ⟨c1, rfl⟩ | ⟨c1, c2⟩
    · refine ⟨g.sub, fun q hq => ?_, by have := g.len; omega⟩
      rw [tn, List.mem_append, List.mem_singleton] at hq
      rcases hq with hq | rfl
      · exact g.all q hq
      · exact c1
    · refine ⟨fun q hq => ?_, fun q hq => ?_, by rw [c2.length_eq]; have := g.len; simp; omega⟩
      · rcases List.mem_cons.mp (c2.mem_iff.mp hq) with rfl | hq
        · exact pk
        · exact g.sub q hq
      · rw [(c2.map (·.2)).mem_iff, List.map_cons, List.mem_cons]
        rw [tn, List.mem_append, List.mem_singleton] at hq
        rcases hq with hq | rfl
        · exact .inr (g.all q hq)
        · exact .inl rfl
end
end J

/-! S4e: sorted(set) of cells, any number of them. -/
namespace J
open PySem PySem.Spec PyProof.Rows L2 M
section
variable {P : Program} {w : World} {A : Around} {E : Value -> Shared -> Prop} {s : Shared} {a : Addr} {es : Array (Int × Value)} {ep : Nat} {t : SetTable} {h : Heap}
/-- iter of a plain set -/
theorem iter_pl {Q : Value -> Shared -> Prop} (ha : SetAt s.heap a es ep t) (hf : t.fits es.size = true) (r : Ris t.place.toList) (pl : t.plain = true) (hl : w.params.followText "set-order" = true ∨ t.led = true)
    (fin : ∀ s₂ I, SetIt P w s a es s₂ I -> Q (.ref I) s₂) : wpAny (model P w) A (pyIter (.ref a)) Q E s := by
  obtain ⟨o, ho, hc, hd⟩ := id ha
  have ty : s.TypeIs (.ref a) "set" := ⟨o, ho, hc⟩
  have lt : a < s.heap.objs.size := Heap.lt_size ho
  have ne : a ≠ s.heap.objs.size := Nat.ne_of_lt lt
  have dr : (!t.plain && decide (es.size > 1)) = false := by rw [pl]; rfl
  have fpo : ∀ b ∈ [s.heap.objs.size, a], b = a ∨ s.heap.objs.size ≤ b := fun b hb => by
    rcases List.mem_cons.mp hb with z | z
    · exact .inr (Nat.le_of_eq z.symm)
    · exact .inl (List.mem_singleton.mp z)
  refine wpAny_pyIter_slot ty F.slot_set_iter (wpAny_call_entry F.slot_set_iter ty entry_s_iter ?_ (F.args_set_iter_1 _))
  unfold Builtin.«frozenset.__iter__»
  refine wpAny_bind (m := Builtin.Frozenset.slot0 "__iter__" _) (wpAny_of_eq (a := a) (by rfl) ?_)
  refine wpAny_bind (m := Builtin.Frozenset.sizeOf a) ?_
  unfold Builtin.Frozenset.sizeOf
  refine wpAny_bind (wpAny_setEntries_of ho hd hf (wpAny_pure ?_))
  first | refine wpAny_bind (setDrawn_at ha hf ?_) | refine wpAny_bind (wpAny_bind (setDrawn_at ha hf ?_))
  rw [dr, Bool.and_false]
  refine wp_if_neg (by simp) ?_
  first | refine wpAny_bind (wpAny_pure ?_) | refine wpAny_pure ?_
  refine wpAny_bind (wpAny_setEpoch_of ho hd hf ?_)
  refine wpAny_bind (wpAny_newObj_type (wpAny_pure ⟨_, rfl, "set_iterator", _, ⟨_, Heap.get?_push_size _ rfl, rfl⟩, slot_si_next.lookup, ?_⟩))
  cases hb : w.params.followText "set-order" with
  | true =>
    refine fin _ _ (SetIt.of (fun A' hA' => walks_text (P := P) (ep := ep) hA' ne hf hb) (by rw [List.length_map, Array.length_toList]) (fun b u e => Heap.get?_push_of_some _ e) rfl rfl rfl (Nat.le_refl _) fpo ((pick_perm (w.params.setOrder a ep) es).map _)
      (fun j v q => by rw [List.getElem?_map, Array.getElem?_toList]; exact q) ⟨⟨_, Heap.get?_push_size _ rfl, rfl, rfl⟩, ha.at fun u e => Heap.get?_push_of_some _ e⟩)
  | false =>
    have led : t.led = true := hl.resolve_left (by rw [hb]; exact Bool.false_ne_true)
    refine fin _ _ (SetIt.of (fun A' hA' => walks_led (P := P) (ep := ep) hA' ne hf r hb dr led) (by rw [List.length_map, Array.length_toList]) (fun b u e => Heap.get?_push_of_some _ e) rfl rfl rfl (Nat.le_refl _) fpo (List.Perm.refl _)
      (fun j v q => by rw [List.getElem?_map, Array.getElem?_toList]; exact q) ⟨⟨_, Heap.get?_push_size _ rfl, rfl, rfl⟩, ha.at fun u e => Heap.get?_push_of_some _ e⟩)
/-- a fresh list takes the members -/
theorem gather_pl {Q : List Value -> Shared -> Prop} (hh : A.handled = none) (ha : SetAt s.heap a es ep t) (hf : t.fits es.size = true) (zn : es.size ≤ sizeLine) (r : Ris t.place.toList) (pl : t.plain = true) (hl : w.params.followText "set-order" = true ∨ t.led = true)
    (fin : ∀ s' out, Keeps s.heap s'.heap -> s.heap.objs.size ≤ s'.heap.objs.size -> s'.gens = s.gens -> s'.os = s.os -> out.Perm (es.toList.map (·.2)) -> Q out s') : wpAny (model P w) A (collect (.ref a)) Q E s := by
  obtain ⟨o, ho, hc, hd⟩ := id ha
  obtain ⟨n, hn⟩ : ∃ n, n = s.heap.objs.size := ⟨_, rfl⟩
  have lt : a < n := by rw [hn]; exact Heap.lt_size ho
  unfold collect
  refine wpAny_bind (wpAny_runValue (codeAny_builtin F.entry_proto_collect ?_))
  rw [Around.under_plainId F.plain_proto_collect _]
  show wpAny _ A.in1 (newList [] >>= fun l => again (.builtin "list.__iadd__" ⟨[l, .ref a], []⟩)) _ _ s
  refine wpAny_bind (wpAny_newObj_type ?_)
  refine wpAny_pure ⟨plainId_quiet F.plain_list_iadd _, codeAny_builtin F.entry_list_iadd ?_⟩
  rw [Around.under_plainId F.plain_list_iadd _, ← hn]
  generalize hH : s.heap.push { cls := .type "list", data := .seq ([] : List Value).toArray } = H1
  have atn : H1.get? n = some { cls := .type "list", data := .seq ([] : List Value).toArray } := by rw [← hH, hn]; exact Heap.get?_push_size _ rfl
  have k1 : Keeps s.heap H1 := fun b u e => by rw [← hH]; exact Heap.get?_push_of_some _ e
  have z1 : H1.objs.size = n + 1 := by rw [← hH, hn]; exact size_push' _ _
  have ha1 : SetAt H1 a es ep t := ha.at fun u e => k1 _ _ e
  show wpAny _ A.in1 (Builtin.List.listExtendWith (.ref n) (.ref a) (.ref n)) _ _ _
  unfold Builtin.List.listExtendWith
  refine wpAny_bind (wpAny_typeOf (T := "set") ⟨o, k1 _ _ ho, hc⟩ ?_)
  have b1 : Builtin.List.listSameRef (.ref n) (.ref a) = false := by simp [Builtin.List.listSameRef, Nat.ne_of_gt lt]
  have b2 : (Value.type "set" == Value.type "list") = false := by decide
  have b3 : (Value.type "set" == Value.type "tuple") = false := by decide
  simp only [b1, b2, b3, Bool.or_false, Bool.false_eq_true, if_false]
  refine wpAny_bind (iter_pl (s := { s with heap := H1 }) ha1 hf r pl hl fun s₂ I ⟨fp, St0, out, Pv, k2, g2, o2, t2, hI, hfp, hp, hW, hPv, hst⟩ => ?_)
  have hI1 : n + 1 ≤ I := by rw [← z1]; exact hI
  have nfp : n ∉ fp := fun hm => by
    rcases hfp _ hm with z | z
    · exact Nat.ne_of_gt lt z
    · have z : H1.objs.size ≤ n := z
      omega
  have ho2 := k2 a o (k1 _ _ ho)
  have ty2 : s₂.TypeIs (.ref a) "set" := ⟨o, ho2, hc⟩
  refine wpAny_bind (wpAny_holding ?_)
  unfold Builtin.List.listLengthHint
  refine wpAny_bind (wpAny_specialOf ty2 F.slot_set_len.lookup ?_)
  (generalize hid : ("set.__len__" : String) = id0; (fail_if_success (clear hid id0)); wp_delta; rw [show splitId id0 = some ("set", "__len__") from by subst hid; decide +kernel]; subst hid)
  refine wpAny_bind (wpAny_isInstance (b := true) ty2 sub_set_self ?_)
  show wpAny _ A.in1 (typeOf (.ref a) >>= _) _ _ _
  refine wpAny_bind (wpAny_typeOf ty2 ?_)
  refine wpAny_pure ?_
  show wpAny _ A.in1 (rule "list.extend.makes-room" >>= fun _ => Builtin.List.listTouch (.ref n) >>= fun _ => again (.builtin "list.extend.loop" ⟨[.ref n, .ref I, .ref n], []⟩)) _ _ _
  refine wpAny_bind (wpAny_rule ?_)
  have at2 := k2 _ _ atn
  refine wpAny_bind ?_
  show wpAny _ A.in1 (updateSeq n (·.push .none) >>= fun _ => updateSeq n (·.pop)) _ _ _
  refine wpAny_bind (wpAny_updateSeq at2 rfl ?_)
  have at3 := Heap.get?_update_self (Obj.mapSeq (·.push Value.none)) at2 rfl
  refine wpAny_updateSeq at3 rfl ?_
  have at4 := Heap.get?_update_self (Obj.mapSeq (·.pop)) at3 rfl
  have oth : ∀ b u, b ≠ n -> s₂.heap.get? b = some u -> ((s₂.heap.update n (Obj.mapSeq (·.push Value.none))).update n (Obj.mapSeq (·.pop))).get? b = some u := fun b u hb e => by
    rw [Heap.get?_update_other _ _ (Ne.symm hb), Heap.get?_update_other _ _ (Ne.symm hb)]
    exact e
  have ol : out.length ≤ sizeLine := by rw [hp.length_eq, List.length_map, Array.length_toList]; exact zn
  have W := hW A.in1 hh
  refine wpAny_pure ⟨plainId_quiet F.plain_extend_loop _, codeAny_extend_loopS W.toS ol n nfp _ out.length 0 _ _ _ rfl (Nat.zero_le _) (W.frame 0 _ _ hst fun b hb u e => oth b u (fun z => nfp (z ▸ hb)) e) at4 (ItemsOf.nil Pv) fun s' acc' c' hm hS' hacc => ?_⟩
  show wpAny _ A (load n >>= _) _ _ s'
  refine wpAny_bind (wpAny_load hS' ?_)
  refine wpAny_pure ?_
  show Q acc'.toList s'
  rw [items_out hacc hPv]
  refine fin s' out (fun b u e => ?_) (by rw [← hn]; exact Nat.le_of_lt (Heap.lt_size hS')) (Eq.trans hm.gens g2) (Eq.trans hm.os o2) hp
  have bl : b < n := by rw [hn]; exact Heap.lt_size e
  refine hm.heap b u (fun z => ?_) (oth b u (Nat.ne_of_lt bl) (k2 b u (k1 _ _ e)))
  rcases List.mem_cons.mp z with z | z
  · exact Nat.ne_of_lt bl z
  · have z := List.mem_singleton.mp z
    subst z
    exact Nat.lt_irrefl _ (Nat.lt_trans bl hI1)
/-- sorted of a plain set of pairs -/
theorem sorted_pl {L : SL} {k : Value -> Int × Int} {Q : Value -> Shared -> Prop} (R : Sc P w s.heap a L es ep t) (hh : A.handled = none) (hp : ∀ p ∈ L, Srt.IsPair s.heap (.ref p.1) (k (.ref p.1)).1 (k (.ref p.1)).2)
    (fin : ∀ s' p (out : List Value) (c : Nat), Keeps s.heap s'.heap -> s'.gens = s.gens -> s'.os = s.os -> s.heap.objs.size ≤ p -> s'.heap.get? p = some (seqObj "list" out.toArray c) -> out.Perm (L.map fun p => Value.ref p.1) ->
      SrtO.Srtd (fun v u => SrtO.lexB (k v) (k u)) out -> Q (.ref p) s') : wpAny (model P w) A (call (.builtin "sorted") [.ref a]) Q E s := by
  obtain ⟨o, ho, hex, hd⟩ := R.ob
  have zl : L.length ≤ sizeLine := by rw [sizeLine_eq]; have := R.fw; omega
  refine Calls.call_function_entry kind_sorted plain_sorted entry_sorted (args_sorted1 _) ?_
  unfold Builtin.«sorted»
  refine wpAny_bind (m := checkCount "sorted" 1 1 _) (wpAny_pure ?_)
  refine wpAny_bind (gather_pl (A := A.in1) hh ⟨o, ho, hex.1, hd⟩ R.fits (by rw [R.sz]; exact zl) R.tb.up R.pl R.ld fun s1 vs k1 hz g1 o1 pm => ?_)
  have hes : es.toList.map (·.2) = L.map fun q => Value.ref q.1 := by rw [R.ro, rowsOf, List.map_map]; rfl
  rw [hes] at pm
  have vl : vs.length ≤ sizeLine := by rw [pm.length_eq, List.length_map]; exact zl
  refine wpAny_bind (wpAny_newList ?_ vl)
  have hoL : (s1.heap.push (seqObj "list" vs.toArray 0)).get? s1.heap.objs.size = some (seqObj "list" vs.toArray 0) := Heap.get?_push_size _ rfl
  have pr : ∀ v ∈ vs, Srt.IsPair (s1.heap.push (seqObj "list" vs.toArray 0)) v (k v).1 (k v).2 := fun v hv => by
    obtain ⟨q, hq, rfl⟩ := List.mem_map.mp (pm.mem_iff.mp hv)
    exact (hp q hq).keeps fun b o e _ => Heap.get?_push_of_some _ (k1 b o e)
  refine wpAny_bind (wpAny_holding (wpAny_call_entry slot_list_sort ⟨_, hoL, rfl⟩ entry_list_sort (SrtO.list_sort_ord (s := { s1 with heap := s1.heap.push (seqObj "list" vs.toArray 0) }) (SrtO.swo_lex k) hoL vl (fun h2 => SrtO.pairs_sortableO (by omega) pr fun o e => ?_) fun out hs hb => ⟨_, rfl, ?_⟩) (args_list_sort _)))
  · have e : some o = some (seqObj "list" vs.toArray 0) := e.symm.trans hoL
    cases e
    intro c
    exact absurd (Value.type.inj c) (by decide)
  · obtain ⟨c, hc⟩ := sortedHeap_at (vs := vs) (out := out.toArray) hoL
    refine wpAny_pure ⟨_, rfl, fin _ s1.heap.objs.size out c (fun b u e => ?_) g1 o1 hz hc (hb.perm.trans pm) hs⟩
    have q := k1 b u e
    have bl := Heap.lt_size q
    show (sortedHeap (s1.heap.push (seqObj "list" vs.toArray 0)) s1.heap.objs.size vs out.toArray).get? b = some u
    rw [sortedHeap_old (Nat.ne_of_lt bl) (by rw [size_push']; exact Nat.lt_succ_of_lt bl)]
    exact Heap.get?_push_of_some _ q
end
end J

/-! S4f: sorted(set(xs)) of cells as a rule of J. -/
namespace J
open PySem PySem.Spec PyProof.Rows L2 M
structure Sc0 (P : Program) (w : World) (h : Heap) (a : Addr) (L : SL) : Prop where
  ex : ∃ es ep t, Sc P w h a L es ep t
def ScO (P : Program) (w : World) (a : Addr) (L : SL) : HO := .ext fun h => Sc0 P w h a L
theorem scO_new {P : Program} {w : World} {H : Hp} {h : Heap} {a : Addr} {L : SL} (R : Sc0 P w h a L) : ObjOk P w H h a (ScO P w a L) := by
  have ⟨_, _, _, R1⟩ := R.ex
  have ⟨o, ho, _⟩ := R1.ob
  refine ⟨R, ⟨o, ho⟩, fun h1 h2 p k => ?_⟩
  have ⟨_, _, _, R2⟩ := Sc0.ex p
  exact ⟨_, _, _, R2.at k⟩
section
variable {X : Cx}
def rSetC (K : PySem.W.Frag) (P : Program) (w : World) : List V -> Hp -> VK -> Prop := fun xs H Q => ∃ (l : Addr) (ks : SL), xs = [V.ref l] ∧ SqL K H l (ks.map fun p => V.ref p.1) ∧ (∀ p ∈ ks, SqT K H p.1 (p.2.map V.int)) ∧ ks.length ≤ 9900 ∧
  ∀ a L, H a = none -> (∀ p ∈ L, p ∈ ks) -> (∀ p ∈ ks, p.2 ∈ L.map (·.2)) -> (L.map (·.2)).Nodup -> Q (.ref a) (upd H a (ScO P w a L))
theorem cr_setC (hc : X.calm = true) (hu : X.A.units + 64 < cLine) : CallR X (.type "set") (rSetC X.K X.prog X.w) := by
  intro pins s σ H xs us Q I r h
  obtain ⟨l, ks, rfl, hl, hk, hf, q⟩ := h
  rw [Vals.ref1 r]
  obtain ⟨its, rv, pl, hz⟩ := I.list hl
  refine set_cells (P := X.prog) (w := X.w) ks (I.ok.hd hc) pl.isList (by simpa using refs_of_vals rv) (fun p hp => I.isT (hk p hp)) hf (by omega) fun h' tk L es ep t R g1 g2 k => ?_
  exact ⟨.ref s.heap.objs.size, _, I.laid (t' := tk) k (Nat.le_refl _) (scO_new ⟨_, _, _, R⟩), rfl, q _ L (I.hok.fresh (Nat.le_refl _)) g1 g2 R.nd⟩
def rSortedC (P : Program) (w : World) : List V -> Hp -> VK -> Prop := fun vs H Q => ∃ (a : Addr) (L : SL), vs = [V.ref a] ∧ H a = some (ScO P w a L) ∧ (∀ p ∈ L, ∃ c : Cell, H p.1 = some (.tup [.int c.1, .int c.2])) ∧
  ∀ (ys : List V) (p : Addr), ys.Perm (L.map fun p => V.ref p.1) -> ys.Pairwise (fun x y => leC (cellAt H x) (cellAt H y) = true) -> H p = none -> Q (.ref p) (upd H p (.lst ys))
theorem cr_sortedC (hc : X.calm = true) : CallR X (.builtin "sorted") (rSortedC X.prog X.w) := by
  intro pins s σ H vs us Q I r h
  obtain ⟨a, L, rfl, ha, hk, q⟩ := h
  have R0 : Sc0 X.prog X.w s.heap a L := (I.hok a _ ha).1
  obtain ⟨es, ep, t, R⟩ := R0.ex
  have zl : L.length ≤ sizeLine := by rw [sizeLine_eq]; have := R.fw; omega
  rw [Vals.ref1 r]
  refine sorted_pl (k := fun u => cellAt H (bkV u)) R (I.ok.hd hc) (fun p hp => ?_) fun s' p out c k g o hp hg pm hs => ?_
  · obtain ⟨d, hd⟩ := hk p hp
    obtain ⟨_, its, r2, ob, ho, hcl, n, hdt⟩ := I.hok _ _ hd
    obtain ⟨u1, u2, rfl, ⟨t1, rfl⟩, ⟨t2, rfl⟩⟩ := vals2 r2
    have e : cellAt H (bkV (Value.ref p.1)) = d := by unfold cellAt bkV; dsimp only; rw [hd]
    rw [e]
    exact ⟨p.1, ob, t1, t2, n, rfl, ho, hcl, hdt⟩
  · have pm2 : (out.map bkV).Perm (L.map fun p => V.ref p.1) := by
      have z := pm.map bkV
      rw [List.map_map] at z
      exact z
    have refs : ∀ u ∈ out, ∃ b, u = Value.ref b := fun u hu => by
      obtain ⟨p, _, rfl⟩ := List.mem_map.mp (pm.mem_iff.mp hu)
      exact ⟨_, rfl⟩
    have hn : H p = none := I.hok.fresh hp
    have J : Inv X pins σ (upd H p (.lst (out.map bkV))) { s with heap := s'.heap, gens := s'.gens, drawn := s'.drawn, toks := s'.toks } :=
      I.call (ch := []) (Un.laid k hp hn) (I.hok.laid k hp ⟨by rw [pm2.length_eq, List.length_map]; exact zl, out, c, bkV_vals refs, hg⟩) (by rw [g]; exact I.bare) (fun _ z => nomatch z)
    have e : s' = { s with heap := s'.heap, gens := s'.gens, drawn := s'.drawn, toks := s'.toks } := by
      cases s'; cases s; cases o; rfl
    rw [e]
    refine ⟨.ref p, _, J, rfl, q _ p pm2 (List.pairwise_map.mpr (hs.imp fun {x y} h => ?_)) hn⟩
    have z := SrtO.lexB_no.mp h
    rw [leC_iff]; omega
/-- the addresses of cells -/
def adrC (v : V) : Addr := match v with | .ref t => t | _ => 0
@[reducible] def jSetSortC (ta : jTE) : jTE := fun δ ls Q => ta δ ls fun x ls1 => match x with
  | .d (.list ds) => ∃ cs, cellsD ds = some cs ∧ cs.length ≤ 9900 ∧ Q (.d (csD (nrm cs))) ls1
  | .a p => ∃ (n : Nat) (xs : List D) (cs : List Cell), ls1[n]? = some (p, .lst xs) ∧ xs = (cs.map cD).map .d ∧ cs.length ≤ 9900 ∧ Q (.d (csD (nrm cs))) ls1
  | _ => False
theorem ss_run {E : Ent} {I H : Hp} {ls : Ls} {a : Addr} {vs : List V} {cs : List Cell} {Q : D -> Ls -> Prop} {W : VK} (R : Rel E X.K I H ls) (hs : H a = some (.lst vs)) (t : DnAll I vs (cs.map cD)) (hl : cs.length ≤ 9900) (q : Q (.d (csD (nrm cs))) ls) (k : ∀ z H', PoE E X.K I Q z H' -> W z H') :
    rSetC X.K X.prog X.w [.ref a] H fun v H2 => rSortedC X.prog X.w [v] H2 W := by
  obtain ⟨h1, h2⟩ := dn_cells R.sub t
  have look : ∀ v ∈ vs, v = V.ref (adrC v) ∧ I (adrC v) = some (.tup [.int (cellAt H v).1, .int (cellAt H v).2]) := fun v hv => by
    obtain ⟨c, hc⟩ := h2 v hv
    obtain ⟨u, rfl, hu, e⟩ := dn_cell R.sub hc
    exact ⟨rfl, by rw [e]; exact hu⟩
  have vl : vs.length = cs.length := by rw [← h1, List.length_map]
  refine ⟨a, vs.map fun v => (adrC v, [(cellAt H v).1, (cellAt H v).2]), rfl, ?_, fun p hp => ?_, by rw [List.length_map, vl]; exact hl, fun b L hb sub all nd => ?_⟩
  · rw [List.map_map]
    have e : vs.map ((fun p : Addr × List Int => V.ref p.1) ∘ fun v => (adrC v, [(cellAt H v).1, (cellAt H v).2])) = vs := by
      conv => rhs; rw [← List.map_id vs]
      exact List.map_congr_left fun v hv => (look v hv).1.symm
    rw [e]
    exact SqL.of hs
  · obtain ⟨v, hv, rfl⟩ := List.mem_map.mp hp
    exact SqT.of (R.sub _ _ (look v hv).2)
  · have R2 : Rel E X.K I (upd H b (ScO X.prog X.w b L)) ls := R.side hb (fun _ z => nomatch z)
    have hL : ∀ p ∈ L, ∃ v ∈ vs, p = (adrC v, [(cellAt H v).1, (cellAt H v).2]) := fun p hp => by
      obtain ⟨v, hv, e⟩ := List.mem_map.mp (sub p hp)
      exact ⟨v, hv, e.symm⟩
    refine ⟨b, L, rfl, upd_same, fun p hp => ?_, fun ys p pm so hp => ?_⟩
    · obtain ⟨v, hv, rfl⟩ := hL p hp
      exact ⟨cellAt H v, R2.sub _ _ (look v hv).2⟩
    · have inv : ∀ y ∈ ys, y ∈ vs := fun y hy => by
        obtain ⟨p, hp, rfl⟩ := List.mem_map.mp (pm.mem_iff.mp hy)
        obtain ⟨v, hv, rfl⟩ := hL p hp
        show V.ref (adrC v) ∈ vs
        rw [← (look v hv).1]; exact hv
      have dn : ∀ v ∈ ys, ∃ c, Dn I v (cD c) := fun v hv => h2 v (inv v hv)
      have same : ∀ v ∈ vs, cellAt (upd H b (ScO X.prog X.w b L)) v = cellAt H v := fun v hv => by
        obtain ⟨c, hc⟩ := h2 v hv
        obtain ⟨_, _, _, e1⟩ := dn_cell R.sub hc
        obtain ⟨_, _, _, e2⟩ := dn_cell R2.sub hc
        rw [e1, e2]
      have le : Le (ys.map (cellAt H)) := List.pairwise_map.mpr (so.imp_of_mem fun {x y} hx hy h => by rw [← same x (inv x hx), ← same y (inv y hy)]; exact h)
      have ndy : (ys.map (cellAt H)).Nodup := by
        have z : (ys.map (cellAt H)).Perm ((L.map fun p => V.ref p.1).map (cellAt H)) := pm.map _
        rw [z.nodup_iff, List.map_map]
        refine List.pairwise_map.mpr ((List.pairwise_map.mp nd).imp_of_mem fun {p r} hp hr ne e => ne ?_)
        obtain ⟨v, hv, rfl⟩ := hL p hp
        obtain ⟨u, hu, rfl⟩ := hL r hr
        have e : cellAt H (V.ref (adrC v)) = cellAt H (V.ref (adrC u)) := e
        rw [← (look v hv).1, ← (look u hu).1] at e
        rw [e]
      have e : ys.map (cellAt H) = nrm cs := by
        refine nrm_eq ?_ fun c => ?_
        · exact (List.Pairwise.and le ndy).imp fun {x y} h => ltC_iff.mpr ⟨h.1, h.2⟩
        · rw [← h1]
          constructor
          · intro z
            obtain ⟨y, hy, rfl⟩ := List.mem_map.mp z
            exact List.mem_map_of_mem (inv y hy)
          · intro z
            obtain ⟨v, hv, rfl⟩ := List.mem_map.mp z
            have a1 := all _ (List.mem_map_of_mem hv)
            obtain ⟨r, hr, er⟩ := List.mem_map.mp a1
            obtain ⟨u, hu, rfl⟩ := hL r hr
            have er : [(cellAt H u).1, (cellAt H u).2] = [(cellAt H v).1, (cellAt H v).2] := er
            have ec : cellAt H u = cellAt H v := by simp at er; exact Prod.ext er.1 er.2
            rw [← ec]
            refine List.mem_map_of_mem (pm.mem_iff.mpr ?_)
            have z := List.mem_map_of_mem (f := fun p : Addr × List Int => V.ref p.1) hr
            rw [(look u hu).1]; exact z
      refine newL R2 (xs := ((nrm cs).map cD).map .d) ?_ (.inl ⟨_, allD_map _, q⟩) k p hp
      rw [← e]
      exact (cells_dn R.sub dn).rds
theorem pjSetSortC {e : Expr} {ta : jTE} {p p2 q pos : Pos} (he : PEJ X e ta)
    (hp : ∀ {t0 : TE}, PE X e t0 -> PE X (.Call (.Name "sorted" p) [.Call (.Name "set" p2) [e] [] q] [] pos) (tCB (rSortedC X.prog X.w) (tCons (tCB (rSetC X.K X.prog X.w) (tCons t0 tNil)) tNil))) :
    PEJ X (.Call (.Name "sorted" p) [.Call (.Name "set" p2) [e] [] q] [] pos) (jSetSortC ta) := by
  obtain ⟨t0, p0, j0⟩ := he
  refine ⟨_, hp p0, fun E I H ls σ δ Q R V h W k => ?_⟩
  refine j0 E I H ls σ δ _ R V h _ fun v H1 ⟨I1, ls1, x, R1, s1, r1, q1⟩ => ?_
  have k1 : ∀ z H', PoE E X.K I1 Q z H' -> W z H' := fun z H' h => k z H' (h.up s1)
  dsimp only at q1
  split at q1
  · obtain ⟨cs, hcs, hl, q1⟩ := q1
    cases r1 with | d r1 =>
      obtain ⟨b, ys, rfl, h1, t⟩ := r1.lstI
      rw [cellsD_eq hcs] at t
      exact ss_run R1 (R1.sub _ _ h1) t hl q1 k1
  · obtain ⟨n, xs, cs, hn, rfl, hl, q1⟩ := q1
    obtain ⟨⟨us, h1, h2⟩, _⟩ := R1.find hn rfl
    cases r1
    exact ss_run R1 h1 h2.dn hl q1 k1
  · exact q1.elim
theorem pjSSC {k : Nat} {e : Expr} {ta : jTE} {p p2 q pos : Pos} (hr : Room k X.A) (hc : X.calm = true) (hm : X.mg "sorted" = none) (hm2 : X.mg "set" = none) (he : PEJ X e ta) (hg : Gl X "sorted" := by rfl) (hg2 : Gl X "set" := by rfl)
    (h1 : starEach [e] X.env = (false, eval e X.env) :: starEach [] X.env := by rfl) (h2 : (backTo q (starEach [] X.env)).any (·.1) = false := by rfl)
    (h3 : starEach [.Call (.Name "set" p2) [e] [] q] X.env = (false, eval (.Call (.Name "set" p2) [e] [] q) X.env) :: starEach [] X.env := by rfl) (h4 : (backTo pos (starEach [] X.env)).any (·.1) = false := by rfl) :
    PEJ X (.Call (.Name "sorted" p) [.Call (.Name "set" p2) [e] [] q] [] pos) (jSetSortC ta) :=
  pjSetSortC he fun p0 => pe_callB (cr_sortedC hc) hg hm (by decide +kernel) (pa_cons (pe_callTy (cr_setC hc (hu64 hr)) hg2 hm2 PyProof.Rows.boot_set (pa_cons p0 pa_nil h1) (by decide) (by decide) h1 h2) pa_nil h3) (by decide) (by decide) h3 h4
end
end J

/-! J14: promises about a part of the objects; lists of lists that are data from now on; x[::-1]; a list taken apart. -/
namespace J
open PySem PySem.Spec PyProof.Rows L2

/-! ### a promise about the part B of the objects -/
@[reducible] def Fr (js : JSp) : JSp := fun ds ls Q => ∃ A B : Ls, ls.Perm (A ++ B) ∧ js ds B fun x B' => Q x (A ++ B')
theorem Rel.forgetR {E : Ent} {K : PySem.W.Frag} {I H : Hp} {A B : Ls} (R : Rel E K I H (A ++ B)) : Rel E K I H B := R.forget
section
variable {P : Program} {w : World} {K : PySem.W.Frag} {mg : Str -> Option Value} {base : Heap}
theorem adrs_perm {a b : Ls} (p : a.Perm b) : ∀ x, x ∈ adrs a ↔ x ∈ adrs b := fun x => ((flats_perm p).map (·.1)).mem_iff
theorem fnFr {CX : CXT} {k : Nat} {f : Addr} {fd : FuncData} {ps : List Str} {js : JSp} (F : FnOk P w K mg base CX k f fd ps (spJ K js)) : FnOk P w K mg base CX k f fd ps (spJ K (Fr js)) := by
  refine F.imp fun vs H Q E h => ?_
  obtain ⟨I, ls, ds, W, R, r, ⟨A, B, p, h⟩, kk⟩ := h
  have RAB : Rel ⟨I, H, adrs ls⟩ K I H (A ++ B) := R.permL p
  have RB : Rel ⟨I, H, adrs ls⟩ K I H B := RAB.forget
  refine ⟨I, B, ds, _, RB.self, r, h, fun x B' v I' H' R' r' q => kk x (A ++ B') v I' H' ?_ r' q⟩
  exact RAB.frame R'
theorem Cal.fr {k : Nat} {x : Str} {ps : List Str} {js : JSp} (c : Cal P w K mg base k x ps js) : Cal P w K mg base k x ps (Fr js) := by
  obtain ⟨f, fd, F, r⟩ := c
  exact ⟨f, fd, fnFr F, r⟩
theorem Cam.fr {k : Nat} {C : Addr} {m : Str} {ps : List Str} {js : JSp} (c : Cam P w K mg base k C m ps js) : Cam P w K mg base k C m ps (Fr js) := by
  obtain ⟨f, fd, F, r⟩ := c
  exact ⟨f, fd, fnFr F, r⟩
theorem Cam.mono {j k : Nat} {C : Addr} {m : Str} {ps : List Str} {js : JSp} (c : Cam P w K mg base j C m ps js) (h : j ≤ k) : Cam P w K mg base k C m ps js := by
  obtain ⟨f, fd, F, r⟩ := c
  exact ⟨f, fd, F.mono h, r⟩
theorem Cal.mono {j k : Nat} {x : Str} {ps : List Str} {js : JSp} (c : Cal P w K mg base j x ps js) (h : j ≤ k) : Cal P w K mg base k x ps js := by
  obtain ⟨f, fd, F, r⟩ := c
  exact ⟨f, fd, F.mono h, r⟩
end

/-! ### a name's list of lists is data from here on -/
@[reducible] def jGhostL (i : Nat) (u : jTS) : jTS := fun N δ ls => match lk δ i with
  | some (.a p) => ∃ (qs : List (Addr × List PyData)) (rest : Ls), ls.Perm ((p, .lst (qs.map fun q => .a q.1)) :: ((qs.map fun q => (q.1, LO.lst (q.2.map .d))) ++ rest)) ∧ u N (st δ i (.d (.list (qs.map fun q => .list q.2)))) rest
  | _ => u N δ ls
theorem set_same {α : Type} {σ : List α} {i : Nat} {v : α} (a : σ[i]? = some v) : σ.set i v = σ := by
  apply List.ext_getElem?
  intro j
  by_cases hj : i = j
  · subst hj
    rw [List.getElem?_set_self (List.getElem?_eq_some_iff.mp a).1, a]
  · rw [List.getElem?_set_ne hj]
theorem pub_many {E : Ent} {K : PySem.W.Frag} {H : Hp} {x : Addr × LO} {rest : Ls} : ∀ (qs : List (Addr × List PyData)) (I : Hp), Rel E K I H (x :: ((qs.map fun q => (q.1, LO.lst (q.2.map .d))) ++ rest)) ->
    ∃ I', Rel E K I' H (x :: rest) ∧ Same I I' ∧ DnAll I' (qs.map fun q => V.ref q.1) (qs.map fun q => .list q.2)
  | [], I, R => ⟨I, R, Same.refl I, .nil⟩
  | q :: r, I, R => by
    obtain ⟨⟨vs, h1, h2⟩, _⟩ := R.find (n := 1) (p := q.1) (l := .lst (q.2.map .d)) rfl rfl
    obtain ⟨R4, s4⟩ := R.pub (n := 1) (p := q.1) (l := .lst (q.2.map .d)) rfl rfl h1
    obtain ⟨I', R5, s5, d⟩ := pub_many r _ R4
    exact ⟨I', R5, s4.trans s5, .cons (.lst (s5 _ _ upd_same) ((h2.dn.mono s4).mono s5)) d⟩
theorem refs_of {K : PySem.W.Frag} {I : Hp} : ∀ {vs : List V} {qs : List (Addr × List PyData)}, RDs K I vs (qs.map fun q => D.a q.1) -> vs = qs.map fun q => V.ref q.1
  | _, [], .nil => rfl
  | _, _ :: _, .cons h t => by cases h; rw [refs_of t]; rfl
section
variable {X : Cx}
theorem pbGhostL (i : Nat) {r : List Stmt} {u : jTS} (h : PBJ X r u) : PBJ X r (jGhostL i u) := by
  obtain ⟨t0, p0, j0⟩ := h
  refine ⟨_, p0, fun E I H ls σ δ N M R V k q => ?_⟩
  unfold jGhostL at q
  split at q
  · rename_i p hp
    obtain ⟨qs, rest, pm, q⟩ := q
    obtain ⟨I1, R1, s1, d1⟩ := pub_many qs I (R.permL pm)
    obtain ⟨⟨vs, h1, h2⟩, _⟩ := R1.find (n := 0) (p := p) (l := .lst (qs.map fun q => .a q.1)) rfl rfl
    obtain ⟨R4, s4⟩ := R1.pub (n := 0) (p := p) (l := .lst (qs.map fun q => .a q.1)) rfl rfl h1
    have e := refs_of h2
    subst e
    obtain ⟨v, a, b⟩ := V.2 i _ (lk_get _ _ _ hp)
    cases b
    have V4 := (V.mono (s1.trans s4)).set (RD.d (K := X.K) (.lst upd_same (d1.mono s4))) i
    rw [set_same a, ← st_eq] at V4
    exact j0 E _ H _ σ _ N M R4 V4 k q
  · exact j0 E I H ls σ δ N M R V k q

/-! ### x[::-1] of a list -/
@[reducible] def jRev (te : jTE) : jTE := fun δ ls Q => te δ ls fun x ls1 => match x with
  | .d (.list ds) => jNewL (ds.reverse.map .d) ls1 Q
  | .a p => ∃ (n : Nat) (xs : List D), ls1[n]? = some (p, .lst xs) ∧ jNewL xs.reverse ls1 Q
  | _ => False
theorem RDs.rev {K : PySem.W.Frag} {I : Hp} : ∀ {vs : List V} {xs : List D}, RDs K I vs xs -> RDs K I vs.reverse xs.reverse
  | _, _, .nil => .nil
  | v :: vs, x :: xs, .cons h t => by
    rw [List.reverse_cons, List.reverse_cons]
    exact t.rev.append (.cons h .nil)
theorem pjRev {e : Expr} {te : jTE} {k : Nat} {p1 p2 p3 pos : Pos} (h : PEJ X e te) : PEJ X (.Subscript e (.Slice none none (some (.UnaryOp .USub (.Constant (.int 1) k p1) p2)) p3) pos) (jRev te) := by
  obtain ⟨t0, p0, j0⟩ := h
  refine ⟨_, pe_revL p0, fun E I H ls σ δ Q R V h W k => ?_⟩
  refine j0 E I H ls σ δ _ R V h _ fun v H1 ⟨I1, ls1, x, R1, s1, r1, q1⟩ => ?_
  have k1 : ∀ z H', PoE E X.K I1 Q z H' -> W z H' := fun z H' h => k z H' (h.up s1)
  dsimp only at q1
  split at q1
  · cases r1 with | d r1 =>
      obtain ⟨b, ys, rfl, h1, t⟩ := r1.lstI
      refine ⟨b, ys, rfl, SqL.of (R1.sub _ _ h1), newL R1 ?_ q1 k1⟩
      rw [List.map_reverse]
      exact (t.rds (K := X.K)).rev
  · obtain ⟨n, xs, hn, q1⟩ := q1
    obtain ⟨⟨us, h1, h2⟩, _⟩ := R1.find hn rfl
    cases r1
    exact ⟨_, us, rfl, SqL.of h1, newL R1 h2.rev q1 k1⟩
  · exact q1.elim

/-! ### a, b = a list -/
@[reducible] def jgLst (n : Nat) (u : jTGs) : jTG := fun x δ ls Q => match x with
  | .d (.list ds) => ds.length = n ∧ u (mapD ds) δ ls Q
  | .a p => ∃ (m : Nat) (xs : List D), ls[m]? = some (p, .lst xs) ∧ xs.length = n ∧ u xs δ ls Q
  | _ => False
theorem pgLst {es : List Expr} {k : Nat} {u : jTGs} {n : Nat} {pos : Pos} (hc : X.calm = true) (h : PGsJ X es u)
    (hn : (assignEach es X.env).length = n := by rfl) (hst : (assignEach es X.env).findIdx? (·.1) = none := by rfl) : PGJ X (.Tuple es k pos) (jgLst n u) := by
  obtain ⟨t0, p0, j0⟩ := h
  refine ⟨_, pg_lst hc p0 hn hst, fun E I H ls σ δ v x Q R V r q W k => ?_⟩
  unfold jgLst at q
  split at q
  · cases r with | d r =>
      obtain ⟨a, xs, rfl, h, t⟩ := r.lstI
      exact ⟨a, xs, rfl, SqL.of (R.sub _ _ h), by rw [t.length]; exact q.1, j0 E I H ls σ δ _ _ _ R V t.rds (by rw [← mapD_eq]; exact q.2) _ k⟩
  · obtain ⟨m, ys, hm, hl, q⟩ := q
    obtain ⟨⟨us, h1, h2⟩, _⟩ := R.find hm rfl
    cases r
    exact ⟨_, us, rfl, SqL.of h1, by rw [h2.length]; exact hl, j0 E I H ls σ δ _ _ _ R V h2 q _ k⟩
  · exact q.elim
end
end J

/-! T0: squares of cells as trees; the plain rule on the floor. -/
namespace M
open PySem
/-- a floor -/
abbrev Pl := Int → Int → Bool
def sh (P : Pl) (i j : Int) : Pl := fun r c => P (r + i) (c + j)
theorem sh_sh (P : Pl) (i j a b : Int) : sh (sh P i j) a b = sh P (a + i) (b + j) := by
  funext r c; unfold sh; rw [Int.add_assoc, Int.add_assoc]
theorem sh_00 (P : Pl) : sh P 0 0 = P := by funext r c; unfold sh; rw [Int.add_zero, Int.add_zero]

inductive Tr where
  | lf (b : Bool)
  | nd (a b c d : Tr)
namespace Tr
def lev : Tr → Nat
  | lf _ => 0
  | nd a _ _ _ => a.lev + 1
def cnt : Tr → Nat
  | lf b => if b = true then 1 else 0
  | nd a b c d => a.cnt + b.cnt + c.cnt + d.cnt
def ok : Tr → Prop
  | lf _ => True
  | nd a b c d => a.ok ∧ b.ok ∧ c.ok ∧ d.ok ∧ b.lev = a.lev ∧ c.lev = a.lev ∧ d.lev = a.lev
def subs : Tr → List Tr
  | lf b => [lf b]
  | nd a b c d => nd a b c d :: (a.subs ++ (b.subs ++ (c.subs ++ d.subs)))
/-- the living cells of a square whose corner lies at (r, c), in the order in which they are met -/
def col : Tr → Int → Int → List Cell
  | lf b, r, c => if b = true then [(r, c)] else []
  | nd a b x d, r, c => a.col r c ++ (b.col r (c + 2 ^ a.lev) ++ (x.col (r + 2 ^ a.lev) c ++ d.col (r + 2 ^ a.lev) (c + 2 ^ a.lev)))
theorem self_sub : ∀ t : Tr, t ∈ t.subs
  | lf _ => List.mem_singleton.mpr rfl
  | nd _ _ _ _ => List.mem_cons_self
theorem col_len : ∀ (t : Tr) (r c : Int), (t.col r c).length = t.cnt
  | lf b, r, c => by cases b <;> rfl
  | nd a b x d, r, c => by simp only [col, cnt, List.length_append, a.col_len, b.col_len, x.col_len, d.col_len]; omega
end Tr

/-- the square of level l whose corner lies at (0, 0) -/
def bld : Nat → Pl → Tr
  | 0, P => .lf (P 0 0)
  | l + 1, P => .nd (bld l P) (bld l (sh P 0 (2 ^ l))) (bld l (sh P (2 ^ l) 0)) (bld l (sh P (2 ^ l) (2 ^ l)))
def emp (l : Nat) : Tr := bld l fun _ _ => false
theorem bld_lev : ∀ (l : Nat) (P : Pl), (bld l P).lev = l
  | 0, _ => rfl
  | l + 1, P => by rw [bld, Tr.lev, bld_lev l]
theorem bld_ok : ∀ (l : Nat) (P : Pl), (bld l P).ok
  | 0, _ => trivial
  | l + 1, P => ⟨bld_ok l _, bld_ok l _, bld_ok l _, bld_ok l _, by rw [bld_lev, bld_lev], by rw [bld_lev, bld_lev], by rw [bld_lev, bld_lev]⟩
theorem bld_succ (l : Nat) (P : Pl) (i j : Int) : bld (l + 1) (sh P i j) = .nd (bld l (sh P i j)) (bld l (sh P i (2 ^ l + j))) (bld l (sh P (2 ^ l + i) j)) (bld l (sh P (2 ^ l + i) (2 ^ l + j))) := by
  rw [bld, sh_sh, sh_sh, sh_sh, Int.zero_add, Int.zero_add]
theorem emp_succ (l : Nat) : emp (l + 1) = .nd (emp l) (emp l) (emp l) (emp l) := rfl
theorem emp_lev (l : Nat) : (emp l).lev = l := bld_lev l _
theorem p2s (l : Nat) : (2 : Int) ^ (l + 1) = 2 ^ l + 2 ^ l := by rw [Int.pow_succ]; omega
theorem p2p (l : Nat) : 0 < (2 : Int) ^ l := Int.pow_pos (by decide)
/-- what lies in the square alone counts -/
theorem bld_ext : ∀ (l : Nat) {P Q : Pl}, (∀ r c, 0 ≤ r → r < 2 ^ l → 0 ≤ c → c < 2 ^ l → P r c = Q r c) → bld l P = bld l Q
  | 0, P, Q, h => by rw [bld, bld, h 0 0 (by omega) (by decide) (by omega) (by decide)]
  | l + 1, P, Q, h => by
    have z := p2p l
    rw [p2s] at h
    rw [bld, bld]
    have e : ∀ i j : Int, (i = 0 ∨ i = 2 ^ l) → (j = 0 ∨ j = 2 ^ l) → bld l (sh P i j) = bld l (sh Q i j) := fun i j hi hj =>
      bld_ext l fun r c h1 h2 h3 h4 => h (r + i) (c + j) (by rcases hi with rfl | rfl <;> omega) (by rcases hi with rfl | rfl <;> omega) (by rcases hj with rfl | rfl <;> omega) (by rcases hj with rfl | rfl <;> omega)
    have e0 := e 0 0 (.inl rfl) (.inl rfl)
    rw [sh_00, sh_00] at e0
    rw [e0, e 0 _ (.inl rfl) (.inr rfl), e _ 0 (.inr rfl) (.inl rfl), e _ _ (.inr rfl) (.inr rfl)]
/-- which cells -/
theorem bld_col : ∀ (l : Nat) (P : Pl) (r c : Int) (x : Cell), x ∈ (bld l P).col r c ↔ (r ≤ x.1 ∧ x.1 < r + 2 ^ l ∧ c ≤ x.2 ∧ x.2 < c + 2 ^ l) ∧ P (x.1 - r) (x.2 - c) = true
  | 0, P, r, c, x => by
    obtain ⟨x1, x2⟩ := x
    rw [bld, Tr.col]
    cases e : P 0 0 with
    | true =>
      simp only [if_true, List.mem_singleton, Prod.mk.injEq, Int.pow_zero]
      constructor
      · rintro ⟨rfl, rfl⟩; exact ⟨by omega, by rw [Int.sub_self, Int.sub_self]; exact e⟩
      · rintro ⟨h, _⟩; omega
    | false =>
      simp only [Bool.false_eq_true, if_false, List.not_mem_nil, Int.pow_zero, false_iff]
      rintro ⟨h, z⟩
      rw [show x1 - r = 0 by omega, show x2 - c = 0 by omega, e] at z
      cases z
  | l + 1, P, r, c, x => by
    have z := p2p l
    rw [bld, Tr.col, List.mem_append, List.mem_append, List.mem_append, bld_lev, bld_col l, bld_col l, bld_col l, bld_col l, p2s]
    simp only [sh]
    have e1 : x.1 - (r + 2 ^ l) + 2 ^ l = x.1 - r := by omega
    have e2 : x.2 - (c + 2 ^ l) + 2 ^ l = x.2 - c := by omega
    rw [e1, e2, Int.add_zero, Int.add_zero]
    generalize P (x.1 - r) (x.2 - c) = b
    cases b
    · simp
    · simp only [and_true]
      omega
theorem bld_nodup : ∀ (l : Nat) (P : Pl) (r c : Int), ((bld l P).col r c).Nodup
  | 0, P, r, c => by
    rw [bld, Tr.col]
    split <;> simp
  | l + 1, P, r, c => by
    have z := p2p l
    rw [bld, Tr.col, bld_lev]
    simp only [List.nodup_append, List.mem_append, bld_col]
    refine ⟨bld_nodup l _ _ _, ⟨bld_nodup l _ _ _, ⟨bld_nodup l _ _ _, bld_nodup l _ _ _, ?_⟩, ?_⟩, ?_⟩
    · rintro a ⟨h1, _⟩ b ⟨h2, _⟩ rfl; omega
    · rintro a ⟨h1, _⟩ b (⟨h2, _⟩ | ⟨h2, _⟩) rfl <;> omega
    · rintro a ⟨h1, _⟩ b (⟨h2, _⟩ | ⟨h2, _⟩ | ⟨h2, _⟩) rfl <;> omega
/-- each whole square is one of these -/
def Tr.pl : Tr → Pl
  | .lf b => fun r c => b && decide (r = 0 ∧ c = 0)
  | .nd a b x d => fun r c => if r < 2 ^ a.lev then (if c < 2 ^ a.lev then a.pl r c else b.pl r (c - 2 ^ a.lev)) else (if c < 2 ^ a.lev then x.pl (r - 2 ^ a.lev) c else d.pl (r - 2 ^ a.lev) (c - 2 ^ a.lev))
theorem Tr.ok_bld : ∀ t : Tr, t.ok → t = bld t.lev t.pl
  | .lf b, _ => by cases b <;> rfl
  | .nd a b x d, h => by
    obtain ⟨ha, hb, hx, hd, e1, e2, e3⟩ := h
    have ia := a.ok_bld ha
    have ib := b.ok_bld hb
    have ix := x.ok_bld hx
    have id := d.ok_bld hd
    have z := p2p a.lev
    rw [Tr.lev, bld]
    rw [e1] at ib
    rw [e2] at ix
    rw [e3] at id
    congr 1
    · conv => lhs; rw [ia]
      exact bld_ext _ fun r c h1 h2 h3 h4 => by rw [Tr.pl]; dsimp only; rw [if_pos h2, if_pos h4]
    · conv => lhs; rw [ib]
      exact bld_ext _ fun r c h1 h2 h3 h4 => by rw [sh, Tr.pl]; dsimp only; rw [if_pos (by omega), if_neg (by omega), Int.add_zero, Int.add_sub_cancel]
    · conv => lhs; rw [ix]
      exact bld_ext _ fun r c h1 h2 h3 h4 => by rw [sh, Tr.pl]; dsimp only; rw [if_neg (by omega), if_pos (by omega), Int.add_zero, Int.add_sub_cancel]
    · conv => lhs; rw [id]
      exact bld_ext _ fun r c h1 h2 h3 h4 => by rw [sh, Tr.pl]; dsimp only; rw [if_neg (by omega), if_neg (by omega), Int.add_sub_cancel, Int.add_sub_cancel]
/-- the pattern of a square -/
def Tr.pat (t : Tr) : List Cell := nrm (t.col 0 0)
theorem bld_pat (l : Nat) (P : Pl) (x : Cell) : x ∈ (bld l P).pat ↔ (0 ≤ x.1 ∧ x.1 < 2 ^ l ∧ 0 ≤ x.2 ∧ x.2 < 2 ^ l) ∧ P x.1 x.2 = true := by
  unfold Tr.pat
  rw [nrm_mem, bld_col, Int.zero_add, Int.sub_zero, Int.sub_zero]
theorem pat_lt (t : Tr) : Lt t.pat := nrm_lt _
theorem ddp_self {α : Type} [DecidableEq α] : ∀ {l : List α}, l.Nodup → ddp l = l
  | [], _ => rfl
  | x :: r, h => by
    obtain ⟨h1, h2⟩ := List.nodup_cons.mp h
    rw [ddp, if_neg h1, ddp_self h2]
theorem bld_cnt (l : Nat) (P : Pl) : (bld l P).pat.length = (bld l P).cnt := by
  unfold Tr.pat nrm
  rw [srtC_len, ddp_self (bld_nodup l P 0 0), Tr.col_len]
theorem ok_cnt {t : Tr} (h : t.ok) : t.pat.length = t.cnt := by rw [t.ok_bld h]; exact bld_cnt _ _
/-- squares of one level and one pattern are one -/
theorem bld_inj {l : Nat} {P Q : Pl} (h : (bld l P).pat = (bld l Q).pat) : bld l P = bld l Q := by
  refine bld_ext l fun r c h1 h2 h3 h4 => ?_
  have z : ((r, c) : Cell) ∈ (bld l P).pat ↔ ((r, c) : Cell) ∈ (bld l Q).pat := by rw [h]
  rw [bld_pat, bld_pat] at z
  have z2 : P r c = true ↔ Q r c = true := ⟨fun e => (z.mp ⟨⟨h1, h2, h3, h4⟩, e⟩).2, fun e => (z.mpr ⟨⟨h1, h2, h3, h4⟩, e⟩).2⟩
  cases e1 : P r c <;> cases e2 : Q r c <;> simp [e1, e2] at z2 ⊢
/-- a list of cells as a floor -/
def mem (A : List Cell) : Pl := fun r c => decide ((r, c) ∈ A)
theorem mem_true {A : List Cell} {r c : Int} : mem A r c = true ↔ ((r, c) : Cell) ∈ A := by unfold mem; rw [decide_eq_true_eq]
/-- all cells lie in the square of a level -/
def inQ (l : Nat) (A : List Cell) : Prop := ∀ x ∈ A, 0 ≤ x.1 ∧ x.1 < 2 ^ l ∧ 0 ≤ x.2 ∧ x.2 < 2 ^ l
theorem mem_pat {l : Nat} {A : List Cell} (h : inQ l A) : (bld l (mem A)).pat = nrm A :=
  lt_ext (pat_lt _) (nrm_lt _) fun x => by
    rw [bld_pat, nrm_mem, mem_true]
    exact ⟨fun z => z.2, fun z => ⟨h x z, z⟩⟩
theorem emp_pat (l : Nat) : (emp l).pat = [] := by
  have : ∀ x, x ∉ (emp l).pat := fun x h => by
    have z := ((bld_pat l (fun _ _ => false) x).mp h).2
    cases z
  exact List.eq_nil_iff_forall_not_mem.mpr this
theorem bld_nil (l : Nat) : bld l (mem []) = emp l := bld_ext l fun r c _ _ _ _ => by simp [mem]
theorem subs_len : ∀ (l : Nat) (P : Pl), 3 * (bld l P).subs.length + 1 = 4 ^ (l + 1)
  | 0, P => by simp [bld, Tr.subs]
  | l + 1, P => by
    have h := fun Q => subs_len l Q
    have h1 := h P
    have h2 := h (sh P 0 (2 ^ l))
    have h3 := h (sh P (2 ^ l) 0)
    have h4 := h (sh P (2 ^ l) (2 ^ l))
    rw [bld, Tr.subs, List.length_cons, List.length_append, List.length_append, List.length_append, Nat.pow_succ]
    omega
end M

/-! T1: generations on the floor; futures of squares. -/
namespace M
open PySem
def offs : List Cell := [(-1, -1), (-1, 0), (-1, 1), (0, -1), (0, 1), (1, -1), (1, 0), (1, 1)]
def b01 (b : Bool) : Int := if b = true then 1 else 0
/-- the number of living neighbours -/
def nb (P : Pl) (r c : Int) : Int := (offs.map fun o => b01 (P (r + o.1) (c + o.2))).sum
/-- the next generation -/
def nxP (bs ss : List Int) (P : Pl) : Pl := fun r c => lv bs ss (P r c) (nb P r c)
def itP (bs ss : List Int) : Nat → Pl → Pl
  | 0, P => P
  | n + 1, P => nxP bs ss (itP bs ss n P)
theorem offs_bd {o : Cell} (h : o ∈ offs) : -1 ≤ o.1 ∧ o.1 ≤ 1 ∧ -1 ≤ o.2 ∧ o.2 ≤ 1 := by
  have : ∀ o ∈ offs, -1 ≤ o.1 ∧ o.1 ≤ 1 ∧ -1 ≤ o.2 ∧ o.2 ≤ 1 := by decide
  exact this o h
theorem nb_ext {P Q : Pl} {r c r' c' : Int} (h : ∀ a b : Int, -1 ≤ a → a ≤ 1 → -1 ≤ b → b ≤ 1 → P (r + a) (c + b) = Q (r' + a) (c' + b)) : nb P r c = nb Q r' c' := by
  unfold nb
  congr 1
  refine List.map_congr_left fun o ho => ?_
  obtain ⟨h1, h2, h3, h4⟩ := offs_bd ho
  rw [h _ _ h1 h2 h3 h4]
theorem nxP_ext {bs ss : List Int} {P Q : Pl} {r c r' c' : Int} (h : ∀ a b : Int, -1 ≤ a → a ≤ 1 → -1 ≤ b → b ≤ 1 → P (r + a) (c + b) = Q (r' + a) (c' + b)) : nxP bs ss P r c = nxP bs ss Q r' c' := by
  unfold nxP
  have z := h 0 0 (by decide) (by decide) (by decide) (by decide)
  rw [Int.add_zero, Int.add_zero, Int.add_zero, Int.add_zero] at z
  rw [z, nb_ext h]
theorem nxP_sh (bs ss : List Int) (P : Pl) (i j : Int) : nxP bs ss (sh P i j) = sh (nxP bs ss P) i j := by
  funext r c
  show nxP bs ss (sh P i j) r c = nxP bs ss P (r + i) (c + j)
  exact nxP_ext fun a b _ _ _ _ => by unfold sh; rw [show r + a + i = r + i + a by omega, show c + b + j = c + j + b by omega]
theorem itP_sh (bs ss : List Int) (P : Pl) (i j : Int) : ∀ n, itP bs ss n (sh P i j) = sh (itP bs ss n P) i j
  | 0 => rfl
  | n + 1 => by rw [itP, itP_sh bs ss P i j n, nxP_sh, itP]
theorem itP_add (bs ss : List Int) (P : Pl) (m : Nat) : ∀ n, itP bs ss (n + m) P = itP bs ss n (itP bs ss m P)
  | 0 => by rw [Nat.zero_add]; rfl
  | n + 1 => by rw [show n + 1 + m = (n + m) + 1 by omega, itP, itP_add bs ss P m n, itP]
theorem itP_succ (bs ss : List Int) (P : Pl) (n : Nat) : itP bs ss (n + 1) P = itP bs ss n (nxP bs ss P) := itP_add bs ss P 1 n
/-- what is near alone counts -/
theorem itP_loc (bs ss : List Int) {P Q : Pl} : ∀ (n : Nat) (r c : Int), (∀ r' c' : Int, r - n ≤ r' → r' ≤ r + n → c - n ≤ c' → c' ≤ c + n → P r' c' = Q r' c') → itP bs ss n P r c = itP bs ss n Q r c
  | 0, r, c, h => h r c (by omega) (by omega) (by omega) (by omega)
  | n + 1, r, c, h => by
    rw [itP, itP]
    exact nxP_ext fun a b h1 h2 h3 h4 => itP_loc bs ss n (r + a) (c + b) fun r' c' g1 g2 g3 g4 => h r' c' (by omega) (by omega) (by omega) (by omega)
theorem itP_same {bs ss bs' ss' : List Int} (h1 : SameS bs bs') (h2 : SameS ss ss') (P : Pl) : ∀ n, itP bs' ss' n P = itP bs ss n P
  | 0 => rfl
  | n + 1 => by
    rw [itP, itP, itP_same h1 h2 P n]
    funext r c
    exact lv_same h1.2 h2.2 _ _
/-! ### lists of cells -/
theorem ind_sum {α : Type} (p : α → Bool) : ∀ l : List α, ((l.map fun a => b01 (p a)).sum : Int) = ((l.filter p).length : Int)
  | [] => rfl
  | a :: l => by
    rw [List.map_cons, List.sum_cons, ind_sum p l, List.filter_cons]
    cases p a <;> simp [b01] <;> omega
theorem cnt_nb {L : List Cell} (h : L.Nodup) (x : Cell) : (cnt L x : Int) = nb (mem L) x.1 x.2 := by
  unfold nb
  rw [ind_sum (fun o : Cell => mem L (x.1 + o.1) (x.2 + o.2)) offs]
  unfold cnt
  have p : (L.filter fun a => ad a x).Perm ((offs.filter fun o : Cell => mem L (x.1 + o.1) (x.2 + o.2)).map fun o => ((x.1 + o.1, x.2 + o.2) : Cell)) := by
    refine (List.perm_ext_iff_of_nodup (h.filter _) ?_).mpr fun a => ?_
    · refine List.pairwise_map.mpr ((List.Pairwise.filter _ (show offs.Nodup by decide)).imp fun {o p} ne e => ne ?_)
      have e1 := congrArg Prod.fst e
      have e2 := congrArg Prod.snd e
      simp only at e1 e2
      exact Prod.ext (by omega) (by omega)
    · simp only [List.mem_filter, List.mem_map, mem_true, ad_iff]
      constructor
      · rintro ⟨h1, h2, h3, h4, h5, h6⟩
        refine ⟨(a.1 - x.1, a.2 - x.2), ⟨?_, ?_⟩, Prod.ext (by dsimp only; omega) (by dsimp only; omega)⟩
        · have e1 : a.1 - x.1 = -1 ∨ a.1 - x.1 = 0 ∨ a.1 - x.1 = 1 := by omega
          have e2 : a.2 - x.2 = -1 ∨ a.2 - x.2 = 0 ∨ a.2 - x.2 = 1 := by omega
          rcases e1 with e1 | e1 | e1 <;> rcases e2 with e2 | e2 | e2 <;> rw [e1, e2] <;> first | decide | exact absurd (Prod.ext (by omega) (by omega)) h2
        · dsimp only
          rw [show x.1 + (a.1 - x.1) = a.1 by omega, show x.2 + (a.2 - x.2) = a.2 by omega]
          exact h1
      · rintro ⟨o, ⟨ho, hL⟩, rfl⟩
        have b := offs_bd ho
        refine ⟨hL, fun e => ?_, by omega, by omega, by omega, by omega⟩
        have e1 := congrArg Prod.fst e
        have e2 := congrArg Prod.snd e
        simp only at e1 e2
        have e0 : o = (0, 0) := Prod.ext (by dsimp only; omega) (by dsimp only; omega)
        subst e0
        revert ho; decide
  rw [p.length_eq, List.length_map]
theorem mem_ddp (A : List Cell) : mem (ddp A) = mem A := by
  funext r c; unfold mem; simp only [ddp_mem]
theorem nxt_nxP {A : List Cell} {bs ss : List Int} (hb : ∀ b ∈ bs, 1 ≤ b) : mem (nxt A bs ss) = nxP bs ss (mem A) := by
  funext r c
  have e : decide (((r, c) : Cell) ∈ nxt A bs ss) = lvN (ddp A) bs ss (r, c) := by
    rw [show lvN (ddp A) bs ss (r, c) = decide (lvN (ddp A) bs ss (r, c) = true) by simp]
    exact decide_eq_decide.mpr nxt_mem
  show decide (((r, c) : Cell) ∈ nxt A bs ss) = _
  rw [e]
  unfold lvN nxP
  rw [cnt_nb (ddp_nodup A), mem_ddp]
  have e2 : decide (((r, c) : Cell) ∈ ddp A) = mem A r c := by rw [← mem_ddp]; rfl
  rw [e2]
  cases hm : mem A r c with
  | true => simp
  | false =>
    cases h1 : lv bs ss false (nb (mem A) r c) with
    | false => rfl
    | true =>
      have h2 : nb (mem A) r c ∈ bs := by
        unfold lv at h1
        simpa using h1
      have h3 := hb _ h2
      have h4 := cnt_nb (ddp_nodup A) (r, c)
      rw [mem_ddp] at h4
      have h4 : (cnt (ddp A) (r, c) : Int) = nb (mem A) r c := h4
      have : 1 ≤ cnt (ddp A) (r, c) := by omega
      simp [this]
/-- some generations of a list -/
def itL (bs ss : List Int) : Nat → List Cell → List Cell
  | 0, A => A
  | n + 1, A => nxt (itL bs ss n A) bs ss
theorem itL_itP {bs ss : List Int} (hb : ∀ b ∈ bs, 1 ≤ b) (A : List Cell) : ∀ n, mem (itL bs ss n A) = itP bs ss n (mem A)
  | 0 => rfl
  | n + 1 => by rw [itL, nxt_nxP hb, itL_itP hb A n, itP]
theorem itL_lt {bs ss : List Int} {A : List Cell} (h : Lt A) : ∀ n, Lt (itL bs ss n A)
  | 0 => h
  | n + 1 => nxt_lt _ _ _
/-! ### futures -/
section
variable (bs ss : List Int)
/-- the middle of the square of level k + 2 after 2^j generations -/
def fu (k j : Nat) (P : Pl) : Tr := bld (k + 1) (sh (itP bs ss (2 ^ j) P) (2 ^ k) (2 ^ k))
variable {bs ss}
theorem p2le {j k : Nat} (h : j ≤ k) : (2 : Int) ^ j ≤ 2 ^ k := by
  have z := Nat.pow_le_pow_right (n := 2) (by decide) h
  have e1 : ((2 ^ j : Nat) : Int) = 2 ^ j := by push_cast; rfl
  have e2 : ((2 ^ k : Nat) : Int) = 2 ^ k := by push_cast; rfl
  rw [← e1, ← e2]
  exact Int.ofNat_le.mpr z
theorem p2c (j : Nat) : ((2 ^ j : Nat) : Int) = 2 ^ j := by push_cast; rfl
theorem fu_ext {k j : Nat} {P Q : Pl} (hj : j ≤ k) (h : ∀ r c, 0 ≤ r → r < 2 ^ (k + 2) → 0 ≤ c → c < 2 ^ (k + 2) → P r c = Q r c) : fu bs ss k j P = fu bs ss k j Q := by
  refine bld_ext _ fun r c h1 h2 h3 h4 => ?_
  have z := p2le hj
  have e1 := p2s k
  have e2 : (2 : Int) ^ (k + 2) = 2 ^ (k + 1) + 2 ^ (k + 1) := p2s (k + 1)
  have e3 := p2c j
  exact itP_loc bs ss (2 ^ j) _ _ fun r' c' g1 g2 g3 g4 => h r' c' (by omega) (by omega) (by omega) (by omega)
theorem bld_agree {l : Nat} {P Q : Pl} (h : bld l P = bld l Q) : ∀ r c, 0 ≤ r → r < 2 ^ l → 0 ≤ c → c < 2 ^ l → P r c = Q r c := fun r c h1 h2 h3 h4 => by
  have z : ((r, c) : Cell) ∈ (bld l P).pat ↔ ((r, c) : Cell) ∈ (bld l Q).pat := by rw [h]
  rw [bld_pat, bld_pat] at z
  have z2 : P r c = true ↔ Q r c = true := ⟨fun e => (z.mp ⟨⟨h1, h2, h3, h4⟩, e⟩).2, fun e => (z.mpr ⟨⟨h1, h2, h3, h4⟩, e⟩).2⟩
  cases e1 : P r c <;> cases e2 : Q r c <;> simp [e1, e2] at z2 ⊢
theorem fu_eq {k j : Nat} {P Q : Pl} (hj : j ≤ k) (h : bld (k + 2) P = bld (k + 2) Q) : fu bs ss k j P = fu bs ss k j Q := fu_ext hj (bld_agree h)
/-- the part of level k + 1 in row i, column j of sixteen -/
def pt (k : Nat) (P : Pl) (i j : Int) : Tr := bld (k + 1) (sh P (i * 2 ^ (k + 1)) (j * 2 ^ (k + 1)))
/-- the square of level k + 2 in row i, column j of nine -/
def ni (k : Nat) (P : Pl) (i j : Int) : Tr := bld (k + 2) (sh P (i * 2 ^ (k + 1)) (j * 2 ^ (k + 1)))
theorem ni_parts (k : Nat) (P : Pl) (i j : Int) : ni k P i j = .nd (pt k P i j) (pt k P i (j + 1)) (pt k P (i + 1) j) (pt k P (i + 1) (j + 1)) := by
  unfold ni pt
  rw [bld_succ, Int.add_mul, Int.add_mul, Int.one_mul, Int.add_comm (2 ^ (k + 1)), Int.add_comm (2 ^ (k + 1))]
theorem top_parts (k : Nat) (P : Pl) : bld (k + 3) P = .nd (ni k P 0 0) (ni k P 0 2) (ni k P 2 0) (ni k P 2 2) := by
  have e := bld_succ (k + 2) P 0 0
  rw [sh_00] at e
  rw [e]
  unfold ni
  rw [Int.zero_mul, p2s (k + 1), Int.add_zero, show (2 : Int) * 2 ^ (k + 1) = 2 ^ (k + 1) + 2 ^ (k + 1) by omega, sh_00]
/-- where the inner squares stand -/
def inn (k : Nat) (R : Pl) (i j : Int) : Tr := bld (k + 1) (sh R (i * 2 ^ (k + 1) + 2 ^ k) (j * 2 ^ (k + 1) + 2 ^ k))
def whl (k : Nat) (R : Pl) (i j : Int) : Pl := sh R (i * 2 ^ (k + 1) + 2 ^ k) (j * 2 ^ (k + 1) + 2 ^ k)
theorem whl_parts (k : Nat) (R : Pl) (i j : Int) : bld (k + 2) (whl k R i j) = .nd (inn k R i j) (inn k R i (j + 1)) (inn k R (i + 1) j) (inn k R (i + 1) (j + 1)) := by
  unfold whl inn
  rw [bld_succ, Int.add_mul, Int.add_mul, Int.one_mul, show (2 : Int) ^ (k + 1) + (i * 2 ^ (k + 1) + 2 ^ k) = i * 2 ^ (k + 1) + 2 ^ (k + 1) + 2 ^ k by omega, show (2 : Int) ^ (k + 1) + (j * 2 ^ (k + 1) + 2 ^ k) = j * 2 ^ (k + 1) + 2 ^ (k + 1) + 2 ^ k by omega]
/-- the middle -/
def md (l : Nat) (P : Pl) : Tr := bld (l + 1) (sh P (2 ^ l) (2 ^ l))
theorem md_inn (k : Nat) (P : Pl) (i j : Int) : md k (sh P (i * 2 ^ (k + 1)) (j * 2 ^ (k + 1))) = inn k P i j := by
  unfold md inn
  rw [sh_sh, Int.add_comm, Int.add_comm (2 ^ k)]
theorem fu_inn (k : Nat) (P : Pl) (i j : Int) : fu bs ss k k (sh P (i * 2 ^ (k + 1)) (j * 2 ^ (k + 1))) = inn k (itP bs ss (2 ^ k) P) i j := by
  unfold fu inn
  rw [itP_sh, sh_sh, Int.add_comm, Int.add_comm (2 ^ k)]
/-- the four futures make the future -/
theorem fu_slow (k j : Nat) (P : Pl) : fu bs ss (k + 1) j P = .nd (fu bs ss k j (whl k P 0 0)) (fu bs ss k j (whl k P 0 1)) (fu bs ss k j (whl k P 1 0)) (fu bs ss k j (whl k P 1 1)) := by
  unfold fu whl
  rw [bld_succ]
  simp only [itP_sh, sh_sh, Int.zero_mul, Int.one_mul, Int.zero_add]
  rw [p2s k]
  have e1 : (2 : Int) ^ k + (2 ^ k + 2 ^ k + 2 ^ k) = 2 ^ k + 2 ^ k + (2 ^ k + 2 ^ k) := by omega
  rw [e1]
theorem fu_fast (k : Nat) (P : Pl) : fu bs ss (k + 1) (k + 1) P = .nd (fu bs ss k k (whl k (itP bs ss (2 ^ k) P) 0 0)) (fu bs ss k k (whl k (itP bs ss (2 ^ k) P) 0 1)) (fu bs ss k k (whl k (itP bs ss (2 ^ k) P) 1 0)) (fu bs ss k k (whl k (itP bs ss (2 ^ k) P) 1 1)) := by
  rw [← fu_slow]
  unfold fu
  rw [← itP_add, Nat.pow_succ, show 2 ^ k * 2 = 2 ^ k + 2 ^ k by omega]
/-- the floors of the nine, of the four -/
def nineP (k : Nat) (P : Pl) : List Pl := [((0 : Int), (0 : Int)), (0, 1), (0, 2), (1, 0), (1, 1), (1, 2), (2, 0), (2, 1), (2, 2)].map fun p => sh P (p.1 * 2 ^ (k + 1)) (p.2 * 2 ^ (k + 1))
def fourP (k : Nat) (R : Pl) : List Pl := [((0 : Int), (0 : Int)), (0, 1), (1, 0), (1, 1)].map fun p => whl k R p.1 p.2
variable (bs ss)
/-- the squares that a future makes -/
def lF : Nat → Nat → Pl → List Tr
  | 0, j, P => [fu bs ss 0 j P]
  | k + 1, j, P => if j = k + 1 then
      (nineP k P).map (bld (k + 2)) ++ ((nineP k P).flatMap (lF k k) ++ ((fourP k (itP bs ss (2 ^ k) P)).map (bld (k + 2)) ++ ((fourP k (itP bs ss (2 ^ k) P)).flatMap (lF k k) ++ [fu bs ss (k + 1) j P])))
    else (nineP k P).map (bld (k + 2)) ++ ((nineP k P).map (md k) ++ ((fourP k P).map (bld (k + 2)) ++ ((fourP k P).flatMap (lF k j) ++ [fu bs ss (k + 1) j P])))
/-- the futures that it asks -/
def lG : Nat → Nat → Pl → List (Tr × Nat)
  | 0, j, P => [(bld 2 P, j)]
  | k + 1, j, P => (bld (k + 3) P, j) :: if j = k + 1 then (nineP k P).flatMap (lG k k) ++ (fourP k (itP bs ss (2 ^ k) P)).flatMap (lG k k) else (fourP k P).flatMap (lG k j)
def cF : Nat → Nat
  | 0 => 1
  | k + 1 => 14 + 13 * cF k
def cG : Nat → Nat
  | 0 => 1
  | k + 1 => 1 + 13 * cG k
variable {bs ss}
theorem flatm_len {α β : Type} {f : α → List β} {n : Nat} : ∀ {l : List α}, (∀ a ∈ l, (f a).length ≤ n) → (l.flatMap f).length ≤ l.length * n
  | [], _ => by simp
  | a :: l, h => by
    rw [List.flatMap_cons, List.length_append, List.length_cons, Nat.succ_mul]
    have h1 := h a List.mem_cons_self
    have h2 := flatm_len (l := l) fun b hb => h b (List.mem_cons_of_mem _ hb)
    omega
theorem nineP_len (k : Nat) (P : Pl) : (nineP k P).length = 9 := rfl
theorem fourP_len (k : Nat) (P : Pl) : (fourP k P).length = 4 := rfl
theorem cF_pos : ∀ k, 1 ≤ cF k
  | 0 => Nat.le_refl _
  | k + 1 => by unfold cF; omega
theorem lF_len : ∀ (k j : Nat) (P : Pl), (lF bs ss k j P).length ≤ cF k
  | 0, j, P => Nat.le_refl _
  | k + 1, j, P => by
    have z := cF_pos k
    unfold lF cF
    split
    · have h1 := flatm_len (f := lF bs ss k k) (n := cF k) (l := nineP k P) fun Q _ => lF_len k k Q
      have h2 := flatm_len (f := lF bs ss k k) (n := cF k) (l := fourP k (itP bs ss (2 ^ k) P)) fun Q _ => lF_len k k Q
      simp only [List.length_append, List.length_map, nineP_len, fourP_len, List.length_cons, List.length_nil] at h1 h2 ⊢
      omega
    · have h2 := flatm_len (f := lF bs ss k j) (n := cF k) (l := fourP k P) fun Q _ => lF_len k j Q
      simp only [List.length_append, List.length_map, nineP_len, fourP_len, List.length_cons, List.length_nil] at h2 ⊢
      omega
theorem lG_len : ∀ (k j : Nat) (P : Pl), (lG bs ss k j P).length ≤ cG k
  | 0, j, P => Nat.le_refl _
  | k + 1, j, P => by
    unfold lG cG
    rw [List.length_cons]
    split
    · have h1 := flatm_len (f := lG bs ss k k) (n := cG k) (l := nineP k P) fun Q _ => lG_len k k Q
      have h2 := flatm_len (f := lG bs ss k k) (n := cG k) (l := fourP k (itP bs ss (2 ^ k) P)) fun Q _ => lG_len k k Q
      simp only [List.length_append, nineP_len, fourP_len] at h1 h2 ⊢
      omega
    · have h2 := flatm_len (f := lG bs ss k j) (n := cG k) (l := fourP k P) fun Q _ => lG_len k j Q
      simp only [fourP_len] at h2
      omega
end
end M

/-! T2: what a store keeps. -/
namespace M
open PySem PySem.Spec PyProof.Rows L2 J
abbrev Q4 := Nat × Nat × Nat × Nat
/-- the tree that a number stands for -/
inductive Dnt (ks : List Q4) : Nat → Tr → Prop
  | z : Dnt ks 0 (.lf false)
  | o : Dnt ks 1 (.lf true)
  | q {i a b c d : Nat} {ta tb tc td : Tr} : ks[i]? = some (a, b, c, d) → Dnt ks a ta → Dnt ks b tb → Dnt ks c tc → Dnt ks d td → Dnt ks (i + 2) (.nd ta tb tc td)
section
variable {ks : List Q4} {n m : Nat} {t u : Tr}
theorem Dnt.fn (h : Dnt ks n t) : ∀ {u : Tr}, Dnt ks n u → t = u := by
  induction h with
  | z => intro u h2; cases h2; rfl
  | o => intro u h2; cases h2; rfl
  | q e _ _ _ _ ia ib ic id =>
    intro u h2
    cases h2 with
    | q e2 ha hb hc hd =>
      rw [e] at e2
      cases e2
      rw [ia ha, ib hb, ic hc, id hd]
theorem get_inj {α : Type} {l : List α} (nd : l.Nodup) {i j : Nat} {x : α} (h1 : l[i]? = some x) (h2 : l[j]? = some x) : i = j := by
  induction l generalizing i j with
  | nil => simp at h1
  | cons a r ih =>
    obtain ⟨n1, n2⟩ := List.nodup_cons.mp nd
    cases i with
    | zero =>
      cases j with
      | zero => rfl
      | succ j =>
        simp at h1 h2
        subst h1
        exact absurd (List.mem_of_getElem? h2) n1
    | succ i =>
      cases j with
      | zero =>
        simp at h1 h2
        subst h2
        exact absurd (List.mem_of_getElem? h1) n1
      | succ j => exact congrArg (· + 1) (ih n2 (i := i) (j := j) (by simpa using h1) (by simpa using h2))
theorem Dnt.inj (nd : ks.Nodup) (h : Dnt ks n t) : ∀ {m : Nat}, Dnt ks m t → n = m := by
  induction h with
  | z => intro m h2; cases h2; rfl
  | o => intro m h2; cases h2; rfl
  | q e _ _ _ _ ia ib ic id =>
    intro m h2
    cases h2 with
    | q e2 ha hb hc hd =>
      have z1 := ia ha
      have z2 := ib hb
      have z3 := ic hc
      have z4 := id hd
      subst z1; subst z2; subst z3; subst z4
      have z := get_inj nd e e2
      rw [z]
theorem Dnt.lt (h : Dnt ks n t) : n < ks.length + 2 := by
  cases h with
  | z => omega
  | o => omega
  | q e _ _ _ _ =>
    have := (List.getElem?_eq_some_iff.mp e).1
    omega
theorem Dnt.up (r : List Q4) (h : Dnt ks n t) : Dnt (ks ++ r) n t := by
  induction h with
  | z => exact .z
  | o => exact .o
  | q e _ _ _ _ ia ib ic id => exact .q (by rw [List.getElem?_append_left (List.getElem?_eq_some_iff.mp e).1]; exact e) ia ib ic id
/-- the parts of a square of a higher level -/
theorem Dnt.parts {a b c d : Tr} (h : Dnt ks n (.nd a b c d)) : ∃ i na nb nc nd, n = i + 2 ∧ ks[i]? = some (na, nb, nc, nd) ∧ Dnt ks na a ∧ Dnt ks nb b ∧ Dnt ks nc c ∧ Dnt ks nd d := by
  cases h with
  | q e ha hb hc hd => exact ⟨_, _, _, _, _, rfl, e, ha, hb, hc, hd⟩
end
theorem nodup_le {α : Type} : ∀ {l D : List α}, l.Nodup → (∀ x ∈ l, x ∈ D) → l.length ≤ D.length
  | [], _, _, _ => Nat.zero_le _
  | x :: l, D, hn, hs => by
    classical
    obtain ⟨h1, h2⟩ := List.nodup_cons.mp hn
    have hx := hs x List.mem_cons_self
    have ih := nodup_le (D := D.erase x) h2 fun y hy => (List.mem_erase_of_ne (by rintro rfl; exact h1 hy)).mpr (hs y (List.mem_cons_of_mem _ hy))
    rw [List.length_erase_of_mem hx] at ih
    have := List.length_pos_of_mem hx
    simp only [List.length_cons]
    omega
/-- a store -/
structure SS where
  ks : List Q4
  lv : List Nat
  ct : List Nat
  ft : List ((Nat × Nat) × Nat)
  el : List Nat
structure SOk (bs ss : List Int) (S : SS) (F : List Tr) (G : List (Tr × Nat)) : Prop where
  nd : S.ks.Nodup
  all : ∀ n, n < S.ks.length + 2 → ∃ t, Dnt S.ks n t ∧ t.ok ∧ t ∈ F ∧ S.lv[n]? = some t.lev ∧ S.ct[n]? = some t.cnt
  lvl : S.lv.length = S.ks.length + 2
  ctl : S.ct.length = S.ks.length + 2
  fts : ∀ e ∈ S.ft, ∃ k P, Dnt S.ks e.1.1 (bld (k + 2) P) ∧ e.1.2 ≤ k ∧ Dnt S.ks e.2 (fu bs ss k e.1.2 P) ∧ (bld (k + 2) P, e.1.2) ∈ G
  ftn : (S.ft.map (·.1)).Nodup
  els : ∀ i m, S.el[i]? = some m → Dnt S.ks m (emp i)
  el0 : 0 < S.el.length
  big : F.length ≤ 16000000
  bigG : G.length ≤ 16000000
/-- what comes later -/
def SS.le (S S' : SS) : Prop := ∃ r, S'.ks = S.ks ++ r
theorem SS.le_refl (S : SS) : S.le S := ⟨[], by simp⟩
theorem SS.le.trans {A B C : SS} (h1 : A.le B) (h2 : B.le C) : A.le C := by
  obtain ⟨r, e⟩ := h1
  obtain ⟨q, f⟩ := h2
  exact ⟨r ++ q, by rw [f, e, List.append_assoc]⟩
theorem Dnt.le {S S' : SS} {n : Nat} {t : Tr} (h : Dnt S.ks n t) (l : S.le S') : Dnt S'.ks n t := by
  obtain ⟨r, e⟩ := l
  rw [e]; exact h.up r
section
variable {bs ss : List Int} {S : SS} {F : List Tr} {G : List (Tr × Nat)} {n m : Nat} {t : Tr}
theorem SOk.mono (O : SOk bs ss S F G) {F' : List Tr} {G' : List (Tr × Nat)} (hF : ∀ x ∈ F, x ∈ F') (hG : ∀ x ∈ G, x ∈ G') (b : F'.length ≤ 16000000) (b2 : G'.length ≤ 16000000) : SOk bs ss S F' G' :=
  ⟨O.nd, fun n hn => let ⟨t, h1, h2, h3, h4⟩ := O.all n hn; ⟨t, h1, h2, hF t h3, h4⟩, O.lvl, O.ctl, fun e he => let ⟨k, P, h1, h2, h3, h4⟩ := O.fts e he; ⟨k, P, h1, h2, h3, hG _ h4⟩, O.ftn, O.els, O.el0, b, b2⟩
theorem SOk.at (O : SOk bs ss S F G) (h : Dnt S.ks n t) : t.ok ∧ t ∈ F ∧ S.lv[n]? = some t.lev ∧ S.ct[n]? = some t.cnt := by
  obtain ⟨u, h1, h2⟩ := O.all n h.lt
  rw [h.fn h1]; exact h2
theorem SOk.len (O : SOk bs ss S F G) : S.ks.length + 2 ≤ F.length := by
  classical
  have key : ∀ k, k ≤ S.ks.length + 2 → ∃ l : List Tr, l.length = k ∧ l.Nodup ∧ (∀ x ∈ l, ∃ n, n < k ∧ Dnt S.ks n x) ∧ ∀ x ∈ l, x ∈ F := by
    intro k
    induction k with
    | zero => intro _; exact ⟨[], rfl, List.nodup_nil, by simp, by simp⟩
    | succ k ih =>
      intro hk
      obtain ⟨l, h1, h2, h3, h4⟩ := ih (by omega)
      obtain ⟨t, g1, _, g3, _⟩ := O.all k (by omega)
      refine ⟨t :: l, by simp [h1], List.nodup_cons.mpr ⟨fun z => ?_, h2⟩, fun x hx => ?_, fun x hx => ?_⟩
      · obtain ⟨n, hn, dn⟩ := h3 t z
        have := g1.inj O.nd dn
        omega
      · rcases List.mem_cons.mp hx with rfl | hx
        · exact ⟨k, by omega, g1⟩
        · obtain ⟨n, hn, dn⟩ := h3 x hx
          exact ⟨n, by omega, dn⟩
      · rcases List.mem_cons.mp hx with rfl | hx
        · exact g3
        · exact h4 x hx
  obtain ⟨l, h1, h2, _, h4⟩ := key _ (Nat.le_refl _)
  rw [← h1]
  exact nodup_le h2 h4
theorem SOk.ftlen (O : SOk bs ss S F G) : S.ft.length ≤ G.length := by
  have key : ∀ l : List ((Nat × Nat) × Nat), (∀ e ∈ l, e ∈ S.ft) → (l.map (·.1)).Nodup → ∃ g : List (Tr × Nat), g.length = l.length ∧ g.Nodup ∧ (∀ x ∈ g, x ∈ G) ∧ ∀ x ∈ g, ∃ e ∈ l, Dnt S.ks e.1.1 x.1 ∧ e.1.2 = x.2 := by
    intro l
    induction l with
    | nil => intro _ _; exact ⟨[], rfl, List.nodup_nil, by simp, by simp⟩
    | cons e r ih =>
      intro hs nd
      obtain ⟨n1, n2⟩ := List.nodup_cons.mp nd
      obtain ⟨g, h1, h2, h3, h4⟩ := ih (fun x hx => hs x (List.mem_cons_of_mem _ hx)) n2
      obtain ⟨k, P, d1, d2, _, d4⟩ := O.fts e (hs e List.mem_cons_self)
      refine ⟨(bld (k + 2) P, e.1.2) :: g, by simp [h1], List.nodup_cons.mpr ⟨fun z => ?_, h2⟩, fun x hx => ?_, fun x hx => ?_⟩
      · obtain ⟨e', he', q1, q2⟩ := h4 _ z
        have q3 := q1.inj O.nd d1
        exact n1 (List.mem_map.mpr ⟨e', he', Prod.ext q3 q2⟩)
      · rcases List.mem_cons.mp hx with rfl | hx
        · exact d4
        · exact h3 x hx
      · rcases List.mem_cons.mp hx with rfl | hx
        · exact ⟨e, List.mem_cons_self, d1, rfl⟩
        · obtain ⟨e', he', q⟩ := h4 x hx
          exact ⟨e', List.mem_cons_of_mem _ he', q⟩
  obtain ⟨g, h1, h2, h3, _⟩ := key S.ft (fun _ h => h) O.ftn
  rw [← h1]
  exact nodup_le h2 h3
theorem SOk.ellen (O : SOk bs ss S F G) : S.el.length ≤ S.ks.length + 2 := by
  have nd : S.el.Nodup := by
    refine List.pairwise_iff_getElem.mpr fun i j hi hj hij e => ?_
    have h1 := O.els i _ (List.getElem?_eq_getElem hi)
    have h2 := O.els j _ (List.getElem?_eq_getElem hj)
    rw [e] at h1
    have h3 := congrArg Tr.lev (h1.fn h2)
    rw [emp_lev, emp_lev] at h3
    omega
  have := nat_nodup_len S.el (List.range (S.ks.length + 2)) nd fun m hm => by
    obtain ⟨i, hi⟩ := List.getElem?_of_mem hm
    exact List.mem_range.mpr (O.els i m hi).lt
  rw [List.length_range] at this
  exact this
/-- a key that is kept -/
theorem SOk.found (O : SOk bs ss S F G) {i a b c d : Nat} {ta tb tc td : Tr} (h : S.ks[i]? = some (a, b, c, d)) (ha : Dnt S.ks a ta) (hb : Dnt S.ks b tb) (hc : Dnt S.ks c tc) (hd : Dnt S.ks d td) : Dnt S.ks (i + 2) (.nd ta tb tc td) := .q h ha hb hc hd
/-- a new one -/
def SS.add (S : SS) (q : Q4) (l c : Nat) : SS := { S with ks := S.ks ++ [q], lv := S.lv ++ [l], ct := S.ct ++ [c] }
theorem SS.add_le (S : SS) (q : Q4) (l c : Nat) : S.le (S.add q l c) := ⟨[q], rfl⟩
theorem SOk.add (O : SOk bs ss S F G) {a b c d : Nat} {ta tb tc td : Tr} (h : (a, b, c, d) ∉ S.ks) (ha : Dnt S.ks a ta) (hb : Dnt S.ks b tb) (hc : Dnt S.ks c tc) (hd : Dnt S.ks d td) (ok : (Tr.nd ta tb tc td).ok) (hF : Tr.nd ta tb tc td ∈ F) :
    SOk bs ss (S.add (a, b, c, d) (ta.lev + 1) (ta.cnt + tb.cnt + tc.cnt + td.cnt)) F G ∧ Dnt (S.add (a, b, c, d) (ta.lev + 1) (ta.cnt + tb.cnt + tc.cnt + td.cnt)).ks (S.ks.length + 2) (.nd ta tb tc td) := by
  have le := SS.add_le S (a, b, c, d) (ta.lev + 1) (ta.cnt + tb.cnt + tc.cnt + td.cnt)
  have new : Dnt (S.add (a, b, c, d) (ta.lev + 1) (ta.cnt + tb.cnt + tc.cnt + td.cnt)).ks (S.ks.length + 2) (.nd ta tb tc td) :=
    .q (by show (S.ks ++ [_])[S.ks.length]? = _; simp) (ha.le le) (hb.le le) (hc.le le) (hd.le le)
  refine ⟨⟨?_, fun n hn => ?_, ?_, ?_, fun e he => ?_, O.ftn, fun i m hm => (O.els i m hm).le le, O.el0, O.big, O.bigG⟩, new⟩
  · show (S.ks ++ [_]).Nodup
    rw [List.nodup_append]
    exact ⟨O.nd, by simp, fun x hx y hy e => by simp at hy; subst hy; subst e; exact h hx⟩
  · have hn : n < (S.ks ++ [(a, b, c, d)]).length + 2 := hn
    rw [List.length_append, List.length_singleton] at hn
    by_cases e : n = S.ks.length + 2
    · subst e
      refine ⟨_, new, ok, hF, ?_, ?_⟩
      · show (S.lv ++ [_])[S.ks.length + 2]? = _
        rw [← O.lvl]; simp [Tr.lev]
      · show (S.ct ++ [_])[S.ks.length + 2]? = _
        rw [← O.ctl]; simp [Tr.cnt]
    · obtain ⟨t, h1, h2, h3, h4, h5⟩ := O.all n (by omega)
      refine ⟨t, h1.le le, h2, h3, ?_, ?_⟩
      · show (S.lv ++ [_])[n]? = _
        rw [List.getElem?_append_left (by rw [O.lvl]; omega)]; exact h4
      · show (S.ct ++ [_])[n]? = _
        rw [List.getElem?_append_left (by rw [O.ctl]; omega)]; exact h5
  · show (S.lv ++ [_]).length = (S.ks ++ [_]).length + 2
    simp [O.lvl]
  · show (S.ct ++ [_]).length = (S.ks ++ [_]).length + 2
    simp [O.ctl]
  · obtain ⟨k, P, h1, h2, h3, h4⟩ := O.fts e he
    exact ⟨k, P, h1.le le, h2, h3.le le, h4⟩
end
/-! ### how it stands in Python -/
@[reducible] def q4D (q : Q4) : PyData := .tuple [.int (q.1 : Nat), .int (q.2.1 : Nat), .int (q.2.2.1 : Nat), .int (q.2.2.2 : Nat)]
def q4K (q : Q4) : List Key := [.inl (q.1 : Nat), .inl (q.2.1 : Nat), .inl (q.2.2.1 : Nat), .inl (q.2.2.2 : Nat)]
theorem q4K_inj {p q : Q4} (h : q4K p = q4K q) : p = q := by
  obtain ⟨a, b, c, d⟩ := p
  obtain ⟨a', b', c', d'⟩ := q
  simp only [q4K, List.cons.injEq, Sum.inl.injEq, and_true] at h
  obtain ⟨h1, h2, h3, h4⟩ := h
  rw [Int.ofNat.inj h1, Int.ofNat.inj h2, Int.ofNat.inj h3, Int.ofNat.inj h4]
def nmF : Nat → List Q4 → List (List Key × D)
  | _, [] => []
  | i, q :: r => (q4K q, .d (.int ((i + 2 : Nat) : Int))) :: nmF (i + 1) r
theorem nmF_len : ∀ (ks : List Q4) (i : Nat), (nmF i ks).length = ks.length
  | [], _ => rfl
  | _ :: r, i => congrArg (· + 1) (nmF_len r (i + 1))
theorem nmF_app : ∀ (ks : List Q4) (i : Nat) (q : Q4), nmF i (ks ++ [q]) = nmF i ks ++ [(q4K q, .d (.int ((i + ks.length + 2 : Nat) : Int)))]
  | [], i, q => rfl
  | _ :: r, i, q => by
    show _ :: nmF (i + 1) (r ++ [q]) = _
    rw [nmF_app r (i + 1) q, List.length_cons, show i + 1 + r.length = i + (r.length + 1) by omega]
    rfl
theorem nmF_get (q : Q4) : ∀ (ks : List Q4) (i : Nat), (q ∉ ks → gV (nmF i ks) (q4K q) = none) ∧ ∀ j, ks[j]? = some q → ks.Nodup → gV (nmF i ks) (q4K q) = some (.d (.int ((i + j + 2 : Nat) : Int)))
  | [], i => ⟨fun _ => rfl, fun j h => by simp at h⟩
  | p :: r, i => by
    obtain ⟨h1, h2⟩ := nmF_get q r (i + 1)
    by_cases e : p = q
    · subst e
      refine ⟨fun z => absurd List.mem_cons_self z, fun j hj nd => ?_⟩
      have j0 := get_inj nd (i := j) (j := 0) hj rfl
      subst j0
      simp [nmF, gV]
    · have ne : ¬ q4K p = q4K q := fun z => e (q4K_inj z)
      have go : gV (nmF i (p :: r)) (q4K q) = gV (nmF (i + 1) r) (q4K q) := by simp [nmF, gV, List.find?_cons, ne]
      refine ⟨fun z => by rw [go]; exact h1 fun y => z (List.mem_cons_of_mem _ y), fun j hj nd => ?_⟩
      rw [go]
      cases j with
      | zero => simp at hj; exact absurd hj e
      | succ j =>
        rw [h2 j (by simpa using hj) (List.nodup_cons.mp nd).2, show i + 1 + j + 2 = i + (j + 1) + 2 by omega]
theorem nmF_put {ks : List Q4} {q : Q4} (h : q ∉ ks) : gP (nmF 0 ks) (q4K q) (.d (.int ((ks.length + 2 : Nat) : Int))) = nmF 0 (ks ++ [q]) := by
  unfold gP
  rw [(nmF_get q ks 0).1 h, if_neg (by simp), nmF_app, Nat.zero_add]
def natsD (l : List Nat) : List D := l.map fun n => .d (.int (n : Nat))
def partsD (ks : List Q4) : List D := .d (.tuple []) :: .d (.tuple []) :: ks.map fun q => .d (q4D q)
def fK (e : Nat × Nat) : List Key := [.inl (e.1 : Nat), .inl (e.2 : Nat)]
theorem fK_inj {p q : Nat × Nat} (h : fK p = fK q) : p = q := by
  simp only [fK, List.cons.injEq, Sum.inl.injEq, and_true] at h
  exact Prod.ext (Int.ofNat.inj h.1) (Int.ofNat.inj h.2)
def ftD (l : List ((Nat × Nat) × Nat)) : List (List Key × D) := l.map fun e => (fK e.1, .d (.int (e.2 : Nat)))
theorem ftD_get (p : Nat × Nat) : ∀ l : List ((Nat × Nat) × Nat), (p ∉ l.map (·.1) ∧ gV (ftD l) (fK p) = none) ∨ ∃ m, (p, m) ∈ l ∧ gV (ftD l) (fK p) = some (.d (.int (m : Nat)))
  | [] => .inl ⟨by simp, rfl⟩
  | e :: r => by
    by_cases h : e.1 = p
    · subst h
      exact .inr ⟨e.2, List.mem_cons_self, by simp [ftD, gV]⟩
    · have ne : ¬ fK e.1 = fK p := fun z => h (fK_inj z)
      have go : gV (ftD (e :: r)) (fK p) = gV (ftD r) (fK p) := by simp [ftD, gV, List.find?_cons, ne]
      rcases ftD_get p r with ⟨h1, h2⟩ | ⟨m, h1, h2⟩
      · refine .inl ⟨fun z => ?_, by rw [go]; exact h2⟩
        rcases List.mem_cons.mp z with z | z
        · exact h z.symm
        · exact h1 z
      · exact .inr ⟨m, List.mem_cons_of_mem _ h1, by rw [go]; exact h2⟩
theorem ftD_put {l : List ((Nat × Nat) × Nat)} {p : Nat × Nat} (m : Nat) (h : p ∉ l.map (·.1)) : gP (ftD l) (fK p) (.d (.int (m : Nat))) = ftD (l ++ [(p, m)]) := by
  unfold gP
  rcases ftD_get p l with ⟨_, h2⟩ | ⟨m', h1, _⟩
  · rw [h2, if_neg (by simp)]; simp [ftD]
  · exact absurd (List.mem_map.mpr ⟨_, h1, rfl⟩) h
theorem partsD_at {ks : List Q4} {i : Nat} {q : Q4} (h : ks[i]? = some q) : atI (partsD ks) ((i + 2 : Nat) : Int) = some (.d (q4D q)) :=
  atI_nat (by simp [partsD, h])
theorem natsD_at {l : List Nat} {n m : Nat} (h : l[n]? = some m) : atI (natsD l) (n : Int) = some (.d (.int (m : Nat))) := atI_nat (by simp [natsD, h])
end M

/-! T3: a store's objects. -/
namespace M
open PySem PySem.Spec PyProof.Rows L2 J
structure SA where
  p : Addr
  pk : Addr
  pl : Addr
  pc : Addr
  pn : Addr
  pf : Addr
  pe : Addr
@[reducible] def rlD (cR : Addr) (bs ss : List Int) : D := .ins cR [("births", .tuple (bs.map .int)), ("survival", .tuple (ss.map .int))]
@[reducible] def stF (cR : Addr) (A : SA) (bs ss : List Int) : List (Str × D) := [("rule", rlD cR bs ss), ("kept_parts", .a A.pk), ("levels", .a A.pl), ("counts", .a A.pc), ("numbers", .a A.pn), ("futures", .a A.pf), ("empties", .a A.pe)]
@[reducible] def stL (cS cR : Addr) (A : SA) (bs ss : List Int) (S : SS) : Ls :=
  [(A.p, .obj cS (stF cR A bs ss)), (A.pk, .lst (partsD S.ks)), (A.pl, .lst (natsD S.lv)), (A.pc, .lst (natsD S.ct)), (A.pn, .dct (nmF 0 S.ks)), (A.pf, .dct (ftD S.ft)), (A.pe, .lst (natsD S.el))]
def S0 : SS := ⟨[], [0, 0], [0, 1], [], [0]⟩
theorem s0_ok (bs ss : List Int) {F : List Tr} {G : List (Tr × Nat)} (h0 : Tr.lf false ∈ F) (h1 : Tr.lf true ∈ F) (b : F.length ≤ 16000000) (b2 : G.length ≤ 16000000) : SOk bs ss S0 F G where
  nd := List.nodup_nil
  all := fun n hn => by
    have hn : n < 2 := hn
    have e : n = 0 ∨ n = 1 := by omega
    rcases e with rfl | rfl
    · exact ⟨_, .z, trivial, h0, rfl, rfl⟩
    · exact ⟨_, .o, trivial, h1, rfl, rfl⟩
  lvl := rfl
  ctl := rfl
  fts := fun e he => by simp [S0] at he
  ftn := List.nodup_nil
  els := fun i m h => by
    cases i with
    | zero => simp [S0] at h; subst h; exact .z
    | succ i => simp [S0] at h
  el0 := by decide
  big := b
  bigG := b2
theorem natsD_len (l : List Nat) : (natsD l).length = l.length := List.length_map _
theorem natsD_app (l : List Nat) (n : Nat) : natsD l ++ [.d (.int (n : Nat))] = natsD (l ++ [n]) := by simp [natsD]
theorem partsD_len (ks : List Q4) : (partsD ks).length = ks.length + 2 := by simp [partsD]
theorem partsD_app (ks : List Q4) (q : Q4) : partsD ks ++ [.d (q4D q)] = partsD (ks ++ [q]) := by simp [partsD]
theorem last_at {l : List Nat} {k m : Nat} (hk : l.length = k + 1) (hm : l[k]? = some m) : atI (natsD l) (-1) = some (.d (.int (m : Nat))) := by
  unfold atI ixN
  rw [natsD_len, hk, if_neg (by decide), if_pos (by omega), show ((-1 : Int) + ((k + 1 : Nat) : Int)).toNat = k by omega]
  show (natsD l)[k]? = _
  simp [natsD, hm]
section
variable {bs ss : List Int} {S : SS} {F : List Tr} {G : List (Tr × Nat)} {n m : Nat}
def SS.addE (S : SS) (m : Nat) : SS := { S with el := S.el ++ [m] }
theorem SOk.addE (O : SOk bs ss S F G) (h : Dnt S.ks m (emp S.el.length)) : SOk bs ss (S.addE m) F G := by
  refine ⟨O.nd, O.all, O.lvl, O.ctl, O.fts, O.ftn, fun i x hx => ?_, by show 0 < (S.el ++ [m]).length; simp, O.big, O.bigG⟩
  have hx : (S.el ++ [m])[i]? = some x := hx
  by_cases hi : i < S.el.length
  · rw [List.getElem?_append_left hi] at hx
    exact O.els i x hx
  · have hl := (List.getElem?_eq_some_iff.mp hx).1
    simp at hl
    have : i = S.el.length := by omega
    subst this
    simp at hx
    subst hx
    exact h
def SS.addF (S : SS) (e : (Nat × Nat) × Nat) : SS := { S with ft := S.ft ++ [e] }
theorem SOk.addF (O : SOk bs ss S F G) {k j : Nat} {P : Pl} (h0 : (n, j) ∉ S.ft.map (·.1)) (h1 : Dnt S.ks n (bld (k + 2) P)) (h2 : j ≤ k) (h3 : Dnt S.ks m (fu bs ss k j P)) (h4 : (bld (k + 2) P, j) ∈ G) : SOk bs ss (S.addF ((n, j), m)) F G := by
  refine ⟨O.nd, O.all, O.lvl, O.ctl, fun e he => ?_, ?_, O.els, O.el0, O.big, O.bigG⟩
  · rcases List.mem_append.mp he with he | he
    · exact O.fts e he
    · simp at he; subst he; exact ⟨k, P, h1, h2, h3, h4⟩
  · show ((S.ft ++ [((n, j), m)]).map (·.1)).Nodup
    rw [List.map_append, List.nodup_append]
    exact ⟨O.ftn, by simp, fun x hx y hy e => by simp at hy; subst hy; subst e; exact h0 hx⟩
theorem SS.addE_le (S : SS) (m : Nat) : S.le (S.addE m) := ⟨[], by simp [SS.addE]⟩
theorem SS.addF_le (S : SS) (e : (Nat × Nat) × Nat) : S.le (S.addF e) := ⟨[], by simp [SS.addF]⟩
end
/-! ### quarters of a list of cells -/
theorem band_mod {r : Int} (h : 0 ≤ r) (l : Nat) : Builtin.bitAnd r (2 ^ l - 1) = r % 2 ^ l := by
  obtain ⟨n, rfl⟩ : ∃ n : Nat, r = n := ⟨r.toNat, by omega⟩
  have e : (2 : Int) ^ l - 1 = ((2 ^ l - 1 : Nat) : Int) := by
    have := Nat.one_le_two_pow (n := l)
    rw [Int.ofNat_sub this]; push_cast; rfl
  rw [e, PySem.W.os_band, Nat.and_two_pow_sub_one_eq_mod]
  push_cast; rfl
def inQd (l : Nat) (i j : Bool) (x : Cell) : Bool := decide (decide ((2 : Int) ^ l ≤ x.1) = i ∧ decide ((2 : Int) ^ l ≤ x.2) = j)
def qd (l : Nat) (i j : Bool) (cs : List Cell) : List Cell := (cs.filter (inQd l i j)).map fun x => (x.1 % 2 ^ l, x.2 % 2 ^ l)
theorem qd_snoc (l : Nat) (i j : Bool) (cs : List Cell) (x : Cell) : qd l i j (cs ++ [x]) = qd l i j cs ++ (if inQd l i j x = true then [(x.1 % 2 ^ l, x.2 % 2 ^ l)] else []) := by
  unfold qd
  rw [List.filter_append, List.map_append]
  congr 1
  rw [List.filter_cons]
  split <;> rfl
theorem qd_len (l : Nat) (i j : Bool) (cs : List Cell) : (qd l i j cs).length ≤ cs.length := by
  unfold qd; rw [List.length_map]; exact List.length_filter_le _ _
theorem qd_in {l : Nat} {i j : Bool} {cs : List Cell} : inQ l (qd l i j cs) := fun x hx => by
  obtain ⟨y, _, rfl⟩ := List.mem_map.mp hx
  have z := p2p l
  exact ⟨Int.emod_nonneg _ (by omega), Int.emod_lt_of_pos _ z, Int.emod_nonneg _ (by omega), Int.emod_lt_of_pos _ z⟩
def off2 (l : Nat) (i : Bool) : Int := if i = true then 2 ^ l else 0
theorem half_mod {r h : Int} (hp : 0 < h) (h0 : 0 ≤ r) (h1 : r < h + h) : r % h = if h ≤ r then r - h else r := by
  split
  · rw [← Int.emod_eq_of_lt (a := r - h) (b := h) (by omega) (by omega), Int.sub_emod_right]
  · exact Int.emod_eq_of_lt h0 (by omega)
theorem qd_bld {l : Nat} {cs : List Cell} (h : inQ (l + 1) cs) (i j : Bool) : bld l (mem (qd l i j cs)) = bld l (sh (mem cs) (off2 l i) (off2 l j)) := by
  refine bld_ext l fun r c h1 h2 h3 h4 => ?_
  have z := p2p l
  have e : ((r, c) : Cell) ∈ qd l i j cs ↔ ((r + off2 l i, c + off2 l j) : Cell) ∈ cs := by
    unfold qd
    simp only [List.mem_map, List.mem_filter, inQd, decide_eq_true_eq]
    constructor
    · rintro ⟨x, ⟨hx, hi, hj⟩, e⟩
      have b := h x hx
      rw [p2s] at b
      have e1 := congrArg Prod.fst e
      have e2 := congrArg Prod.snd e
      simp only at e1 e2
      rw [half_mod z (by omega) (by omega)] at e1 e2
      have ex : x = (r + off2 l i, c + off2 l j) := by
        unfold off2
        refine Prod.ext ?_ ?_
        · dsimp only
          subst hi
          by_cases q : (2 : Int) ^ l ≤ x.1
          · rw [if_pos q] at e1; rw [if_pos (decide_eq_true q)]; omega
          · rw [if_neg q] at e1; rw [if_neg (by rw [decide_eq_false q]; decide)]; omega
        · dsimp only
          subst hj
          by_cases q : (2 : Int) ^ l ≤ x.2
          · rw [if_pos q] at e2; rw [if_pos (decide_eq_true q)]; omega
          · rw [if_neg q] at e2; rw [if_neg (by rw [decide_eq_false q]; decide)]; omega
      rw [← ex]; exact hx
    · intro hx
      refine ⟨_, ⟨hx, ?_, ?_⟩, ?_⟩
      · unfold off2; cases i <;> simp <;> omega
      · unfold off2; cases j <;> simp <;> omega
      · unfold off2
        have b := h _ hx
        rw [p2s] at b
        unfold off2 at b
        dsimp only at b ⊢
        rw [half_mod z (by omega) (by omega), half_mod z (by omega) (by omega)]
        refine Prod.ext ?_ ?_
        · cases i <;> simp <;> omega
        · cases j <;> simp <;> omega
  show decide _ = decide _
  exact decide_eq_decide.mpr e
theorem bld_quarters {l : Nat} {cs : List Cell} (h : inQ (l + 1) cs) : bld (l + 1) (mem cs) = .nd (bld l (mem (qd l false false cs))) (bld l (mem (qd l false true cs))) (bld l (mem (qd l true false cs))) (bld l (mem (qd l true true cs))) := by
  rw [qd_bld h, qd_bld h, qd_bld h, qd_bld h, bld]
  simp only [off2, if_true, Bool.false_eq_true, if_false]
  rw [sh_00]
theorem subs_quarters {l : Nat} {cs : List Cell} (h : inQ (l + 1) cs) {F : List Tr} (hF : ∀ u ∈ (bld (l + 1) (mem cs)).subs, u ∈ F) (i j : Bool) : ∀ u ∈ (bld l (mem (qd l i j cs))).subs, u ∈ F := fun u hu => by
  refine hF u ?_
  rw [bld_quarters h, Tr.subs]
  refine List.mem_cons_of_mem _ ?_
  simp only [List.mem_append]
  cases i <;> cases j <;> simp [hu]
theorem bld_one {cs : List Cell} (h : inQ 0 cs) (ne : cs ≠ []) : bld 0 (mem cs) = .lf true := by
  cases cs with
  | nil => exact absurd rfl ne
  | cons x r =>
    have b := h x List.mem_cons_self
    have e : x = (0, 0) := Prod.ext (by dsimp only; omega) (by dsimp only; omega)
    show Tr.lf (mem (x :: r) 0 0) = _
    rw [mem_true.mpr (by rw [e]; exact List.mem_cons_self)]
/-- the sum of four -/
theorem sum4 (a b c d : Nat) : ([(a : Int), b, c, d] : List Int).sum = ((a + b + c + d : Nat) : Int) := by simp; omega
end M
namespace J
open PySem PySem.Spec PyProof.Rows L2
section
variable {P : Program} {w : World} {K : PySem.W.Frag} {mg : Str -> Option Value} {base : Heap}
theorem Dk.cakP {C : Addr} {x qual : Str} {st : Stmt} {N ps : List Str} {k : Nat} {js : JSp} (D : Dk K mg x C qual st) (b : BindsH "__init__" qual st ps) (S : FnScope N ps (defScope st)) (len : ∀ ds ls Q, js ds ls Q -> ds.length = ps.length) (h : BodyP P w K mg base k N qual st js) : Cak P w K mg base (k + 1) x C ps js := by
  obtain ⟨f, fd, F, M, m⟩ := D
  refine ⟨f, fd, BodyP.ok F S len h, M, m, F.binds b⟩
end
end J
namespace M
open PySem PySem.Spec PyProof.Rows L2 J
theorem nrm_id {cs : List Cell} (h : Lt cs) : nrm cs = cs := nrm_of_lt h
theorem mem_pat2 {l : Nat} {A : List Cell} (h : inQ l A) (hl : Lt A) : (bld l (mem A)).pat = A := by rw [mem_pat h, nrm_of_lt hl]
/-- squares of sorted lists are the same exactly if levels and lists are -/
theorem bld_mem_inj {l l' : Nat} {A B : List Cell} (h : inQ l A) (hl : Lt A) (h' : inQ l' B) (hl' : Lt B) : bld l (mem A) = bld l' (mem B) ↔ (A = B ∧ l = l') := by
  constructor
  · intro e
    have e1 := congrArg Tr.lev e
    rw [bld_lev, bld_lev] at e1
    have e2 := congrArg Tr.pat e
    rw [mem_pat2 h hl, mem_pat2 h' hl'] at e2
    exact ⟨e2, e1⟩
  · rintro ⟨rfl, rfl⟩; rfl
/-- a window of a list of cells, moved to the corner -/
def winC (A : List Cell) (r c h : Int) : List Cell := (A.filter fun x => decide (r ≤ x.1 ∧ x.1 < r + h ∧ c ≤ x.2 ∧ x.2 < c + h)).map fun x => (x.1 - r, x.2 - c)
theorem winC_lt {A : List Cell} (h : Lt A) (r c k : Int) : Lt (winC A r c k) := by
  refine List.pairwise_map.mpr ((List.Pairwise.filter _ h).imp fun {a b} z => ?_)
  unfold ltC at z ⊢
  dsimp only
  omega
theorem winC_mem {A : List Cell} {r c k : Int} {x : Cell} : x ∈ winC A r c k ↔ (0 ≤ x.1 ∧ x.1 < k ∧ 0 ≤ x.2 ∧ x.2 < k) ∧ ((x.1 + r, x.2 + c) : Cell) ∈ A := by
  unfold winC
  simp only [List.mem_map, List.mem_filter, decide_eq_true_eq]
  constructor
  · rintro ⟨y, ⟨h1, h2⟩, rfl⟩
    refine ⟨by dsimp only; omega, ?_⟩
    dsimp only
    rw [Int.sub_add_cancel, Int.sub_add_cancel]; exact h1
  · rintro ⟨h1, h2⟩
    exact ⟨_, ⟨h2, by dsimp only; omega⟩, Prod.ext (by dsimp only; omega) (by dsimp only; omega)⟩
/-- what a square shows of a floor -/
theorem pat_win {l : Nat} {P : Pl} {A : List Cell} {r c : Int} (hl : Lt A) (h : ∀ a b : Int, P a b = mem A a b) : (bld l (sh P r c)).pat = winC A r c (2 ^ l) :=
  lt_ext (pat_lt _) (winC_lt hl r c _) fun x => by
    rw [bld_pat, winC_mem]
    unfold sh
    rw [h, mem_true]
end M
namespace M
open PySem PySem.Spec PyProof.Rows L2 J
theorem fm_if {α β : Type} (p : α → Bool) (f : α → β) : ∀ l : List α, (l.filterMap fun a => if p a = true then some (f a) else none) = (l.filter p).map f
  | [] => rfl
  | a :: r => by
    rw [List.filterMap_cons, fm_if p f r, List.filter_cons]
    cases p a <;> rfl
theorem fm_win (A : List Cell) (r c h : Int) : (A.filterMap fun x => if decide (r ≤ x.1 ∧ x.1 < r + h ∧ c ≤ x.2 ∧ x.2 < c + h) = true then some (D.d (cD (x.1 - r, x.2 - c))) else none) = ((winC A r c h).map cD).map .d := by
  rw [fm_if (fun x : Cell => decide (r ≤ x.1 ∧ x.1 < r + h ∧ c ≤ x.2 ∧ x.2 < c + h)) (fun x : Cell => D.d (cD (x.1 - r, x.2 - c)))]
  unfold winC
  rw [List.map_map, List.map_map]; rfl
end M
namespace M
open PySem PySem.Spec PyProof.Rows L2 J
def lE (l : Nat) : List Tr := (List.range (l + 1)).map emp
theorem lE_mem {l i : Nat} (h : i ≤ l) : emp i ∈ lE l := List.mem_map.mpr ⟨i, List.mem_range.mpr (by omega), rfl⟩
theorem lE_len (l : Nat) : (lE l).length = l + 1 := by simp [lE]
/-- what a built square makes -/
def FL (l : Nat) (cs : List Cell) : List Tr := (bld l (mem cs)).subs ++ lE l
theorem FL_len {l : Nat} {cs : List Cell} (h : l ≤ 6) : (FL l cs).length ≤ 5500 := by
  unfold FL
  rw [List.length_append, lE_len]
  have z := subs_len l (mem cs)
  have z2 : 4 ^ (l + 1) ≤ 4 ^ 7 := Nat.pow_le_pow_right (by decide) (by omega)
  have z3 : (4 : Nat) ^ 7 = 16384 := by decide
  omega
theorem subs_emp : ∀ (l : Nat) (u : Tr), u ∈ (emp l).subs → ∃ i, i ≤ l ∧ u = emp i
  | 0, u, h => by
    have h : u ∈ [Tr.lf false] := h
    simp at h
    exact ⟨0, Nat.le_refl _, h⟩
  | l + 1, u, h => by
    rw [emp_succ, Tr.subs] at h
    simp only [List.mem_cons, List.mem_append] at h
    rcases h with rfl | h | h | h | h
    · exact ⟨l + 1, Nat.le_refl _, rfl⟩
    all_goals
      obtain ⟨i, hi, e⟩ := subs_emp l u h
      exact ⟨i, by omega, e⟩
theorem shl_eq (k : Nat) : (fun (i j : Int) => PyData.int (i * 2 ^ j.toNat)) 1 (k : Int) = .int (2 ^ k) := by simp
/-- a square that is known: its number, its cells, its level -/
abbrev Kn := Nat × List Cell × Nat
@[reducible] def kD (e : Kn) : PyData := .tuple [.int (e.1 : Nat), .list (e.2.1.map cD), .int (e.2.2 : Nat)]
structure KnOk (S : SS) (e : Kn) : Prop where
  dn : Dnt S.ks e.1 (bld e.2.2 (mem e.2.1))
  lt : Lt e.2.1
  inq : inQ e.2.2 e.2.1
theorem KnOk.le {S S' : SS} {e : Kn} (h : KnOk S e) (l : S.le S') : KnOk S' e := ⟨h.dn.le l, h.lt, h.inq⟩
theorem mem_rev (A : List Cell) (n : Nat) : mem (A ++ A.take n).reverse = mem A := by
  funext r c
  unfold mem
  refine decide_eq_decide.mpr ?_
  simp only [List.mem_reverse, List.mem_append]
  exact ⟨fun h => h.elim id List.mem_of_mem_take, .inl⟩
theorem inQ_rev {l : Nat} {A : List Cell} (h : inQ l A) (n : Nat) : inQ l (A ++ A.take n).reverse := fun x hx => by
  simp only [List.mem_reverse, List.mem_append] at hx
  exact hx.elim (h x) fun z => h x (List.mem_of_mem_take z)
theorem add1_len {A : List Cell} {n : Nat} : (A ++ A.take n).reverse.length ≤ A.length + n := by
  rw [List.length_reverse, List.length_append, List.length_take]; omega
end M
namespace J
open PySem PySem.Spec PyProof.Rows L2
/-- the law's promise, with nothing laid ahead -/
@[reducible] def js_law0 : JSp := fun ds ls Q => match ds with
  | [.scr ns] => (ns.length ≤ 63 ∧ ls = []) ∧ Q (.d (.bool true)) []
  | _ => False
theorem law_mkF {l : PySem.W.OpenLaw} {w : World} {K : PySem.W.Frag} {h : Heap} {mg : Str -> Option Value} {fa f : Addr} {st : Stmt} {k : Nat} {N : List Str} {oc kV dc pm cd ct : Value} {od an : Option Addr} {sl : Array (Option Value)} (X : K.In h) (G : h.Ns mainGlobals mg) (hfa : mg "law" = some (.ref fa))
    (a : PySem.W.nsIn K mainGlobals "law" = some (some (.ref f))) (lk : K.lookup f = some ⟨oc, od, .func (PySem.W.fnOf "law" "law" (defArgs st) (defBody st) (defScope st) .none kV dc pm an cd ct), sl⟩) (c : PySem.W.codeIn K cd "law" = true) (kp : PySem.W.keepIn K (.ref f) = true)
    (S : FnScope N ["script"] (defScope st)) (b : ∀ (s : Shared) (u : Value), BindsTo s (PySem.W.fnOf "law" "law" (defArgs st) (defBody st) (defScope st) .none kV dc pm an cd ct) ⟨[u], []⟩ [("script", u)]) (B : ∀ base : Heap, K.In base -> base.Ns mainGlobals mg -> BodyP l.prog w K mg base k N "law" st js_law0) :
    ∃ fd : FuncData, (∀ (s : Shared) (u : Value), BindsTo s fd ⟨[u], []⟩ [("script", u)]) ∧ ∀ base : Heap, K.In base -> base.Ns mainGlobals mg -> FnOk l.prog w K mg base CX0 (k + 1) fa fd ["script"] (spJ K js_law) := by
  have e := hfa.symm.trans (PySem.W.mg_of X G a)
  cases e
  refine ⟨_, b, fun base kb gb => ?_⟩
  have F := (B base kb gb).ok (fun_mk (st := st) lk c kp) S (by
    intro ds ls Q h
    unfold js_law0 at h
    split at h
    · rfl
    · exact h.elim)
  refine (fnFr F).imp fun vs H Q E h => ?_
  obtain ⟨I, ls, ds, W, R, r, h, kk⟩ := h
  refine ⟨I, ls, ds, W, R, r, ?_, kk⟩
  unfold js_law at h
  split at h
  · obtain ⟨hl, h⟩ := h
    exact ⟨ls, [], by rw [List.append_nil], ⟨hl, rfl⟩, by show W _ (ls ++ []); rw [List.append_nil]; exact h⟩
  · exact h.elim
end J
namespace M
open PySem PySem.Spec PyProof.Rows L2 J
theorem cut_take {α : Type} (xs : List α) (b : Nat) : cutG xs none (some (b : Int)) = xs.take b := by
  unfold cutG
  rw [HT.sIx_nat]
  have e1 : HT.sIx xs.length 0 none = 0 := rfl
  rw [e1, List.drop_zero, Nat.sub_zero]
  by_cases h : b ≤ xs.length
  · rw [Nat.min_eq_left h]
  · rw [Nat.min_eq_right (by omega), List.take_of_length_le (Nat.le_refl _), List.take_of_length_le (by omega)]
theorem at_mod {α β : Type} (f : α → β) {l : List α} (h : 0 < l.length) (y : Int) : ∃ e ∈ l, atI (l.map f) (y % (l.length : Int)) = some (f e) := by
  have h1 := Int.emod_nonneg y (show (l.length : Int) ≠ 0 by omega)
  have h2 := Int.emod_lt_of_pos y (show (0 : Int) < (l.length : Int) by omega)
  obtain ⟨n, hn⟩ : ∃ n : Nat, y % (l.length : Int) = n := ⟨(y % (l.length : Int)).toNat, by omega⟩
  rw [hn]
  have hl : n < l.length := by omega
  exact ⟨l[n], List.getElem_mem hl, atI_nat (by rw [List.getElem?_map, List.getElem?_eq_getElem hl]; rfl)⟩
theorem shl1 (l : Nat) : (1 : Int) * 2 ^ ((l : Int).toNat) = 2 ^ l := by simp
theorem kn_shape (l : Nat) : SeqAt.shaped (.int (l : Int)) = true := int_shape _
end M
namespace M
open PySem PySem.Spec PyProof.Rows L2 J
theorem kn_same {bs ss : List Int} {S : SS} {F : List Tr} {G : List (Tr × Nat)} {e : Kn} {m l : Nat} {cs : List Cell} (O : SOk bs ss S F G) (h : KnOk S e) (d : Dnt S.ks m (bld l (mem cs))) (hl : Lt cs) (hi : inQ l cs) : ((e.1 : Int) = (m : Int)) ↔ (e.2.1 = cs ∧ e.2.2 = l) := by
  rw [← bld_mem_inj h.inq h.lt hi hl]
  constructor
  · intro z
    have z : e.1 = m := Int.ofNat.inj z
    rw [← z] at d
    exact h.dn.fn d
  · intro z
    have q := h.dn
    rw [z] at q
    rw [q.inj O.nd d]
end M

/-! J15: isinstance of a tuple that holds objects. -/
namespace J
open PySem PySem.Spec PyProof.Rows L2
@[reducible] def tyT : D -> Option String
  | .t _ => some "tuple"
  | x => tyN x
@[reducible] def jIsT (T : String) (ta : jTE) : jTE := fun δ ls Q => ta δ ls fun x ls1 => ∃ t b, tyT x = some t ∧ kitB t T = some b ∧ Q (.d (.bool b)) ls1
section
variable {X : Cx} {a : Expr} {ta : jTE} {p q pos : Pos}
theorem tyxT {K : PySem.W.Frag} {I H : Hp} {v : V} {x : D} {t : String} (e : Same I H) (r : RD K I v x) (h : tyT x = some t) : TyX K H v (.type t) := by
  cases x with
  | t xs =>
    cases h
    cases r with | t q _ =>
    rcases q with (q | ⟨o, q⟩) | ⟨o, its, n, h1, h2, _⟩
    · exact .base (.tup (e _ _ q))
    · exact .fTuple (e _ _ q)
    · exact .kTuple h1 h2
  | d _ => exact tyx e r h
  | a _ => exact tyx e r h
  | scr _ => exact tyx e r h
  | ins _ _ => exact tyx e r h
theorem pjIsT {y : Str} {T : String} {q : Pos} {a : Expr} (hm : X.mg "isinstance" = none) (hm2 : X.mg y = none) (ha : PEJ X a ta) (hv2 : bootBuiltins y = some (.type T) := by decide +kernel) (hg : Gl X "isinstance" := by rfl) (hg2 : Gl X y := by rfl) (hn2 : y ≠ "__name__" := by decide) (hd2 : (y == ("__debug__" : Str)) = false := by decide)
    (hs : starEach [a, .Name y q] X.env = (false, eval a X.env) :: starEach [.Name y q] X.env := by rfl) (hs2 : starEach [.Name y q] X.env = (false, eval (.Name y q) X.env) :: starEach [] X.env := by rfl)
    (hpl : (backTo pos (starEach [.Name y q] X.env)).any (·.1) = false := by rfl) : PEJ X (.Call (.Name "isinstance" p) [a, .Name y q] [] pos) (jIsT T ta) := by
  obtain ⟨t1, p1, j1⟩ := ha
  refine ⟨_, pe_callB call_isi hg hm (by decide +kernel) (pa_cons p1 (pa_cons (pe_bltn (v := .ty T) hg2 hm2 hv2 rfl hn2 hd2) pa_nil hs2) hs) (by decide) (by decide) hs hpl, fun E I H ls σ δ Q R V h W k => ?_⟩
  refine j1 E I H ls σ δ _ R V h _ fun v H1 ⟨I1, ls1, x, R1, s1, r1, t, b, h1, h2, q1⟩ => ?_
  exact ⟨_, _, _, _, b, rfl, .ty T, tyxT R1.sub r1 h1, kit_ty h2, k _ _ ⟨I1, ls1, _, R1, s1, .d (.bl b), q1⟩⟩
end
/-- from here on some objects are forgotten -/
@[reducible] def jForg (u : jTS) : jTS := fun N δ ls => ∃ r ls' : Ls, ls.Perm (r ++ ls') ∧ u N δ ls'
section
variable {X : Cx}
theorem pbForg {r : List Stmt} {u : jTS} (h : PBJ X r u) : PBJ X r (jForg u) := by
  obtain ⟨t0, p0, j0⟩ := h
  refine ⟨_, p0, fun E I H ls σ δ N M R V k q => ?_⟩
  obtain ⟨g, ls', p, q⟩ := q
  exact j0 E I H ls' σ δ N M (R.permL p).forget V k q
end
end J

/-! T4: middles and futures, as the program makes them. -/
namespace M
open PySem PySem.Spec PyProof.Rows L2 J
theorem bld_parts (l : Nat) (P : Pl) : bld (l + 1) P = .nd (bld l P) (bld l (sh P 0 (2 ^ l))) (bld l (sh P (2 ^ l) 0)) (bld l (sh P (2 ^ l) (2 ^ l))) := rfl
theorem md_parts (l : Nat) (P : Pl) : md l P = .nd (bld l (sh P (2 ^ l) (2 ^ l))) (bld l (sh (sh P 0 (2 ^ (l + 1))) (2 ^ l) 0)) (bld l (sh (sh P (2 ^ (l + 1)) 0) 0 (2 ^ l))) (bld l (sh P (2 ^ (l + 1)) (2 ^ (l + 1)))) := by
  unfold md
  rw [bld_succ, sh_sh, sh_sh, p2s]
  simp only [Int.add_zero, Int.zero_add]
/-- 0 or 1 -/
def n01 (b : Bool) : Nat := if b = true then 1 else 0
theorem n01_int (b : Bool) : ((n01 b : Nat) : Int) = b01 b := by cases b <;> rfl
theorem dn_n01 (ks : List Q4) (b : Bool) : Dnt ks (n01 b) (.lf b) := by
  cases b
  · exact .z
  · exact .o
theorem dn_lf {ks : List Q4} {n : Nat} {b : Bool} (h : Dnt ks n (.lf b)) : n = n01 b := by cases h <;> rfl
theorem q4D_n01 (a b c d : Bool) : q4D (n01 a, n01 b, n01 c, n01 d) = .tuple [.int (b01 a), .int (b01 b), .int (b01 c), .int (b01 d)] := by
  unfold q4D; simp only [n01_int]
theorem cut4_lo (x0 x1 x2 x3 : PyData) : cutG [x0, x1, x2, x3] none (some 2) = [x0, x1] := rfl
theorem cut4_hi (x0 x1 x2 x3 : PyData) : cutG [x0, x1, x2, x3] (some 2) none = [x2, x3] := rfl
theorem no_lo : ¬ (HT.sIx 4 0 none = 0 ∧ HT.sIx 4 4 (some 2) = 4) := by decide
theorem no_hi : ¬ (HT.sIx 4 0 (some 2) = 0 ∧ HT.sIx 4 4 none = 4) := by decide
/-- a row of a square of level 2 -/
@[reducible] def rowD (P : Pl) (r : Int) : PyData := .tuple [.int (b01 (P r 0)), .int (b01 (P r 1)), .int (b01 (P r 2)), .int (b01 (P r 3))]
theorem four_cases {r : Int} (h0 : 0 ≤ r) (h1 : r < 4) : r = 0 ∨ r = 1 ∨ r = 2 ∨ r = 3 := by omega
theorem rows_at (P : Pl) {r : Int} (h0 : 0 ≤ r) (h1 : r < 4) : atI [rowD P 0, rowD P 1, rowD P 2, rowD P 3] r = some (rowD P r) := by
  rcases four_cases h0 h1 with rfl | rfl | rfl | rfl <;> rfl
theorem row_at (P : Pl) (r : Int) {c : Int} (h0 : 0 ≤ c) (h1 : c < 4) : atI [PyData.int (b01 (P r 0)), .int (b01 (P r 1)), .int (b01 (P r 2)), .int (b01 (P r 3))] c = some (.int (b01 (P r c))) := by
  rcases four_cases h0 h1 with rfl | rfl | rfl | rfl <;> rfl
theorem b01_one (b : Bool) : decide (b01 b = 1) = b := by cases b <;> rfl
/-- the small future's four cells -/
theorem fu0 (bs ss : List Int) (P : Pl) : fu bs ss 0 0 P = .nd (.lf (nxP bs ss P 1 1)) (.lf (nxP bs ss P 1 2)) (.lf (nxP bs ss P 2 1)) (.lf (nxP bs ss P 2 2)) := rfl
theorem sum_nb (P : Pl) (r c : Int) : (offs.map fun o => b01 (P (r + o.1) (c + o.2))).sum = nb P r c := rfl
theorem ftD_same {l : List ((Nat × Nat) × Nat)} {p : Nat × Nat} {m : Nat} (h : (p, m) ∈ l) (nd : (l.map (·.1)).Nodup) : gP (ftD l) (fK p) (.d (.int (m : Nat))) = ftD l := by
  have is : (gV (ftD l) (fK p)).isSome = true := by
    rcases ftD_get p l with ⟨h1, _⟩ | ⟨m', _, h2⟩
    · exact absurd (List.mem_map.mpr ⟨_, h, rfl⟩) h1
    · rw [h2]; rfl
  unfold gP
  rw [if_pos is]
  have key : ∀ e ∈ l, e.1 = p → e.2 = m := fun e he hp => by
    obtain ⟨i, hi⟩ := List.getElem?_of_mem he
    obtain ⟨j, hj⟩ := List.getElem?_of_mem h
    have e1 : (l.map (·.1))[i]? = some p := by rw [List.getElem?_map, hi]; exact congrArg some hp
    have e2 : (l.map (·.1))[j]? = some p := by rw [List.getElem?_map, hj]; rfl
    have e3 := get_inj nd e1 e2
    subst e3
    rw [hi] at hj
    cases hj
    rfl
  unfold ftD
  rw [List.map_map]
  refine List.map_congr_left fun e he => ?_
  show (if fK e.1 = fK p then (fK e.1, D.d (.int (m : Nat))) else (fK e.1, .d (.int (e.2 : Nat)))) = _
  split
  · rename_i q
    rw [key e he (fK_inj q)]
  · rfl
section
variable {bs ss : List Int} {S : SS} {F : List Tr} {G : List (Tr × Nat)} {n m k j : Nat} {P : Pl}
/-- the table of futures, once more -/
theorem SOk.setF (O : SOk bs ss S F G) (h1 : Dnt S.ks n (bld (k + 2) P)) (h2 : j ≤ k) (h3 : Dnt S.ks m (fu bs ss k j P)) (h4 : (bld (k + 2) P, j) ∈ G) :
    ∃ S' : SS, SOk bs ss S' F G ∧ S'.ks = S.ks ∧ S'.lv = S.lv ∧ S'.ct = S.ct ∧ S'.el = S.el ∧ gP (ftD S.ft) (fK (n, j)) (.d (.int (m : Nat))) = ftD S'.ft ∧ gV (ftD S'.ft) (fK (n, j)) = some (.d (.int (m : Nat))) := by
  rcases ftD_get (n, j) S.ft with ⟨g1, g2⟩ | ⟨m', g1, g2⟩
  · refine ⟨S.addF ((n, j), m), O.addF g1 h1 h2 h3 h4, rfl, rfl, rfl, rfl, ftD_put m g1, ?_⟩
    rcases ftD_get (n, j) (S.addF ((n, j), m)).ft with ⟨q1, _⟩ | ⟨m', q1, q2⟩
    · exact absurd (List.mem_map.mpr ⟨((n, j), m), List.mem_append_right _ List.mem_cons_self, rfl⟩) q1
    · rw [q2]
      have q1 : ((n, j), m') ∈ S.ft ++ [((n, j), m)] := q1
      rcases List.mem_append.mp q1 with q | q
      · exact absurd (List.mem_map.mpr ⟨_, q, rfl⟩) g1
      · simp at q; rw [q]
  · obtain ⟨k', P', d1, d2, d3, _⟩ := O.fts _ g1
    have e1 := d1.fn h1
    have e2 := congrArg Tr.lev e1
    rw [bld_lev, bld_lev] at e2
    have e3 : k' = k := by omega
    subst e3
    rw [fu_eq d2 e1] at d3
    have e4 : m' = m := d3.inj O.nd h3
    subst e4
    exact ⟨S, O, rfl, rfl, rfl, rfl, ftD_same g1 O.ftn, g2⟩
theorem SOk.hasF (O : SOk bs ss S F G) (h : ((n, j), m) ∈ S.ft) (h1 : Dnt S.ks n (bld (k + 2) P)) : Dnt S.ks m (fu bs ss k j P) := by
  obtain ⟨k', P', d1, d2, d3, _⟩ := O.fts _ h
  have e1 := d1.fn h1
  have e2 := congrArg Tr.lev e1
  rw [bld_lev, bld_lev] at e2
  have e3 : k' = k := by omega
  subst e3
  rw [fu_eq d2 e1] at d3
  exact d3
end
/-! ### what a future's lists hold -/
theorem nineP_mem {k : Nat} {P : Pl} {i j : Int} (hi : 0 ≤ i ∧ i ≤ 2) (hj : 0 ≤ j ∧ j ≤ 2) : sh P (i * 2 ^ (k + 1)) (j * 2 ^ (k + 1)) ∈ nineP k P := by
  have h1 : i = 0 ∨ i = 1 ∨ i = 2 := by omega
  have h2 : j = 0 ∨ j = 1 ∨ j = 2 := by omega
  unfold nineP
  rcases h1 with rfl | rfl | rfl <;> rcases h2 with rfl | rfl | rfl <;> simp
theorem fourP_mem {k : Nat} {R : Pl} {i j : Int} (hi : 0 ≤ i ∧ i ≤ 1) (hj : 0 ≤ j ∧ j ≤ 1) : whl k R i j ∈ fourP k R := by
  have h1 : i = 0 ∨ i = 1 := by omega
  have h2 : j = 0 ∨ j = 1 := by omega
  unfold fourP
  rcases h1 with rfl | rfl <;> rcases h2 with rfl | rfl <;> simp
section
variable {bs ss : List Int} {k j : Nat} {P : Pl} {F : List Tr} {G : List (Tr × Nat)}
/-- what the four wholes want -/
structure WhOk (bs ss : List Int) (k j : Nat) (R : Pl) (F : List Tr) (G : List (Tr × Nat)) : Prop where
  w : ∀ i j : Int, 0 ≤ i ∧ i ≤ 1 → 0 ≤ j ∧ j ≤ 1 → bld (k + 2) (whl k R i j) ∈ F
  f : ∀ a b : Int, 0 ≤ a ∧ a ≤ 1 → 0 ≤ b ∧ b ≤ 1 → ∀ u ∈ lF bs ss k j (whl k R a b), u ∈ F
  g : ∀ a b : Int, 0 ≤ a ∧ a ≤ 1 → 0 ≤ b ∧ b ≤ 1 → ∀ u ∈ lG bs ss k j (whl k R a b), u ∈ G
theorem lF_top (hF : ∀ u ∈ lF bs ss k j P, u ∈ F) : fu bs ss k j P ∈ F := by
  refine hF _ ?_
  cases k with
  | zero => exact List.mem_singleton.mpr rfl
  | succ k =>
    unfold lF
    split <;> simp
theorem lG_top (hG : ∀ u ∈ lG bs ss k j P, u ∈ G) : (bld (k + 2) P, j) ∈ G := by
  refine hG _ ?_
  cases k with
  | zero => exact List.mem_singleton.mpr rfl
  | succ k => exact List.mem_cons_self
theorem lF_nine (hF : ∀ u ∈ lF bs ss (k + 1) j P, u ∈ F) {a b : Int} (ha : 0 ≤ a ∧ a ≤ 2) (hb : 0 ≤ b ∧ b ≤ 2) : ni k P a b ∈ F := by
  refine hF _ ?_
  have z := List.mem_map_of_mem (f := bld (k + 2)) (nineP_mem (k := k) (P := P) ha hb)
  unfold lF
  split <;> exact List.mem_append_left _ z
theorem lF_fast (hF : ∀ u ∈ lF bs ss (k + 1) (k + 1) P, u ∈ F) (hG : ∀ u ∈ lG bs ss (k + 1) (k + 1) P, u ∈ G) :
    WhOk bs ss k k (itP bs ss (2 ^ k) P) F G ∧ (∀ a b : Int, 0 ≤ a ∧ a ≤ 2 → 0 ≤ b ∧ b ≤ 2 → (∀ u ∈ lF bs ss k k (sh P (a * 2 ^ (k + 1)) (b * 2 ^ (k + 1))), u ∈ F) ∧ ∀ u ∈ lG bs ss k k (sh P (a * 2 ^ (k + 1)) (b * 2 ^ (k + 1))), u ∈ G) := by
  unfold lF at hF
  unfold lG at hG
  rw [if_pos rfl] at hF hG
  refine ⟨⟨fun a b ha hb => hF _ ?_, fun a b ha hb u hu => hF _ ?_, fun a b ha hb u hu => hG _ ?_⟩, fun a b ha hb => ⟨fun u hu => hF _ ?_, fun u hu => hG _ ?_⟩⟩
  · exact List.mem_append_right _ (List.mem_append_right _ (List.mem_append_left _ (List.mem_map_of_mem (fourP_mem ha hb))))
  · exact List.mem_append_right _ (List.mem_append_right _ (List.mem_append_right _ (List.mem_append_left _ (List.mem_flatMap.mpr ⟨_, fourP_mem ha hb, hu⟩))))
  · exact List.mem_cons_of_mem _ (List.mem_append_right _ (List.mem_flatMap.mpr ⟨_, fourP_mem ha hb, hu⟩))
  · exact List.mem_append_right _ (List.mem_append_left _ (List.mem_flatMap.mpr ⟨_, nineP_mem ha hb, hu⟩))
  · exact List.mem_cons_of_mem _ (List.mem_append_left _ (List.mem_flatMap.mpr ⟨_, nineP_mem ha hb, hu⟩))
theorem lF_slow (hj : ¬ j = k + 1) (hF : ∀ u ∈ lF bs ss (k + 1) j P, u ∈ F) (hG : ∀ u ∈ lG bs ss (k + 1) j P, u ∈ G) :
    WhOk bs ss k j P F G ∧ ∀ a b : Int, 0 ≤ a ∧ a ≤ 2 → 0 ≤ b ∧ b ≤ 2 → inn k P a b ∈ F := by
  unfold lF at hF
  unfold lG at hG
  rw [if_neg hj] at hF hG
  refine ⟨⟨fun a b ha hb => hF _ ?_, fun a b ha hb u hu => hF _ ?_, fun a b ha hb u hu => hG _ ?_⟩, fun a b ha hb => hF _ ?_⟩
  · exact List.mem_append_right _ (List.mem_append_right _ (List.mem_append_left _ (List.mem_map_of_mem (fourP_mem ha hb))))
  · exact List.mem_append_right _ (List.mem_append_right _ (List.mem_append_right _ (List.mem_append_left _ (List.mem_flatMap.mpr ⟨_, fourP_mem ha hb, hu⟩))))
  · exact List.mem_cons_of_mem _ (List.mem_flatMap.mpr ⟨_, fourP_mem ha hb, hu⟩)
  · rw [← md_inn]
    exact List.mem_append_right _ (List.mem_append_left _ (List.mem_map_of_mem (nineP_mem ha hb)))
end
end M
namespace M
open PySem PySem.Spec PyProof.Rows L2 J
theorem at_off {rs : List Nat} {t r : Nat} (h : rs[t]? = some r) {x : Int} (hx : x = (t : Int)) : atI (rs.map fun r : Nat => PyData.int (r : Nat)) x = some (.int (r : Nat)) := by
  subst hx
  exact atI_nat (by rw [List.getElem?_map, h]; rfl)
/-- the t-th of nine -/
def i9 (t : Nat) : Int := ((t / 3 : Nat) : Int)
def j9 (t : Nat) : Int := ((t % 3 : Nat) : Int)
theorem i9_bd {t : Nat} (h : t < 9) : 0 ≤ i9 t ∧ i9 t ≤ 2 := by unfold i9; omega
theorem j9_bd (t : Nat) : 0 ≤ j9 t ∧ j9 t ≤ 2 := by unfold j9; omega
/-- nine numbers of inner squares -/
structure Nin (ks : List Q4) (k : Nat) (R : Pl) (rs : List Nat) : Prop where
  at_ : ∀ (t r : Nat), rs[t]? = some r → Dnt ks r (inn k R (i9 t) (j9 t))
theorem Nin.more {ks : List Q4} {S S' : SS} {k : Nat} {R : Pl} {rs : List Nat} {r : Nat} (h : Nin S.ks k R rs) (l : S.le S') (d : Dnt S'.ks r (inn k R (i9 rs.length) (j9 rs.length))) : Nin S'.ks k R (rs ++ [r]) :=
  ⟨fun t r' ht => by
    by_cases hl : t < rs.length
    · rw [List.getElem?_append_left hl] at ht
      exact (h.at_ t r' ht).le l
    · have e : t = rs.length := by
        have := (List.getElem?_eq_some_iff.mp ht).1
        simp at this; omega
      subst e
      simp at ht
      subst ht
      exact d⟩
end M

/-! T5: boxes; what a store shows of generations. -/
namespace M
open PySem PySem.Spec PyProof.Rows L2 J
theorem Tr.cnt_le : ∀ {t : Tr}, t.ok → t.cnt ≤ 4 ^ t.lev
  | .lf b, _ => by cases b <;> decide
  | .nd a b c d, h => by
    obtain ⟨ha, hb, hc, hd, e1, e2, e3⟩ := h
    have h1 := a.cnt_le ha
    have h2 := b.cnt_le hb
    have h3 := c.cnt_le hc
    have h4 := d.cnt_le hd
    rw [e1] at h2
    rw [e2] at h3
    rw [e3] at h4
    rw [Tr.cnt, Tr.lev, Nat.pow_succ]
    omega
theorem bld_cnt_le (l : Nat) (P : Pl) : (bld l P).cnt ≤ 4 ^ l := by
  have z := Tr.cnt_le (bld_ok l P)
  rw [bld_lev] at z; exact z
/-- all cells lie between a and b -/
def inB (a b : Int) (A : List Cell) : Prop := ∀ x ∈ A, a ≤ x.1 ∧ x.1 < b ∧ a ≤ x.2 ∧ x.2 < b
def boxL (a : Int) (m : Nat) : List Cell := (List.range m).flatMap fun i : Nat => (List.range m).map fun j : Nat => (a + (i : Int), a + (j : Int))
theorem boxL_len (a : Int) (m : Nat) : (boxL a m).length ≤ m * m := by
  unfold boxL
  have h := flatm_len (f := fun i : Nat => (List.range m).map fun j : Nat => ((a + (i : Int), a + (j : Int)) : Cell)) (n := m) (l := List.range m) fun _ _ => by simp
  rw [List.length_range] at h
  exact h
theorem inB_len {a b : Int} {m : Nat} {A : List Cell} (h : inB a b A) (nd : A.Nodup) (hm : b - a ≤ m) : A.length ≤ m * m := by
  refine Nat.le_trans (nodup_le nd fun x hx => ?_) (boxL_len a m)
  have z := h x hx
  refine List.mem_flatMap.mpr ⟨(x.1 - a).toNat, List.mem_range.mpr (by omega), List.mem_map.mpr ⟨(x.2 - a).toNat, List.mem_range.mpr (by omega), Prod.ext (by dsimp only; omega) (by dsimp only; omega)⟩⟩
theorem nxt_near {A : List Cell} {bs ss : List Int} {x : Cell} (h : x ∈ nxt A bs ss) : ∃ a ∈ A, a.1 - 1 ≤ x.1 ∧ x.1 ≤ a.1 + 1 ∧ a.2 - 1 ≤ x.2 ∧ x.2 ≤ a.2 + 1 := by
  rw [nxt_mem] at h
  unfold lvN at h
  rw [Bool.and_eq_true, Bool.or_eq_true, decide_eq_true_eq, decide_eq_true_eq] at h
  rcases h.2 with h2 | h2
  · exact ⟨x, ddp_mem.mp h2, by omega, by omega, by omega, by omega⟩
  · unfold cnt at h2
    obtain ⟨a, ha⟩ := List.exists_mem_of_length_pos h2
    obtain ⟨h3, h4⟩ := List.mem_filter.mp ha
    rw [ad_iff] at h4
    exact ⟨a, ddp_mem.mp h3, by omega, by omega, by omega, by omega⟩
theorem nxt_inB {a b : Int} {A : List Cell} {bs ss : List Int} (h : inB a b A) : inB (a - 1) (b + 1) (nxt A bs ss) := fun x hx => by
  obtain ⟨y, hy, h1, h2, h3, h4⟩ := nxt_near hx
  have z := h y hy
  omega
theorem itL_inB {a b : Int} {A : List Cell} {bs ss : List Int} (h : inB a b A) : ∀ n : Nat, inB (a - n) (b + n) (itL bs ss n A)
  | 0 => by rw [itL]; simpa using h
  | n + 1 => by
    have z := nxt_inB (bs := bs) (ss := ss) (itL_inB (bs := bs) (ss := ss) h n)
    intro x hx
    have := z x hx
    push_cast
    omega
theorem inQ_inB {l : Nat} {A : List Cell} (h : inQ l A) : inB 0 (2 ^ l) A := fun x hx => by have := h x hx; omega
theorem itL_add (bs ss : List Int) (A : List Cell) (m : Nat) : ∀ n, itL bs ss (n + m) A = itL bs ss n (itL bs ss m A)
  | 0 => by rw [Nat.zero_add]; rfl
  | n + 1 => by rw [show n + 1 + m = (n + m) + 1 by omega, itL, itL_add bs ss A m n, itL]
theorem itL_nodup {bs ss : List Int} {A : List Cell} (h : Lt A) (n : Nat) : (itL bs ss n A).Nodup := lt_nodup (itL_lt h n)
/-- what a future shows -/
theorem fu_pat {bs ss bs' ss' : List Int} (eb : SameS bs bs') (es : SameS ss ss') (hb : ∀ b ∈ bs, 1 ≤ b) {A : List Cell} (hA : Lt A) (k j : Nat) : (fu bs' ss' k j (mem A)).pat = winC (itL bs ss (2 ^ j) A) (2 ^ k) (2 ^ k) (2 ^ (k + 1)) := by
  unfold fu
  refine pat_win (itL_lt hA _) fun a b => ?_
  rw [itP_same eb es, itL_itP hb]
theorem md_pat {A : List Cell} (hA : Lt A) (k : Nat) : (md k (mem A)).pat = winC A (2 ^ k) (2 ^ k) (2 ^ (k + 1)) := pat_win hA fun _ _ => rfl
theorem winC_len (A : List Cell) (r c h : Int) : (winC A r c h).length ≤ A.length := by
  unfold winC; rw [List.length_map]; exact List.length_filter_le _ _
/-- as the law cuts it out -/
theorem fm_win3 (A : List Cell) (k : Nat) : (A.filterMap fun x => if decide ((2 : Int) ^ k ≤ x.1 ∧ x.1 < 3 * 2 ^ k ∧ 2 ^ k ≤ x.2 ∧ x.2 < 3 * 2 ^ k) = true then some (D.d (cD (x.1 - 2 ^ k, x.2 - 2 ^ k))) else none) = ((winC A (2 ^ k) (2 ^ k) (2 ^ (k + 1))).map cD).map .d := by
  have z := fm_win A (2 ^ k) (2 ^ k) (2 ^ (k + 1))
  rw [p2s, show (2 : Int) ^ k + (2 ^ k + 2 ^ k) = 3 * 2 ^ k by omega] at z
  rw [p2s]
  exact z
/-- all that a square's futures make -/
def FU (bs ss : List Int) (n k : Nat) (P : Pl) : List Tr := (List.range n).flatMap fun j => lF bs ss k j P
def GU (bs ss : List Int) (n k : Nat) (P : Pl) : List (Tr × Nat) := (List.range n).flatMap fun j => lG bs ss k j P
theorem FU_len (bs ss : List Int) (n k : Nat) (P : Pl) : (FU bs ss n k P).length ≤ n * cF k := by
  have h := flatm_len (f := fun j => lF bs ss k j P) (n := cF k) (l := List.range n) fun j _ => lF_len k j P
  rw [List.length_range] at h; exact h
theorem GU_len (bs ss : List Int) (n k : Nat) (P : Pl) : (GU bs ss n k P).length ≤ n * cG k := by
  have h := flatm_len (f := fun j => lG bs ss k j P) (n := cG k) (l := List.range n) fun j _ => lG_len k j P
  rw [List.length_range] at h; exact h
theorem FU_mem {bs ss : List Int} {n k j : Nat} {P : Pl} (h : j < n) {u : Tr} (hu : u ∈ lF bs ss k j P) : u ∈ FU bs ss n k P := List.mem_flatMap.mpr ⟨j, List.mem_range.mpr h, hu⟩
theorem GU_mem {bs ss : List Int} {n k j : Nat} {P : Pl} (h : j < n) {u : Tr × Nat} (hu : u ∈ lG bs ss k j P) : u ∈ GU bs ss n k P := List.mem_flatMap.mpr ⟨j, List.mem_range.mpr h, hu⟩
theorem cF_mono : ∀ {k l : Nat}, k ≤ l → cF k ≤ cF l
  | k, 0, h => by rw [Nat.le_zero.mp h]; exact Nat.le_refl _
  | k, l + 1, h => by
    by_cases e : k = l + 1
    · subst e; exact Nat.le_refl _
    · have := cF_mono (k := k) (l := l) (by omega)
      rw [show cF (l + 1) = 14 + 13 * cF l from rfl]
      omega
theorem cG_mono : ∀ {k l : Nat}, k ≤ l → cG k ≤ cG l
  | k, 0, h => by rw [Nat.le_zero.mp h]; exact Nat.le_refl _
  | k, l + 1, h => by
    by_cases e : k = l + 1
    · subst e; exact Nat.le_refl _
    · have := cG_mono (k := k) (l := l) (by omega)
      rw [show cG (l + 1) = 1 + 13 * cG l from rfl]
      omega
theorem cF4 : cF 4 = 61881 := by decide
theorem cG4 : cG 4 = 30941 := by decide
theorem cF3 : cF 3 = 4759 := by decide
theorem cG3 : cG 3 = 2380 := by decide
end M

/-! T6: from store to store. -/
namespace M
open PySem PySem.Spec PyProof.Rows L2 J
theorem pcc {α : Type} {a : α} (x y : List α) : (a :: (x ++ y)).Perm ((a :: y) ++ x) := List.Perm.cons _ List.perm_append_comm
def knF (l : List (Nat × Nat)) : List (Key × D) := l.map fun e => ((.inl (e.1 : Int) : Key), .d (.int (e.2 : Nat)))
theorem kI_inj {p q : Nat} (h : (.inl (p : Int) : Key) = .inl (q : Int)) : p = q := by
  simp only [Sum.inl.injEq] at h
  exact Int.ofNat.inj h
theorem knF_get (p : Nat) : ∀ l : List (Nat × Nat), (p ∉ l.map (·.1) ∧ gV (knF l) (.inl (p : Int)) = none) ∨ ∃ m, (p, m) ∈ l ∧ gV (knF l) (.inl (p : Int)) = some (.d (.int (m : Nat)))
  | [] => .inl ⟨by simp, rfl⟩
  | e :: r => by
    by_cases h : e.1 = p
    · subst h
      exact .inr ⟨e.2, List.mem_cons_self, by simp [knF, gV]⟩
    · have ne : ¬ (.inl (e.1 : Int) : Key) = .inl (p : Int) := fun z => h (kI_inj z)
      have go : gV (knF (e :: r)) (.inl (p : Int)) = gV (knF r) (.inl (p : Int)) := by
        unfold gV knF
        rw [List.map_cons, List.find?_cons]
        simp only [ne, decide_false]
      rcases knF_get p r with ⟨h1, h2⟩ | ⟨m, h1, h2⟩
      · refine .inl ⟨fun z => ?_, by rw [go]; exact h2⟩
        rcases List.mem_cons.mp z with z | z
        · exact h z.symm
        · exact h1 z
      · exact .inr ⟨m, List.mem_cons_of_mem _ h1, by rw [go]; exact h2⟩
theorem knF_put {l : List (Nat × Nat)} {p : Nat} (m : Nat) (h : p ∉ l.map (·.1)) : gP (knF l) (.inl (p : Int)) (.d (.int (m : Nat))) = knF (l ++ [(p, m)]) := by
  unfold gP
  rcases knF_get p l with ⟨_, h2⟩ | ⟨m', h1, _⟩
  · rw [h2, if_neg (by simp)]; simp [knF]
  · exact absurd (List.mem_map.mpr ⟨_, h1, rfl⟩) h
theorem knF_same {l : List (Nat × Nat)} {p m : Nat} (h : (p, m) ∈ l) (nd : (l.map (·.1)).Nodup) : gP (knF l) (.inl (p : Int)) (.d (.int (m : Nat))) = knF l := by
  have is : (gV (knF l) (.inl (p : Int))).isSome = true := by
    rcases knF_get p l with ⟨h1, _⟩ | ⟨m', _, h2⟩
    · exact absurd (List.mem_map.mpr ⟨_, h, rfl⟩) h1
    · rw [h2]; rfl
  unfold gP
  rw [if_pos is]
  have key : ∀ e ∈ l, e.1 = p → e.2 = m := fun e he hp => by
    obtain ⟨i, hi⟩ := List.getElem?_of_mem he
    obtain ⟨j, hj⟩ := List.getElem?_of_mem h
    have e1 : (l.map (·.1))[i]? = some p := by rw [List.getElem?_map, hi]; exact congrArg some hp
    have e2 : (l.map (·.1))[j]? = some p := by rw [List.getElem?_map, hj]; rfl
    have e3 := get_inj nd e1 e2
    subst e3
    rw [hi] at hj
    cases hj
    rfl
  unfold knF
  rw [List.map_map]
  refine List.map_congr_left fun e he => ?_
  show (if (.inl (e.1 : Int) : Key) = .inl (p : Int) then ((.inl (e.1 : Int) : Key), D.d (.int (m : Nat))) else ((.inl (e.1 : Int) : Key), .d (.int (e.2 : Nat)))) = _
  split
  · rename_i q
    rw [key e he (kI_inj q)]
  · rfl
/-- a table from the squares of S2 to those of S -/
structure KwOk (S2 S : SS) (kn : List (Nat × Nat)) : Prop where
  nd : (kn.map (·.1)).Nodup
  ok : ∀ e ∈ kn, ∃ t, Dnt S2.ks e.1 t ∧ Dnt S.ks e.2 t
theorem KwOk.le {S2 S S' : SS} {kn : List (Nat × Nat)} (h : KwOk S2 S kn) (l : S.le S') : KwOk S2 S' kn := ⟨h.nd, fun e he => let ⟨t, h1, h2⟩ := h.ok e he; ⟨t, h1, h2.le l⟩⟩
theorem KwOk.len {S2 S : SS} {kn : List (Nat × Nat)} (h : KwOk S2 S kn) : kn.length ≤ S2.ks.length + 2 := by
  have z := nodup_le h.nd (D := List.range (S2.ks.length + 2)) fun x hx => by
    obtain ⟨e, he, rfl⟩ := List.mem_map.mp hx
    obtain ⟨t, h1, _⟩ := h.ok e he
    exact List.mem_range.mpr h1.lt
  rw [List.length_map, List.length_range] at z
  exact z
theorem KwOk.set {S2 S : SS} {kn : List (Nat × Nat)} {n m : Nat} {t : Tr} (h : KwOk S2 S kn) (nd : S.ks.Nodup) (d2 : Dnt S2.ks n t) (d : Dnt S.ks m t) :
    ∃ kn', KwOk S2 S kn' ∧ gP (knF kn) (.inl (n : Int)) (.d (.int (m : Nat))) = knF kn' ∧ gV (knF kn') (.inl (n : Int)) = some (.d (.int (m : Nat))) := by
  rcases knF_get n kn with ⟨g1, g2⟩ | ⟨m', g1, g2⟩
  · refine ⟨kn ++ [(n, m)], ⟨?_, fun e he => ?_⟩, knF_put m g1, ?_⟩
    · rw [List.map_append, List.nodup_append]
      exact ⟨h.nd, by simp, fun x hx y hy e => by simp at hy; subst hy; subst e; exact g1 hx⟩
    · rcases List.mem_append.mp he with he | he
      · exact h.ok e he
      · simp at he; subst he; exact ⟨t, d2, d⟩
    · rcases knF_get n (kn ++ [(n, m)]) with ⟨q1, _⟩ | ⟨m', q1, q2⟩
      · exact absurd (List.mem_map.mpr ⟨(n, m), List.mem_append_right _ List.mem_cons_self, rfl⟩) q1
      · rw [q2]
        rcases List.mem_append.mp q1 with q | q
        · exact absurd (List.mem_map.mpr ⟨_, q, rfl⟩) g1
        · simp at q; rw [q]
  · obtain ⟨t', k1, k2⟩ := h.ok _ g1
    rw [k1.fn d2] at k2
    have e4 : m' = m := k2.inj nd d
    subst e4
    exact ⟨kn, h, knF_same g1 h.nd, g2⟩
theorem SOk.subs {bs ss : List Int} {S : SS} {F : List Tr} {G : List (Tr × Nat)} (O : SOk bs ss S F G) : ∀ {t : Tr} {n : Nat}, Dnt S.ks n t → ∀ u ∈ t.subs, u ∈ F
  | .lf b, n, d, u, hu => by
    have hu : u ∈ [Tr.lf b] := hu
    simp at hu
    subst hu
    exact (O.at d).2.1
  | .nd a b c e, n, d, u, hu => by
    obtain ⟨i, na, nb, nc, ne, _, _, d1, d2, d3, d4⟩ := d.parts
    rw [Tr.subs] at hu
    simp only [List.mem_cons, List.mem_append] at hu
    rcases hu with rfl | h | h | h | h
    · exact (O.at d).2.1
    · exact O.subs d1 u h
    · exact O.subs d2 u h
    · exact O.subs d3 u h
    · exact O.subs d4 u h
theorem KwOk.nil (S2 S : SS) : KwOk S2 S [] := ⟨List.nodup_nil, fun e he => by cases he⟩
end M

/-! T7: four squares laid together. -/
namespace M
open PySem PySem.Spec PyProof.Rows L2 J
/-- a cell in the n-th of four squares of level l -/
def sf (l n : Nat) (x : Cell) : Cell := (x.1 + ((n / 2 : Nat) : Int) * 2 ^ l, x.2 + ((n % 2 : Nat) : Int) * 2 ^ l)
def jc (l : Nat) : Nat → List (List Cell) → List Cell
  | _, [] => []
  | n, w :: r => w.map (sf l n) ++ jc l (n + 1) r
theorem jc_snoc (l : Nat) (w : List Cell) : ∀ (ws : List (List Cell)) (n : Nat), jc l n (ws ++ [w]) = jc l n ws ++ w.map (sf l (n + ws.length))
  | [], n => by simp [jc]
  | v :: r, n => by
    rw [List.cons_append, jc, jc, jc_snoc l w r (n + 1), List.append_assoc, List.length_cons, show n + 1 + r.length = n + (r.length + 1) by omega]
theorem md_winC (l : Nat) (cs : List Cell) : md l (mem cs) = bld (l + 1) (mem (winC cs (2 ^ l) (2 ^ l) (2 ^ (l + 1)))) := by
  unfold md
  refine bld_ext (l + 1) fun r c h1 h2 h3 h4 => ?_
  unfold sh mem
  refine decide_eq_decide.mpr ?_
  rw [winC_mem]
  exact ⟨fun h => ⟨⟨h1, h2, h3, h4⟩, h⟩, fun h => h.2⟩
theorem winC_inQ (cs : List Cell) (r c : Int) (l : Nat) : inQ l (winC cs r c (2 ^ l)) := fun x hx => by
  have := (winC_mem.mp hx).1
  omega
theorem sf_inj {l : Nat} {a b : Cell} {n m : Nat} (hn : n < 4) (hm : m < 4) (ha : 0 ≤ a.1 ∧ a.1 < 2 ^ l ∧ 0 ≤ a.2 ∧ a.2 < 2 ^ l) (hb : 0 ≤ b.1 ∧ b.1 < 2 ^ l ∧ 0 ≤ b.2 ∧ b.2 < 2 ^ l) (h : sf l n a = sf l m b) : n = m ∧ a = b := by
  have e1 := congrArg Prod.fst h
  have e2 := congrArg Prod.snd h
  unfold sf at e1 e2
  dsimp only at e1 e2
  have z := p2p l
  generalize (2 : Int) ^ l = p at *
  have c1 : n = 0 ∨ n = 1 ∨ n = 2 ∨ n = 3 := by omega
  have c2 : m = 0 ∨ m = 1 ∨ m = 2 ∨ m = 3 := by omega
  rcases c1 with rfl | rfl | rfl | rfl <;> rcases c2 with rfl | rfl | rfl | rfl <;> simp at e1 e2 <;> first | (exfalso; omega) | exact ⟨rfl, Prod.ext (by omega) (by omega)⟩
theorem jc4_mem {l : Nat} {w0 w1 w2 w3 : List Cell} {x : Cell} : x ∈ jc l 0 [w0, w1, w2, w3] ↔ (∃ y ∈ w0, sf l 0 y = x) ∨ (∃ y ∈ w1, sf l 1 y = x) ∨ (∃ y ∈ w2, sf l 2 y = x) ∨ ∃ y ∈ w3, sf l 3 y = x := by
  simp [jc, or_assoc]
theorem jc4_in {l : Nat} {w0 w1 w2 w3 : List Cell} (h0 : inQ l w0) (h1 : inQ l w1) (h2 : inQ l w2) (h3 : inQ l w3) : inQ (l + 1) (jc l 0 [w0, w1, w2, w3]) := fun x hx => by
  have z := p2p l
  rw [p2s]
  rcases jc4_mem.mp hx with ⟨y, hy, rfl⟩ | ⟨y, hy, rfl⟩ | ⟨y, hy, rfl⟩ | ⟨y, hy, rfl⟩
  · have := h0 y hy; unfold sf; dsimp only; simp; omega
  · have := h1 y hy; unfold sf; dsimp only; simp; omega
  · have := h2 y hy; unfold sf; dsimp only; simp; omega
  · have := h3 y hy; unfold sf; dsimp only; simp; omega
theorem jc4_nodup {l : Nat} {w0 w1 w2 w3 : List Cell} (h0 : inQ l w0) (h1 : inQ l w1) (h2 : inQ l w2) (h3 : inQ l w3) (n0 : w0.Nodup) (n1 : w1.Nodup) (n2 : w2.Nodup) (n3 : w3.Nodup) : (jc l 0 [w0, w1, w2, w3]).Nodup := by
  have mp : ∀ {w : List Cell} (n : Nat), n < 4 → inQ l w → w.Nodup → (w.map (sf l n)).Nodup := fun {w} n hn hw nd => by
    rw [List.Nodup, List.pairwise_map]
    exact nd.imp_of_mem fun {a b} ha hb ne e => ne (sf_inj hn hn (hw a ha) (hw b hb) e).2
  have dj : ∀ {w v : List Cell} (n m : Nat), n < 4 → m < 4 → n ≠ m → inQ l w → inQ l v → ∀ x ∈ w.map (sf l n), x ∉ v.map (sf l m) := fun {w v} n m hn hm ne hw hv x hx hx2 => by
    obtain ⟨a, ha, rfl⟩ := List.mem_map.mp hx
    obtain ⟨b, hb, e⟩ := List.mem_map.mp hx2
    exact ne (sf_inj hm hn (hv b hb) (hw a ha) e).1.symm
  simp only [jc, List.append_nil]
  rw [List.nodup_append, List.nodup_append, List.nodup_append]
  refine ⟨mp 0 (by decide) h0 n0, ⟨mp 1 (by decide) h1 n1, ⟨mp 2 (by decide) h2 n2, mp 3 (by decide) h3 n3, fun a ha b hb e => dj 2 3 (by decide) (by decide) (by decide) h2 h3 a ha (e ▸ hb)⟩, fun a ha b hb e => ?_⟩, fun a ha b hb e => ?_⟩
  · rcases List.mem_append.mp hb with hb | hb
    · exact dj 1 2 (by decide) (by decide) (by decide) h1 h2 a ha (e ▸ hb)
    · exact dj 1 3 (by decide) (by decide) (by decide) h1 h3 a ha (e ▸ hb)
  · rcases List.mem_append.mp hb with hb | hb
    · exact dj 0 1 (by decide) (by decide) (by decide) h0 h1 a ha (e ▸ hb)
    rcases List.mem_append.mp hb with hb | hb
    · exact dj 0 2 (by decide) (by decide) (by decide) h0 h2 a ha (e ▸ hb)
    · exact dj 0 3 (by decide) (by decide) (by decide) h0 h3 a ha (e ▸ hb)
theorem jc4_bld {l : Nat} {w0 w1 w2 w3 cs : List Cell} (h0 : inQ l w0) (h1 : inQ l w1) (h2 : inQ l w2) (h3 : inQ l w3) (hc : ∀ x, x ∈ cs ↔ x ∈ jc l 0 [w0, w1, w2, w3]) : bld (l + 1) (mem cs) = .nd (bld l (mem w0)) (bld l (mem w1)) (bld l (mem w2)) (bld l (mem w3)) := by
  have z := p2p l
  rw [bld_parts]
  have key : ∀ (n : Nat) (w : List Cell) (a b : Int), n < 4 → a = ((n / 2 : Nat) : Int) * 2 ^ l → b = ((n % 2 : Nat) : Int) * 2 ^ l → (∀ y : Cell, 0 ≤ y.1 → y.1 < 2 ^ l → 0 ≤ y.2 → y.2 < 2 ^ l → (sf l n y ∈ jc l 0 [w0, w1, w2, w3] ↔ y ∈ w)) → bld l (sh (mem cs) a b) = bld l (mem w) := fun n w a b hn ha hb h => by
    refine bld_ext l fun r c g1 g2 g3 g4 => ?_
    unfold sh mem
    refine decide_eq_decide.mpr ?_
    rw [hc, ← h (r, c) g1 g2 g3 g4]
    unfold sf
    rw [ha, hb]
  have all : ∀ (n : Nat) (y : Cell), n < 4 → 0 ≤ y.1 → y.1 < 2 ^ l → 0 ≤ y.2 → y.2 < 2 ^ l → (sf l n y ∈ jc l 0 [w0, w1, w2, w3] ↔ (n = 0 ∧ y ∈ w0) ∨ (n = 1 ∧ y ∈ w1) ∨ (n = 2 ∧ y ∈ w2) ∨ (n = 3 ∧ y ∈ w3)) := fun n y hn g1 g2 g3 g4 => by
    rw [jc4_mem]
    constructor
    · rintro (⟨x, hx, e⟩ | ⟨x, hx, e⟩ | ⟨x, hx, e⟩ | ⟨x, hx, e⟩)
      · obtain ⟨e1, e2⟩ := sf_inj (by decide) hn (h0 x hx) ⟨g1, g2, g3, g4⟩ e; subst e1; subst e2; exact .inl ⟨rfl, hx⟩
      · obtain ⟨e1, e2⟩ := sf_inj (by decide) hn (h1 x hx) ⟨g1, g2, g3, g4⟩ e; subst e1; subst e2; exact .inr (.inl ⟨rfl, hx⟩)
      · obtain ⟨e1, e2⟩ := sf_inj (by decide) hn (h2 x hx) ⟨g1, g2, g3, g4⟩ e; subst e1; subst e2; exact .inr (.inr (.inl ⟨rfl, hx⟩))
      · obtain ⟨e1, e2⟩ := sf_inj (by decide) hn (h3 x hx) ⟨g1, g2, g3, g4⟩ e; subst e1; subst e2; exact .inr (.inr (.inr ⟨rfl, hx⟩))
    · rintro (⟨rfl, h⟩ | ⟨rfl, h⟩ | ⟨rfl, h⟩ | ⟨rfl, h⟩)
      · exact .inl ⟨y, h, rfl⟩
      · exact .inr (.inl ⟨y, h, rfl⟩)
      · exact .inr (.inr (.inl ⟨y, h, rfl⟩))
      · exact .inr (.inr (.inr ⟨y, h, rfl⟩))
  have k0 := key 0 w0 0 0 (by decide) (by simp) (by simp) fun y g1 g2 g3 g4 => by rw [all 0 y (by decide) g1 g2 g3 g4]; simp
  rw [sh_00] at k0
  rw [k0, key 1 w1 0 (2 ^ l) (by decide) (by simp) (by simp) fun y g1 g2 g3 g4 => by rw [all 1 y (by decide) g1 g2 g3 g4]; simp]
  rw [key 2 w2 (2 ^ l) 0 (by decide) (by simp) (by simp) fun y g1 g2 g3 g4 => by rw [all 2 y (by decide) g1 g2 g3 g4]; simp]
  rw [key 3 w3 (2 ^ l) (2 ^ l) (by decide) (by simp) (by simp) fun y g1 g2 g3 g4 => by rw [all 3 y (by decide) g1 g2 g3 g4]; simp]
theorem jc_len {l b : Nat} : ∀ {ws : List (List Cell)} {n : Nat}, (∀ w ∈ ws, w.length ≤ b) → (jc l n ws).length ≤ ws.length * b
  | [], n, h => by simp [jc]
  | w :: r, n, h => by
    rw [jc, List.length_append, List.length_map, List.length_cons, Nat.succ_mul]
    have h1 := h w List.mem_cons_self
    have h2 := jc_len (l := l) (n := n + 1) (ws := r) fun v hv => h v (List.mem_cons_of_mem _ hv)
    omega
/-- the middle cells, laid into the n-th of four -/
@[reducible] def jG (m n : Nat) (x : Cell) : Option Cell := if decide ((2 : Int) ^ m ≤ x.1 ∧ x.1 < 3 * 2 ^ m ∧ 2 ^ m ≤ x.2 ∧ x.2 < 3 * 2 ^ m) = true then some (sf (m + 1) n (x.1 - 2 ^ m, x.2 - 2 ^ m)) else none
theorem jG_all (m n : Nat) (cs : List Cell) : cs.filterMap (jG m n) = (winC cs (2 ^ m) (2 ^ m) (2 ^ (m + 1))).map (sf (m + 1) n) := by
  unfold jG
  rw [fm_if (fun x : Cell => decide ((2 : Int) ^ m ≤ x.1 ∧ x.1 < 3 * 2 ^ m ∧ 2 ^ m ≤ x.2 ∧ x.2 < 3 * 2 ^ m)) (fun x : Cell => sf (m + 1) n (x.1 - 2 ^ m, x.2 - 2 ^ m))]
  unfold winC
  rw [List.map_map, p2s, show (2 : Int) ^ m + (2 ^ m + 2 ^ m) = 3 * 2 ^ m by omega]
  rfl
end M

namespace My
open PySem PySem.Spec PyProof.Rows L2 J M
def topS (i : Nat) : Stmt := PySem.Challenge.pw_longlife_k30_many_futures_of_one_store.main.body.getD i (.Pass ⟨0, 0, 0, 0⟩)
structure Cs where
  Store : Addr
  Rule : Addr
structure Tx (K : PySem.W.Frag) (mg : Str → Option Value) (C : Cs) : Prop where
  b_abs : mg "abs" = none
  b_int : mg "int" = none
  b_len : mg "len" = none
  b_range : mg "range" = none
  b_set : mg "set" = none
  b_sorted : mg "sorted" = none
  b_sum : mg "sum" = none
  b_tuple : mg "tuple" = none
  k_AROUND : Kon K mg "AROUND" (.t [.t [.d (.int (-1)), .d (.int (-1))], .t [.d (.int (-1)), .d (.int 0)], .t [.d (.int (-1)), .d (.int 1)], .t [.d (.int 0), .d (.int (-1))], .t [.d (.int 0), .d (.int 1)], .t [.d (.int 1), .d (.int (-1))], .t [.d (.int 1), .d (.int 0)], .t [.d (.int 1), .d (.int 1)]])
  k_DEAD : Kon K mg "DEAD" (.d (.int 0))
  k_ALIVE : Kon K mg "ALIVE" (.d (.int 1))
  cl_Store : Cls K C.Store
  n_Store_rule : NoAttr K C.Store "rule"
  n_Store_kept_parts : NoAttr K C.Store "kept_parts"
  n_Store_levels : NoAttr K C.Store "levels"
  n_Store_counts : NoAttr K C.Store "counts"
  n_Store_numbers : NoAttr K C.Store "numbers"
  n_Store_futures : NoAttr K C.Store "futures"
  n_Store_empties : NoAttr K C.Store "empties"
  cl_Rule : Cls K C.Rule
  n_Rule_births : NoAttr K C.Rule "births"
  n_Rule_survival : NoAttr K C.Rule "survival"
theorem ifBt {b : Bool} {A B : Prop} (h : b = true) (a : A) : if b = true then A else B := by rw [if_pos h]; exact a
theorem ifBf {b : Bool} {A B : Prop} (h : b = false) (a : B) : if b = true then A else B := by rw [if_neg (by rw [h]; exact Bool.false_ne_true)]; exact a
theorem ifB {b : Bool} {A B : Prop} (h1 : b = true → A) (h2 : b = false → B) : if b = true then A else B := by
  cases b with
  | true => exact h1 rfl
  | false => exact h2 rfl
theorem ifD {c A B : Prop} [Decidable c] (h1 : c → A) (h2 : ¬ c → B) : if decide c = true then A else B := ifB (fun h => h1 (of_decide_eq_true h)) fun h => h2 (of_decide_eq_false h)
theorem ifNf {b : Bool} {A B : Prop} (h : b = true) (a : B) : if (!b) = true then A else B := by rw [h]; exact a
theorem ifNt {b : Bool} {A B : Prop} (h : b = false) (a : A) : if (!b) = true then A else B := by rw [h]; exact a
local macro_rules | `(tactic| walk_at "w") => `(tactic| with_reducible (conv => whnf))
local macro_rules | `(tactic| walk_at "len") => `(tactic| (intro ds ls Q h; (try dsimp only at h); split at h <;> first | rfl | exact h.elim))
local macro_rules | `(tactic| walk_at "fd") => `(tactic| first | exact ⟨0, _, rfl⟩ | exact ⟨1, _, rfl⟩ | exact ⟨2, _, rfl⟩ | exact ⟨3, _, rfl⟩ | exact ⟨4, _, rfl⟩ | exact ⟨5, _, rfl⟩ | exact ⟨6, _, rfl⟩)
local macro_rules | `(tactic| walk_at "fe") => `(tactic| first | exact ⟨0, _, rfl, trivial⟩ | exact ⟨1, _, rfl, trivial⟩ | exact ⟨2, _, rfl, trivial⟩ | exact ⟨3, _, rfl, trivial⟩ | exact ⟨4, _, rfl, trivial⟩ | exact ⟨5, _, rfl, trivial⟩ | exact ⟨6, _, rfl, trivial⟩)
local macro_rules | `(tactic| walk_at "sz") => `(tactic| (simp only [List.length_append, List.length_map, List.length_cons, List.length_nil, List.length_take, List.length_range, sizeLine_eq] at *; omega))
local macro_rules | `(tactic| walk_at "sd") => `(tactic| first | (dsimp only; done) | ((try dsimp only); first | omega | walk_at "fd" | walk_at "fe" | exact ⟨by omega, by omega⟩ | exact ⟨by omega, by omega, by omega⟩ | exact ⟨by omega, by omega, by omega, by omega⟩ | exact Nat.zero_le _ | exact ⟨rfl, rfl⟩ | assumption | walk_at "sz" | decide | exact rfl))
local macro_rules | `(tactic| walk_at "st") => `(tactic| (walk_at "w"; first | refine And.intro (by walk_at "sd") ?_ | refine ⟨0, _, rfl, ?_⟩ | refine ⟨1, _, rfl, ?_⟩ | refine ⟨2, _, rfl, ?_⟩ | refine ⟨3, _, rfl, ?_⟩ | refine ⟨4, _, rfl, ?_⟩ | refine ifBt (by with_reducible rfl) ?_ | refine ifBf (by with_reducible rfl) ?_ | refine Exists.intro (α := Nat) 0 (And.intro rfl ?_) | refine Exists.intro (α := Nat) 1 (And.intro rfl ?_) | refine Exists.intro (α := Nat) 2 (And.intro rfl ?_) | refine Exists.intro (α := Nat) 3 (And.intro rfl ?_) | refine Exists.intro (α := List Key) _ (And.intro rfl ?_) | refine Exists.intro (α := Key) _ (And.intro rfl ?_) | refine Exists.intro (α := List Int) _ (And.intro (intsD_map _) ?_) | refine Exists.intro (α := List Str) _ (And.intro (strsD_map _) ?_)))
local macro_rules | `(tactic| walk_at "go") => `(tactic| ((repeat walk_at "st"); try walk_at "w"))
theorem ifND {c A B : Prop} [Decidable c] (h1 : ¬ c → A) (h2 : c → B) : if (!decide c) = true then A else B := by
  by_cases h : c
  · rw [decide_eq_true h]; exact h2 h
  · rw [decide_eq_false h]; exact h1 h
local macro_rules | `(tactic| walk_at "gx") => `(tactic| ((repeat first | walk_at "st" | (walk_at "w"; refine Exists.intro _ (And.intro (show atI (_ :: _) _ = some _ from rfl) ?_)) | (walk_at "w"; refine Exists.intro _ (Exists.intro _ (And.intro (flats_obj (n := 0) rfl) (And.intro rfl ?_)))) | (walk_at "w"; refine Exists.intro _ (Exists.intro _ (And.intro (flats_obj (n := 1) rfl) (And.intro rfl ?_)))) | (walk_at "w"; refine Exists.intro _ (Exists.intro _ (And.intro (flats_obj (n := 2) rfl) (And.intro rfl ?_)))) | (walk_at "w"; refine Exists.intro _ (Exists.intro _ (And.intro (flats_obj (n := 3) rfl) (And.intro rfl ?_)))) | (walk_at "w"; refine Exists.intro _ (Exists.intro _ (And.intro (flats_obj (n := 4) rfl) (And.intro rfl ?_)))) | (walk_at "w"; refine And.intro (Exists.intro _ (And.intro (flats_obj (n := 0) rfl) rfl)) ?_) | (walk_at "w"; refine And.intro (Exists.intro _ (And.intro (flats_obj (n := 1) rfl) rfl)) ?_) | (walk_at "w"; refine And.intro (Exists.intro _ (And.intro (flats_obj (n := 2) rfl) rfl)) ?_) | (walk_at "w"; refine And.intro (Exists.intro _ (And.intro (flats_obj (n := 3) rfl) rfl)) ?_) | (walk_at "w"; refine And.intro (Exists.intro _ (And.intro (flats_obj (n := 4) rfl) rfl)) ?_) | (walk_at "w"; (with_reducible refine ifNf ?_ ?_); focus rfl) | (walk_at "w"; (with_reducible refine ifNt ?_ ?_); focus rfl)); try walk_at "w"))
local macro_rules | `(tactic| walk_at "mm") => `(tactic| first | exact ⟨0, _, rfl, _, rfl, rfl⟩ | exact ⟨1, _, rfl, _, rfl, rfl⟩ | exact ⟨2, _, rfl, _, rfl, rfl⟩ | exact ⟨3, _, rfl, _, rfl, rfl⟩ | exact ⟨4, _, rfl, _, rfl, rfl⟩ | exact ⟨5, _, rfl, _, rfl, rfl⟩ | exact ⟨6, _, rfl, _, rfl, rfl⟩ | exact ⟨7, _, rfl, _, rfl, rfl⟩ | exact ⟨8, _, rfl, _, rfl, rfl⟩)
local macro_rules | `(tactic| walk_at "ge") => `(tactic| ((repeat first | walk_at "gx1" | (walk_at "w"; refine ⟨5, _, rfl, ?_⟩) | (walk_at "w"; refine ⟨6, _, rfl, ?_⟩) | (walk_at "w"; refine ⟨7, _, rfl, ?_⟩) | (walk_at "w"; refine ⟨8, _, rfl, ?_⟩) | (walk_at "w"; refine And.intro (by first | exact ⟨5, _, rfl⟩ | exact ⟨6, _, rfl⟩ | exact ⟨7, _, rfl⟩ | exact ⟨8, _, rfl⟩) ?_) | (walk_at "w"; refine And.intro (Exists.intro _ (And.intro (flats_obj (n := 5) rfl) rfl)) ?_) | (walk_at "w"; refine And.intro (Exists.intro _ (And.intro (flats_obj (n := 6) rfl) rfl)) ?_) | (walk_at "w"; refine And.intro (Exists.intro _ (And.intro (flats_obj (n := 7) rfl) rfl)) ?_) | (walk_at "w"; refine And.intro (Exists.intro _ (And.intro (flats_obj (n := 8) rfl) rfl)) ?_) | (walk_at "w"; refine And.intro (Exists.intro _ (And.intro (flats_obj (n := 9) rfl) rfl)) ?_) | (walk_at "w"; refine Exists.intro _ (Exists.intro _ (And.intro (flats_obj (n := 5) rfl) (And.intro rfl ?_)))) | (walk_at "w"; refine Exists.intro _ (Exists.intro _ (And.intro (flats_obj (n := 6) rfl) (And.intro rfl ?_)))) | (walk_at "w"; refine Exists.intro _ (Exists.intro _ (And.intro (flats_obj (n := 7) rfl) (And.intro rfl ?_)))) | (walk_at "w"; refine Exists.intro _ (Exists.intro _ (And.intro (flats_obj (n := 8) rfl) (And.intro rfl ?_)))) | (walk_at "w"; refine Exists.intro _ (Exists.intro _ (And.intro (flats_obj (n := 9) rfl) (And.intro rfl ?_))))) ; try walk_at "w"))
local macro_rules | `(tactic| walk_at "gx1") => `(tactic| first | walk_at "st" | (walk_at "w"; refine Exists.intro _ (And.intro (show atI (_ :: _) _ = some _ from rfl) ?_)) | (walk_at "w"; refine Exists.intro _ (Exists.intro _ (And.intro (flats_obj (n := 0) rfl) (And.intro rfl ?_)))) | (walk_at "w"; refine Exists.intro _ (Exists.intro _ (And.intro (flats_obj (n := 1) rfl) (And.intro rfl ?_)))) | (walk_at "w"; refine Exists.intro _ (Exists.intro _ (And.intro (flats_obj (n := 2) rfl) (And.intro rfl ?_)))) | (walk_at "w"; refine Exists.intro _ (Exists.intro _ (And.intro (flats_obj (n := 3) rfl) (And.intro rfl ?_)))) | (walk_at "w"; refine Exists.intro _ (Exists.intro _ (And.intro (flats_obj (n := 4) rfl) (And.intro rfl ?_)))) | (walk_at "w"; refine And.intro (Exists.intro _ (And.intro (flats_obj (n := 0) rfl) rfl)) ?_) | (walk_at "w"; refine And.intro (Exists.intro _ (And.intro (flats_obj (n := 1) rfl) rfl)) ?_) | (walk_at "w"; refine And.intro (Exists.intro _ (And.intro (flats_obj (n := 2) rfl) rfl)) ?_) | (walk_at "w"; refine And.intro (Exists.intro _ (And.intro (flats_obj (n := 3) rfl) rfl)) ?_) | (walk_at "w"; refine And.intro (Exists.intro _ (And.intro (flats_obj (n := 4) rfl) rfl)) ?_) | (walk_at "w"; (with_reducible refine ifNf ?_ ?_); focus rfl) | (walk_at "w"; (with_reducible refine ifNt ?_ ?_); focus rfl))
section
variable {P : Program} {w : World} {K : PySem.W.Frag} {mg : Str → Option Value} {base : Heap} {C : Cs}
/-- the k-th number of the script -/
def js_law_cell : JSp := fun ds ls Q => match ds with
  | [.scr ns, .d (.int k)] => 0 ≤ k ∧ Q (.d (.int (ns.getD k.toNat 0))) ls
  | _ => False
abbrev s__law_cell : Stmt := topS 10
theorem sc__law_cell : FnScope ["script", "k"] ["script", "k"] (defScope s__law_cell) := ⟨rfl, rfl, rfl, by decide +kernel, rfl, by decide +kernel, by decide +kernel⟩
theorem bd__law_cell : BindsH "_law_cell" "_law_cell" s__law_cell ["script", "k"] := fun _ _ _ _ _ _ us hl => match us, hl with | [_, _], _ => rfl

theorem cal_law_cell (T : Tx K mg C) (D : Df K mg "_law_cell" s__law_cell) : Cal P w K mg base 1 "_law_cell" ["script", "k"] js_law_cell := by
  refine D.cal bd__law_cell sc__law_cell (by unfold js_law_cell; walk_at "len") fun f cdv A outer s H E hr => ⟨_, (pbCons (psIf (ptCmp ojLt (pvJ 1) (pjBi cjLen T.b_len (paCons (pvJ 0) paNil)) (nomark _)) (pbOne (psRet (pjTi cjInt T.b_int (paCons (pjIx (ixJ (hu1 hr)) (pvJ 0) (pvJ 1)) paNil)))) pbNil) (pbOne (psRet pintJ))), fun ds ls R h => ?_⟩
  unfold js_law_cell at h
  split at h
  · rename_i ns k
    obtain ⟨hk, h⟩ := h
    walk_at "w"
    refine ifD (fun c => ?_) fun c => ?_
    · walk_at "w"
      have hl : k.toNat < ns.length := by omega
      refine ⟨ns.getD k.toNat 0, ?_, ?_⟩
      · have z := atI_nat (List.getElem?_eq_getElem hl)
        rw [show ((k.toNat : Nat) : Int) = k by omega] at z
        rw [z, List.getD_eq_getElem?_getD, List.getElem?_eq_getElem hl]; rfl
      · walk_at "w"
        exact h
    · walk_at "w"
      have hl : ns.length ≤ k.toNat := by omega
      rw [List.getD_eq_getElem?_getD, List.getElem?_eq_none hl] at h
      exact h
  · exact h.elim

/-- some numbers below a bound -/
def js_law_row : JSp := fun ds ls Q => match ds with
  | [.d (.int c), .d (.int n), .d (.int b)] => (0 < b ∧ b < 1073741824 ∧ 0 ≤ n ∧ n ≤ 1000000) ∧ ∀ ns : List Int, ns.length = n.toNat → (∀ x ∈ ns, 0 ≤ x ∧ x < b) → Q (.d (.list (ns.map .int))) ls
  | _ => False
abbrev s__law_row : Stmt := topS 11
theorem sc__law_row : FnScope ["cell", "count", "bound", "rest", "mixed", "row", "k"] ["cell", "count", "bound"] (defScope s__law_row) := ⟨rfl, rfl, rfl, by decide +kernel, rfl, by decide +kernel, by decide +kernel⟩
theorem bd__law_row : BindsH "_law_row" "_law_row" s__law_row ["cell", "count", "bound"] := fun _ _ _ _ _ _ us hl => match us, hl with | [_, _, _], _ => rfl

theorem cal_law_row (T : Tx K mg C) (D : Df K mg "_law_row" s__law_row) : Cal P w K mg base 1 "_law_row" ["cell", "count", "bound"] js_law_row := by
  refine D.cal bd__law_row sc__law_row (by unfold js_law_row; walk_at "len") fun f cdv A outer s H E hr => ⟨_, (pbCons (psAsg (pjBi cjAbs T.b_abs (paCons (pjTi cjInt T.b_int (paCons (pvJ 0) paNil)) paNil)) (pgName (i := 3) sc__law_row.nd)) (pbCons (psAsg (pjOp ojAdd (pjOp ojMod (pjTi cjInt T.b_int (paCons (pvJ 0) paNil)) pintJ) pintJ) (pgName (i := 4) sc__law_row.nd)) (pbCons (psAsg (pjLst paNil) (pgName (i := 5) sc__law_row.nd)) (pbCons (psFr PassesOwn.never rfl (piRng1 rfl T.b_range (paCons (pvJ 1) paNil)) (pgName (i := 6) sc__law_row.nd) (pbOne (psIf (ptCmp ojGe (pvJ 3) (pvJ 2) (nomark _)) (pbCons (psExpr (pjApp (pvJ 5) (pjOp ojMod (pjTi cjInt T.b_int (paCons (pvJ 3) paNil)) (pvJ 2)))) (pbOne (psAsg (pjOp ojFdiv (pvJ 3) (pvJ 2)) (pgName (i := 3) sc__law_row.nd)))) (pbCons (psAsg (pjOp ojMod (pjTi cjInt T.b_int (paCons (pjOp ojAdd (pjOp ojAdd (pjOp ojMul (pvJ 4) pintJ) (pjOp ojMul pintJ (pvJ 6))) pintJ) paNil)) pintJ) (pgName (i := 4) sc__law_row.nd)) (pbOne (psExpr (pjApp (pvJ 5) (pjOp ojMod (pjTi cjInt T.b_int (paCons (pjOp ojFdiv (pjOp ojMul (pvJ 4) pintJ) pintJ) paNil)) (pvJ 2))))))))) (pbOne (psRet (pvJ 5))))))), fun ds ls R h => ?_⟩
  unfold js_law_row at h
  split at h
  · rename_i c n b
    obtain ⟨⟨hb, hb2, hn0, hn⟩, h⟩ := h
    walk_at "go"
    refine newL_l fun row => ?_
    walk_at "go"
    refine forR (fun i δ ls' => ∃ (rest mixed : Int) (kk : Option J.D) (ns : List Int), δ = [some (.d (.int c)), some (.d (.int n)), some (.d (.int b)), some (.d (.int rest)), some (.d (.int mixed)), some (.a row), kk] ∧
      ls' = (row, LO.lst (ns.map fun n => .d (.int n))) :: ls ∧ ns.length = i ∧ ∀ x ∈ ns, 0 ≤ x ∧ x < b) ⟨_, _, _, [], rfl, rfl, rfl, by simp⟩ (fun i δ ls' hi hI => ?_) fun δ ls' hI => ?_
    · obtain ⟨rest, mixed, kk, ns, rfl, rfl, hl, hx⟩ := hI
      walk_at "w"
      refine ifD (fun c => ?_) fun c => ?_
      · walk_at "go"
        have h0 := Int.emod_nonneg rest (show b ≠ 0 by omega)
        have h1 := Int.emod_lt_of_pos rest hb
        refine ⟨_, _, _, ns ++ [rest % b], rfl, by simp, by simp [hl], fun x hm => ?_⟩
        rcases List.mem_append.mp hm with hm | hm
        · exact hx x hm
        · simp only [List.mem_singleton] at hm; subst hm; exact ⟨h0, h1⟩
      · walk_at "go"
        refine ⟨_, _, _, ns ++ [((mixed * 48271 + 11 * (0 + (i : Int)) + 7) % 2147483647 * 2862933555777941757 / 1024) % b], rfl, by simp, by simp [hl], fun x hm => ?_⟩
        rcases List.mem_append.mp hm with hm | hm
        · exact hx x hm
        · simp only [List.mem_singleton] at hm; subst hm; exact ⟨Int.emod_nonneg _ (show b ≠ 0 by omega), Int.emod_lt_of_pos _ hb⟩
    · obtain ⟨rest, mixed, kk, ns, rfl, rfl, hl, hx⟩ := hI
      walk_at "go"
      exact pubY 0 (ns.map .int) rfl (by simp) (h ns hl hx)
  · exact h.elim

/-- numbers of births and survival -/
@[reducible] def js_law_numbers : JSp := fun ds ls Q => match ds with
  | [.d (.int _)] => ∀ bs ss : List Int, bs.length ≤ 9 → ss.length ≤ 9 → (∀ b ∈ bs, 1 ≤ b ∧ b ≤ 8) → (∀ b ∈ ss, 0 ≤ b ∧ b ≤ 8) → Q (.d (.tuple [.list (bs.map .int), .list (ss.map .int)])) ls
  | _ => False
theorem pick5 {lo hi : Int} (a b c d e : List Int) (i : Int) (h0 : 0 ≤ i) (h5 : i < 5) (hl : a.length ≤ 9 ∧ b.length ≤ 9 ∧ c.length ≤ 9 ∧ d.length ≤ 9 ∧ e.length ≤ 9)
    (hb : ∀ x ∈ a ++ (b ++ (c ++ (d ++ e))), lo ≤ x ∧ x ≤ hi) : ∃ z : List Int, atI [PyData.list (a.map .int), .list (b.map .int), .list (c.map .int), .list (d.map .int), .list (e.map .int)] i = some (.list (z.map .int)) ∧ z.length ≤ 9 ∧ ∀ x ∈ z, lo ≤ x ∧ x ≤ hi := by
  simp only [List.mem_append] at hb
  have h : i = 0 ∨ i = 1 ∨ i = 2 ∨ i = 3 ∨ i = 4 := by omega
  rcases h with rfl | rfl | rfl | rfl | rfl
  · exact ⟨a, rfl, hl.1, fun x hx => hb x (.inl hx)⟩
  · exact ⟨b, rfl, hl.2.1, fun x hx => hb x (.inr (.inl hx))⟩
  · exact ⟨c, rfl, hl.2.2.1, fun x hx => hb x (.inr (.inr (.inl hx)))⟩
  · exact ⟨d, rfl, hl.2.2.2.1, fun x hx => hb x (.inr (.inr (.inr (.inl hx))))⟩
  · exact ⟨e, rfl, hl.2.2.2.2, fun x hx => hb x (.inr (.inr (.inr (.inr hx))))⟩
abbrev s__law_numbers : Stmt := topS 12
theorem sc__law_numbers : FnScope ["cell", "x", "births", "survival", "k"] ["cell"] (defScope s__law_numbers) := ⟨rfl, rfl, rfl, by decide +kernel, rfl, by decide +kernel, by decide +kernel⟩
theorem bd__law_numbers : BindsH "_law_numbers" "_law_numbers" s__law_numbers ["cell"] := fun _ _ _ _ _ _ us hl => match us, hl with | [_], _ => rfl

theorem cal_law_numbers (T : Tx K mg C) (D : Df K mg "_law_numbers" s__law_numbers) : Cal P w K mg base 1 "_law_numbers" ["cell"] js_law_numbers := by
  refine D.cal bd__law_numbers sc__law_numbers (by unfold js_law_numbers; walk_at "len") fun f cdv A outer s H E hr => ⟨_, (pbCons (psAsg (pjBi cjAbs T.b_abs (paCons (pjTi cjInt T.b_int (paCons (pvJ 0) paNil)) paNil)) (pgName (i := 1) sc__law_numbers.nd)) (pbCons (psSLC (vs := [4]) (i := 2) rfl sc__law_numbers.nd (blkOk_by (N := ["cell", "x", "births", "survival", "k"]) (sc := defScope s__law_numbers) (own := [("k", 4)]) (by decide +kernel)) (piRng2 rfl T.b_range (paCons pintJ (paCons pintJ paNil))) (pgcName 4 (by simp) fun _ _ _ _ _ => pg_name (i := 4) sc__law_numbers.nd rfl (by first | exact .inl rfl | exact .inr rfl)) (ptsU (fun _ _ _ _ _ => rfl) fun _ _ _ _ _ => (ptCmp (ojEq (hu64 hr)) (pjOp ojMod (pjOp ojFdiv (pvJ 1) (pjOp ojShl pintJ (pvJ 4))) pintJ) pintJ (nomark _))) (pesU (fun _ _ _ _ _ => rfl) fun _ _ _ _ _ => (pvJ 4))) (pbCons (psSLC (vs := [4]) (i := 3) rfl sc__law_numbers.nd (blkOk_by (N := ["cell", "x", "births", "survival", "k"]) (sc := defScope s__law_numbers) (own := [("k", 4)]) (by decide +kernel)) (piRng1 rfl T.b_range (paCons pintJ paNil)) (pgcName 4 (by simp) fun _ _ _ _ _ => pg_name (i := 4) sc__law_numbers.nd rfl (by first | exact .inl rfl | exact .inr rfl)) (ptsU (fun _ _ _ _ _ => rfl) fun _ _ _ _ _ => (ptCmp (ojEq (hu64 hr)) (pjOp ojMod (pjOp ojFdiv (pvJ 1) (pjOp ojShl pintJ (pvJ 4))) pintJ) pintJ (nomark _))) (pesU (fun _ _ _ _ _ => rfl) fun _ _ _ _ _ => (pvJ 4))) (pbCons (psIf (ptCmp (ojEq (hu64 hr)) (pjOp ojMod (pjOp ojFdiv (pvJ 1) pintJ) pintJ) pintJ (nomark _)) (pbCons (psAsg (pjIx (ixJ (hu1 hr)) (pjLst (paCons (pjLst (paCons pintJ paNil)) (paCons (pjLst (paCons pintJ (paCons pintJ paNil))) (paCons (pjLst (paCons pintJ paNil)) (paCons (pjLst (paCons pintJ (paCons pintJ (paCons pintJ paNil)))) (paCons (pjLst (paCons pintJ (paCons pintJ paNil))) paNil)))))) (pjOp ojMod (pjOp ojFdiv (pvJ 1) pintJ) pintJ)) (pgName (i := 2) sc__law_numbers.nd)) (pbOne (psAsg (pjIx (ixJ (hu1 hr)) (pjLst (paCons (pjLst (paCons pintJ (paCons pintJ paNil))) (paCons (pjLst (paCons pintJ (paCons pintJ paNil))) (paCons (pjLst paNil) (paCons (pjLst (paCons pintJ (paCons pintJ (paCons pintJ (paCons pintJ paNil))))) (paCons (pjLst (paCons pintJ (paCons pintJ (paCons pintJ paNil)))) paNil)))))) (pjOp ojMod (pjOp ojFdiv (pvJ 1) pintJ) pintJ)) (pgName (i := 3) sc__law_numbers.nd)))) pbNil) (pbOne (psRet (pjTup (paCons (pvJ 2) (paCons (pvJ 3) paNil))))))))), fun ds ls R h => ?_⟩
  unfold js_law_numbers at h
  split at h
  · rename_i cc
    walk_at "go"
    refine compRI (fun i acc ls' => ls' = ls ∧ ∃ bs : List Int, acc = (bs.map PyData.int).map .d ∧ bs.length ≤ i ∧ ∀ b ∈ bs, 1 ≤ b ∧ b ≤ 8) ⟨rfl, [], rfl, by simp, by simp⟩ (fun i acc ls' hi hI => ?_) fun acc ls' hI => ?_
    · obtain ⟨rfl, bs, rfl, hl, hb⟩ := hI
      walk_at "go"
      have z := pow_bd (k := (1 + (i : Int)).toNat) (n := 8) (by omega)
      refine ⟨⟨by omega, by omega⟩, ?_⟩
      walk_at "go"
      refine ifD (fun c => ?_) fun c => ?_
      · walk_at "go"
        refine ⟨bs ++ [1 + (i : Int)], by simp, by simp only [List.length_append, List.length_cons, List.length_nil]; omega, fun b hm => ?_⟩
        rcases List.mem_append.mp hm with hm | hm
        · exact hb b hm
        · simp only [List.mem_singleton] at hm; omega
      · exact ⟨rfl, bs, rfl, by omega, hb⟩
    · obtain ⟨rfl, bs, rfl, hl, hb⟩ := hI
      refine newL_d rfl ?_
      walk_at "go"
      refine compRI (fun i acc ls'' => ls'' = ls' ∧ ∃ bs : List Int, acc = (bs.map PyData.int).map .d ∧ bs.length ≤ i ∧ ∀ b ∈ bs, 0 ≤ b ∧ b ≤ 8) ⟨rfl, [], rfl, by simp, by simp⟩ (fun i acc ls' hi hI => ?_) fun acc ls' hI => ?_
      · obtain ⟨rfl, ss, rfl, hl2, hb2⟩ := hI
        walk_at "go"
        have z := pow_bd (k := (0 + (i : Int)).toNat) (n := 8) (by omega)
        refine ⟨⟨by omega, by omega⟩, ?_⟩
        walk_at "go"
        refine ifD (fun c => ?_) fun c => ?_
        · walk_at "go"
          refine ⟨ss ++ [0 + (i : Int)], by simp, by simp only [List.length_append, List.length_cons, List.length_nil]; omega, fun b hm => ?_⟩
          rcases List.mem_append.mp hm with hm | hm
          · exact hb2 b hm
          · simp only [List.mem_singleton] at hm; omega
        · exact ⟨rfl, ss, rfl, by omega, hb2⟩
      · obtain ⟨rfl, ss, rfl, hl2, hb2⟩ := hI
        refine newL_d rfl ?_
        walk_at "go"
        refine ifD (fun c => ?_) fun c => ?_
        · walk_at "go"
          refine newL_e rfl ?_
          walk_at "go"
          refine newL_e rfl ?_
          walk_at "go"
          refine newL_e rfl ?_
          walk_at "go"
          refine newL_e rfl ?_
          walk_at "go"
          refine newL_e rfl ?_
          walk_at "go"
          refine newL_e rfl ?_
          walk_at "go"
          dsimp only
          obtain ⟨bs', e1, l1, b1⟩ := pick5 (lo := 1) (hi := 8) [3] [3, 6] [2] [3, 7, 8] [2, 5] ((if cc < 0 then -cc else cc) / 786432 % 5) (by omega) (by omega) (by decide) (by decide)
          refine ⟨_, e1, ?_⟩
          walk_at "go"
          refine newL_e rfl ?_
          walk_at "go"
          refine newL_e rfl ?_
          walk_at "go"
          refine newL_e rfl ?_
          walk_at "go"
          refine newL_e rfl ?_
          walk_at "go"
          refine newL_e rfl ?_
          walk_at "go"
          refine newL_e rfl ?_
          walk_at "go"
          dsimp only
          obtain ⟨ss', e2, l2, b2⟩ := pick5 (lo := 0) (hi := 8) [2, 3] [2, 3] [] [2, 3, 4, 5] [3, 4, 6] ((if cc < 0 then -cc else cc) / 3932160 % 5) (by omega) (by omega) (by decide) (by decide)
          refine ⟨_, e2, ?_⟩
          walk_at "go"
          exact h bs' ss' l1 l2 b1 b2
        · walk_at "go"
          exact h bs ss (by omega) (by omega) hb hb2
  · exact h.elim

/-- a rule -/
@[reducible] def ruleF (bs ss : List Int) : List (Str × PyData) := [("births", .tuple (bs.map .int)), ("survival", .tuple (ss.map .int))]
@[reducible] def ruleD (C : Cs) (bs ss : List Int) : J.D := .ins C.Rule (ruleF bs ss)
@[reducible] def js_rule_init (C : Cs) : JSp := fun ds ls Q => match ds with
  | [.a p, .d (.list b), .d (.list s)] => ∃ bs ss : List Int, (intsD b = some bs ∧ intsD s = some ss ∧ bs.length < 64 ∧ ss.length < 64) ∧ ∃ n : Nat, ls[n]? = some (p, .obj C.Rule []) ∧
      ∀ bs' ss', SameS bs bs' → SameS ss ss' → Q (.d .none) (ls.set n (p, .obj C.Rule [("births", .d (.tuple (bs'.map .int))), ("survival", .d (.tuple (ss'.map .int)))]))
  | _ => False
abbrev s_Rule___init__ : Stmt := inClass (topS 8) 0
theorem sc_Rule___init__ : FnScope ["self", "births", "survival"] ["self", "births", "survival"] (defScope s_Rule___init__) := ⟨rfl, rfl, rfl, by decide +kernel, rfl, by decide +kernel, by decide +kernel⟩
theorem bd_Rule___init__ : BindsH "__init__" "Rule.__init__" s_Rule___init__ ["self", "births", "survival"] := fun _ _ _ _ _ _ us hl => match us, hl with | [_, _, _], _ => rfl

theorem cak_Rule (T : Tx K mg C) (D : Dk K mg "Rule" C.Rule "Rule.__init__" s_Rule___init__) : Cak P w K mg base 1 "Rule" C.Rule ["self", "births", "survival"] (js_rule_init C) := by
  refine D.cak bd_Rule___init__ sc_Rule___init__ (by unfold js_rule_init; walk_at "len") fun f cdv A outer s H E hr => ⟨_, (pbCons (psFld T.cl_Rule T.n_Rule_births (pvJ 0) (pjTi cjTuple T.b_tuple (paCons (pjSSI rfl T.b_sorted T.b_set (pvJ 1)) paNil))) (pbOne (psFld T.cl_Rule T.n_Rule_survival (pvJ 0) (pjTi cjTuple T.b_tuple (paCons (pjSSI rfl T.b_sorted T.b_set (pvJ 2)) paNil))))), fun ds ls R h => ?_⟩
  unfold js_rule_init at h
  split at h
  · rename_i p b s
    obtain ⟨bs, ss, ⟨hb, hs, lb, lsz⟩, n, hn, h⟩ := h
    walk_at "go"
    refine ⟨bs, hb, lb, fun bs' p1 m1 => ?_⟩
    walk_at "go"
    refine ⟨n, [], hn, by decide, ?_⟩
    walk_at "go"
    refine ⟨ss, hs, lsz, fun ss' p2 m2 => ?_⟩
    walk_at "go"
    have hl : n < ls.length := (List.getElem?_eq_some_iff.mp hn).1
    refine ⟨n, [("births", .d (.tuple (bs'.map .int)))], by rw [List.getElem?_set_self hl]; rfl, (by decide : 1 < 1000), ?_⟩
    rw [List.set_set]
    exact h bs' ss' ⟨p1, m1⟩ ⟨p2, m2⟩
  · exact h.elim
@[reducible] def js_lives (C : Cs) : JSp := fun ds ls Q => match ds with
  | [.ins c gs, .d (.bool a), .d (.int k)] => ∃ bs ss, (c = C.Rule ∧ gs = ruleF bs ss) ∧ Q (.d (.bool (lv bs ss a k))) ls
  | _ => False
abbrev s_Rule_lives : Stmt := inClass (topS 8) 1
theorem sc_Rule_lives : FnScope ["self", "alive", "count"] ["self", "alive", "count"] (defScope s_Rule_lives) := ⟨rfl, rfl, rfl, by decide +kernel, rfl, by decide +kernel, by decide +kernel⟩
theorem bd_Rule_lives : BindsH "lives" "Rule.lives" s_Rule_lives ["self", "alive", "count"] := fun _ _ _ _ _ _ us hl => match us, hl with | [_, _, _], _ => rfl

theorem cam_lives (T : Tx K mg C) (D : Dm K C.Rule "lives" "Rule.lives" s_Rule_lives) : Cam P w K mg base 1 C.Rule "lives" ["self", "alive", "count"] (js_lives C) := by
  refine D.cam bd_Rule_lives sc_Rule_lives (by unfold js_lives; walk_at "len") fun f cdv A outer s H E hr => ⟨_, (pbCons (psIf (ptV (pvJ 1)) (pbOne (psRet (pjCmp (ojIn (hu65 hr)) (pvJ 2) (pjFld T.cl_Rule T.n_Rule_survival (pvJ 0)) (by rfl)))) pbNil) (pbOne (psRet (pjCmp (ojIn (hu65 hr)) (pvJ 2) (pjFld T.cl_Rule T.n_Rule_births (pvJ 0)) (by rfl))))), fun ds ls R h => ?_⟩
  unfold js_lives at h
  split at h
  · rename_i c gs a k
    obtain ⟨bs, ss, ⟨rfl, rfl⟩, h⟩ := h
    walk_at "go"
    unfold lv at h
    refine ifB (fun e => ?_) fun e => ?_
    · rw [if_pos e] at h
      walk_at "go"
      refine ⟨_, rfl, ?_⟩
      walk_at "w"
      refine ⟨_, ⟨⟨rfl, all_flat ss⟩, rfl⟩, ?_⟩
      walk_at "w"
      rw [any_int]
      exact h
    · rw [if_neg (by rw [e]; decide)] at h
      walk_at "go"
      refine ⟨_, rfl, ?_⟩
      walk_at "w"
      refine ⟨_, ⟨⟨rfl, all_flat bs⟩, rfl⟩, ?_⟩
      walk_at "w"
      rw [any_int]
      exact h
  · exact h.elim

@[reducible] def stC (C : Cs) (A : SA) (bs ss : List Int) (S : SS) : Ls := stL C.Store C.Rule A bs ss S
/-- a new store -/
@[reducible] def js_store_init (C : Cs) : JSp := fun ds ls Q => match ds with
  | [.a p, .ins cR gs] => ∃ (bs ss : List Int) (l0 : Ls), (cR = C.Rule ∧ gs = ruleF bs ss ∧ ls = (p, .obj C.Store []) :: l0) ∧ ∀ A : SA, A.p = p → Q (.d .none) (stC C A bs ss S0 ++ l0)
  | _ => False
abbrev s_Store___init__ : Stmt := inClass (topS 6) 0
theorem sc_Store___init__ : FnScope ["self", "rule"] ["self", "rule"] (defScope s_Store___init__) := ⟨rfl, rfl, rfl, by decide +kernel, rfl, by decide +kernel, by decide +kernel⟩
theorem bd_Store___init__ : BindsH "__init__" "Store.__init__" s_Store___init__ ["self", "rule"] := fun _ _ _ _ _ _ us hl => match us, hl with | [_, _], _ => rfl

theorem cak_Store (T : Tx K mg C) (D : Dk K mg "Store" C.Store "Store.__init__" s_Store___init__) : Cak P w K mg base 1 "Store" C.Store ["self", "rule"] (js_store_init C) := by
  refine D.cakP bd_Store___init__ sc_Store___init__ (by unfold js_store_init; walk_at "len") fun f cdv A outer s H E hr => ⟨_, (pbCons (psFld T.cl_Store T.n_Store_rule (pvJ 0) (pvJ 1)) (pbCons (psFld T.cl_Store T.n_Store_kept_parts (pvJ 0) (pjLst (paCons (pjTup paNil) (paCons (pjTup paNil) paNil)))) (pbCons (psFld T.cl_Store T.n_Store_levels (pvJ 0) (pjLst (paCons pintJ (paCons pintJ paNil)))) (pbCons (psFld T.cl_Store T.n_Store_counts (pvJ 0) (pjLst (paCons pintJ (paCons pintJ paNil)))) (pbCons (psFld T.cl_Store T.n_Store_numbers (pvJ 0) pjDT) (pbCons (psFld T.cl_Store T.n_Store_futures (pvJ 0) pjDT) (pbOne (psFld T.cl_Store T.n_Store_empties (pvJ 0) (pjLst (paCons (pjGk T.k_DEAD) paNil)))))))))), fun ds ls R h => ?_⟩
  unfold js_store_init at h
  split at h
  · rename_i p cR gs
    obtain ⟨bs, ss, l0, ⟨rfl, rfl, rfl⟩, h⟩ := h
    walk_at "gx"
    refine newL_l fun pk => ?_
    walk_at "gx"
    refine ⟨(by decide : 1 < 1000), ?_⟩
    walk_at "gx"
    refine newL_l fun pl => ?_
    walk_at "gx"
    refine ⟨(by decide : 2 < 1000), ?_⟩
    walk_at "gx"
    refine newL_l fun pc => ?_
    walk_at "gx"
    refine ⟨(by decide : 3 < 1000), ?_⟩
    walk_at "gx"
    intro pn
    walk_at "gx"
    refine ⟨(by decide : 4 < 1000), ?_⟩
    walk_at "ge"
    intro pf
    walk_at "ge"
    refine ⟨(by decide : 5 < 1000), ?_⟩
    walk_at "ge"
    refine newL_l fun pe => ?_
    walk_at "ge"
    refine ⟨(by decide : 6 < 1000), ?_⟩
    walk_at "ge"
    have pm : ((stC C ⟨p, pk, pl, pc, pn, pf, pe⟩ bs ss S0).reverse ++ l0).Perm ([] ++ (stC C ⟨p, pk, pl, pc, pn, pf, pe⟩ bs ss S0 ++ l0)) := (List.reverse_perm _).append_right l0
    exact ⟨_, [], pm, h ⟨p, pk, pl, pc, pn, pf, pe⟩ rfl⟩
  · exact h.elim
/-- the number of a square with four parts -/
@[reducible] def js_joined (C : Cs) : JSp := fun ds ls Q => match ds with
  | [.a p, .d (.int a), .d (.int b), .d (.int c), .d (.int d)] => ∃ (A : SA) (bs ss : List Int) (S : SS) (F : List Tr) (G : List (Tr × Nat)) (na nb nc nd : Nat) (ta tb tc td : Tr),
      (p = A.p ∧ ls = stC C A bs ss S ∧ a = (na : Int) ∧ b = (nb : Int) ∧ c = (nc : Int) ∧ d = (nd : Int) ∧ SOk bs ss S F G ∧ Dnt S.ks na ta ∧ Dnt S.ks nb tb ∧ Dnt S.ks nc tc ∧ Dnt S.ks nd td ∧ (Tr.nd ta tb tc td).ok ∧ Tr.nd ta tb tc td ∈ F) ∧
      ∀ (S' : SS) (m : Nat), SOk bs ss S' F G → S.le S' → S'.el = S.el → S'.ft = S.ft → Dnt S'.ks m (.nd ta tb tc td) → Q (.d (.int (m : Nat))) (stC C A bs ss S')
  | _ => False
abbrev s_Store_joined : Stmt := inClass (topS 6) 1
theorem sc_Store_joined : FnScope ["self", "a", "b", "c", "d", "key", "part"] ["self", "a", "b", "c", "d"] (defScope s_Store_joined) := ⟨rfl, rfl, rfl, by decide +kernel, rfl, by decide +kernel, by decide +kernel⟩
theorem bd_Store_joined : BindsH "joined" "Store.joined" s_Store_joined ["self", "a", "b", "c", "d"] := fun _ _ _ _ _ _ us hl => match us, hl with | [_, _, _, _, _], _ => rfl

theorem cam_joined (T : Tx K mg C) (D : Dm K C.Store "joined" "Store.joined" s_Store_joined) : Cam P w K mg base 1 C.Store "joined" ["self", "a", "b", "c", "d"] (Fr (js_joined C)) := by
  refine (D.cam (js := js_joined C) bd_Store_joined sc_Store_joined (by unfold js_joined; walk_at "len") fun f cdv A outer s H E hr => ⟨_, (pbCons (psAsg (pjTup (paCons (pvJ 1) (paCons (pvJ 2) (paCons (pvJ 3) (paCons (pvJ 4) paNil))))) (pgName (i := 5) sc_Store_joined.nd)) (pbCons (psIf (ptCmp (ojNotIn (hu65 hr)) (pvJ 5) (pjFld T.cl_Store T.n_Store_numbers (pvJ 0)) (by rfl)) (pbCons (psAsg (pjBi cjLen T.b_len (paCons (pjFld T.cl_Store T.n_Store_levels (pvJ 0)) paNil)) (pgSb hr (pjFld T.cl_Store T.n_Store_numbers (pvJ 0)) (pvJ 5))) (pbCons (psExpr (pjApp (pjFld T.cl_Store T.n_Store_kept_parts (pvJ 0)) (pvJ 5))) (pbCons (psExpr (pjApp (pjFld T.cl_Store T.n_Store_levels (pvJ 0)) (pjOp ojAdd (pjIx (ixJ (hu1 hr)) (pjFld T.cl_Store T.n_Store_levels (pvJ 0)) (pvJ 1)) pintJ))) (pbOne (psExpr (pjApp (pjFld T.cl_Store T.n_Store_counts (pvJ 0)) (pjBi (cjSum rfl) T.b_sum (paCons (pjLC (vs := [6]) rfl sc_Store_joined.nd (blkOk_by (N := ["self", "a", "b", "c", "d", "key", "part"]) (sc := defScope s_Store_joined) (own := [("part", 6)]) (by decide +kernel)) (piTup (pvJ 5)) (pgcName 6 (by simp) fun _ _ _ _ _ => pg_name (i := 6) sc_Store_joined.nd rfl (by first | exact .inl rfl | exact .inr rfl)) ptsN (pesU (fun _ _ _ _ _ => rfl) fun _ _ _ _ _ => (pjIx (ixJ (hu1 hr)) (pjFld T.cl_Store T.n_Store_counts (pvJ 0)) (pvJ 6)))) paNil)))))))) pbNil) (pbOne (psRet (pjIx (ixJ (hu1 hr)) (pjFld T.cl_Store T.n_Store_numbers (pvJ 0)) (pvJ 5)))))), fun ds ls R h => ?_⟩).fr
  unfold js_joined at h
  split at h
  · rename_i p a b c d
    obtain ⟨A, bs, ss, S, F, G, na, nb, nc, nd, ta, tb, tc, td, ⟨rfl, rfl, rfl, rfl, rfl, rfl, O, da, db, dc, dd, ok, hF⟩, h⟩ := h
    walk_at "ge"
    have hb := O.len
    have hbig := O.big
    have kd : keysD [.int (na : Int), .int (nb : Int), .int (nc : Int), .int (nd : Int)] = some (q4K (na, nb, nc, nd)) := rfl
    by_cases hm : (na, nb, nc, nd) ∈ S.ks
    · obtain ⟨i, hi⟩ := List.getElem?_of_mem hm
      have g := (nmF_get (na, nb, nc, nd) S.ks 0).2 i hi O.nd
      refine ⟨true, ⟨4, _, rfl, _, kd, by rw [g]; rfl⟩, ?_⟩
      walk_at "ge"
      refine ⟨_, _, kd, g, ?_⟩
      walk_at "ge"
      rw [Nat.zero_add]
      exact h S (i + 2) O S.le_refl rfl rfl (.q hi da db dc dd)
    · have g := (nmF_get (na, nb, nc, nd) S.ks 0).1 hm
      refine ⟨false, ⟨4, _, rfl, _, kd, by rw [g]; rfl⟩, ?_⟩
      walk_at "ge"
      obtain ⟨_, _, la, ca⟩ := O.at da
      obtain ⟨_, _, lb, cb⟩ := O.at db
      obtain ⟨_, _, lc, cc⟩ := O.at dc
      obtain ⟨_, _, ld, cd⟩ := O.at dd
      have ll := O.lvl
      have cl := O.ctl
      obtain ⟨O2, new⟩ := O.add hm da db dc dd ok hF
      refine ⟨by rw [nmF_len, sizeLine_eq]; omega, ?_⟩
      walk_at "ge"
      refine ⟨by rw [partsD_len, sizeLine_eq]; omega, ?_⟩
      walk_at "ge"
      refine ⟨_, natsD_at la, ?_⟩
      walk_at "ge"
      refine ⟨by rw [natsD_len, sizeLine_eq]; omega, ?_⟩
      walk_at "ge"
      refine compM (as := [(na, ta.cnt), (nb, tb.cnt), (nc, tc.cnt), (nd, td.cnt)]) (src := fun n : Nat × Nat => PyData.int (n.1 : Nat)) (fun n => some (.d (.int (n.2 : Nat)))) trivial (show 4 ≤ sizeLine by decide) (fun i n acc W hn hz k1 k2 => ?_) ?_
      · have k1 := k1 _ rfl
        walk_at "ge"
        have hat : atI (natsD S.ct) (n.1 : Int) = some (.d (.int (n.2 : Nat))) := by
          match i, hn with
          | 0, hn => cases hn; exact natsD_at ca
          | 1, hn => cases hn; exact natsD_at cb
          | 2, hn => cases hn; exact natsD_at cc
          | 3, hn => cases hn; exact natsD_at cd
        refine ⟨_, hat, ?_⟩
        walk_at "ge"
        exact k1
      · refine newL_d (ds := [(ta.cnt : Int), tb.cnt, tc.cnt, td.cnt].map .int) rfl ?_
        walk_at "ge"
        rw [sum4]
        refine ⟨by rw [natsD_len, sizeLine_eq]; omega, ?_⟩
        walk_at "ge"
        have e1 : gP (nmF 0 S.ks) [Sum.inl (na : Int), Sum.inl (nb : Int), Sum.inl (nc : Int), Sum.inl (nd : Int)] (.d (.int ((natsD S.lv).length : Int))) = nmF 0 (S.ks ++ [(na, nb, nc, nd)]) := by
          rw [natsD_len, ll]; exact nmF_put hm
        rw [e1]
        have g2 := (nmF_get (na, nb, nc, nd) (S.ks ++ [(na, nb, nc, nd)]) 0).2 S.ks.length (by simp) O2.nd
        refine ⟨_, _, kd, g2, ?_⟩
        walk_at "ge"
        have e2 : partsD S.ks ++ [.d (.tuple [.int (na : Int), .int (nb : Int), .int (nc : Int), .int (nd : Int)])] = partsD (S.ks ++ [(na, nb, nc, nd)]) := partsD_app S.ks (na, nb, nc, nd)
        have e3 : natsD S.lv ++ [.d (.int ((ta.lev : Int) + 1))] = natsD (S.lv ++ [ta.lev + 1]) := by rw [← natsD_app]; push_cast; rfl
        have e4 := natsD_app S.ct (ta.cnt + tb.cnt + tc.cnt + td.cnt)
        have fin := h _ _ O2 (S.add_le _ _ _) rfl rfl new
        rw [Nat.zero_add]
        rw [e2, e3, e4]
        exact fin
  · exact h.elim
@[reducible] def js_level (C : Cs) : JSp := fun ds ls Q => match ds with
  | [.a p, .d (.int a)] => ∃ (A : SA) (bs ss : List Int) (S : SS) (F : List Tr) (G : List (Tr × Nat)) (na : Nat) (ta : Tr), (p = A.p ∧ ls = stC C A bs ss S ∧ a = (na : Int) ∧ SOk bs ss S F G ∧ Dnt S.ks na ta) ∧ Q (.d (.int (ta.lev : Nat))) ls
  | _ => False
abbrev s_Store_level : Stmt := inClass (topS 6) 2
theorem sc_Store_level : FnScope ["self", "square"] ["self", "square"] (defScope s_Store_level) := ⟨rfl, rfl, rfl, by decide +kernel, rfl, by decide +kernel, by decide +kernel⟩
theorem bd_Store_level : BindsH "level" "Store.level" s_Store_level ["self", "square"] := fun _ _ _ _ _ _ us hl => match us, hl with | [_, _], _ => rfl

theorem cam_level (T : Tx K mg C) (D : Dm K C.Store "level" "Store.level" s_Store_level) : Cam P w K mg base 1 C.Store "level" ["self", "square"] (Fr (js_level C)) := by
  refine (D.cam (js := js_level C) bd_Store_level sc_Store_level (by unfold js_level; walk_at "len") fun f cdv A outer s H E hr => ⟨_, (pbOne (psRet (pjIx (ixJ (hu1 hr)) (pjFld T.cl_Store T.n_Store_levels (pvJ 0)) (pvJ 1)))), fun ds ls R h => ?_⟩).fr
  unfold js_level at h
  split at h
  · obtain ⟨A, bs, ss, S, F, G, na, ta, ⟨rfl, rfl, rfl, O, da⟩, h⟩ := h
    walk_at "ge"
    refine ⟨_, natsD_at (O.at da).2.2.1, ?_⟩
    walk_at "ge"
    exact h
  · exact h.elim
@[reducible] def js_parts (C : Cs) : JSp := fun ds ls Q => match ds with
  | [.a p, .d (.int a)] => ∃ (A : SA) (bs ss : List Int) (S : SS) (F : List Tr) (G : List (Tr × Nat)) (na : Nat) (ta tb tc td : Tr), (p = A.p ∧ ls = stC C A bs ss S ∧ a = (na : Int) ∧ SOk bs ss S F G ∧ Dnt S.ks na (.nd ta tb tc td)) ∧
      ∀ ma mb mc md : Nat, Dnt S.ks ma ta → Dnt S.ks mb tb → Dnt S.ks mc tc → Dnt S.ks md td → Q (.d (.tuple [.int (ma : Nat), .int (mb : Nat), .int (mc : Nat), .int (md : Nat)])) ls
  | _ => False
abbrev s_Store_parts : Stmt := inClass (topS 6) 3
theorem sc_Store_parts : FnScope ["self", "square"] ["self", "square"] (defScope s_Store_parts) := ⟨rfl, rfl, rfl, by decide +kernel, rfl, by decide +kernel, by decide +kernel⟩
theorem bd_Store_parts : BindsH "parts" "Store.parts" s_Store_parts ["self", "square"] := fun _ _ _ _ _ _ us hl => match us, hl with | [_, _], _ => rfl

theorem cam_parts (T : Tx K mg C) (D : Dm K C.Store "parts" "Store.parts" s_Store_parts) : Cam P w K mg base 1 C.Store "parts" ["self", "square"] (Fr (js_parts C)) := by
  refine (D.cam (js := js_parts C) bd_Store_parts sc_Store_parts (by unfold js_parts; walk_at "len") fun f cdv A outer s H E hr => ⟨_, (pbOne (psRet (pjIx (ixJ (hu1 hr)) (pjFld T.cl_Store T.n_Store_kept_parts (pvJ 0)) (pvJ 1)))), fun ds ls R h => ?_⟩).fr
  unfold js_parts at h
  split at h
  · obtain ⟨A, bs, ss, S, F, G, na, ta, tb, tc, td, ⟨rfl, rfl, rfl, O, da⟩, h⟩ := h
    obtain ⟨i, ma, mb, mc, md, rfl, hi, d1, d2, d3, d4⟩ := da.parts
    walk_at "ge"
    refine ⟨_, partsD_at hi, ?_⟩
    walk_at "ge"
    exact h ma mb mc md d1 d2 d3 d4
  · exact h.elim
/-- the empty square of a level -/
@[reducible] def js_empty (C : Cs) : JSp := fun ds ls Q => match ds with
  | [.a p, .d (.int l)] => ∃ (A : SA) (bs ss : List Int) (S : SS) (F : List Tr) (G : List (Tr × Nat)) (n : Nat), (p = A.p ∧ ls = stC C A bs ss S ∧ l = (n : Int) ∧ SOk bs ss S F G ∧ ∀ i, i ≤ n → emp i ∈ F) ∧
      ∀ (S' : SS) (m : Nat), SOk bs ss S' F G → S.le S' → S'.ft = S.ft → Dnt S'.ks m (emp n) → Q (.d (.int (m : Nat))) (stC C A bs ss S')
  | _ => False
abbrev s_Store_empty : Stmt := inClass (topS 6) 5
theorem sc_Store_empty : FnScope ["self", "level", "last"] ["self", "level"] (defScope s_Store_empty) := ⟨rfl, rfl, rfl, by decide +kernel, rfl, by decide +kernel, by decide +kernel⟩
theorem bd_Store_empty : BindsH "empty" "Store.empty" s_Store_empty ["self", "level"] := fun _ _ _ _ _ _ us hl => match us, hl with | [_, _], _ => rfl

theorem cam_empty (T : Tx K mg C) (D : Dm K C.Store "empty" "Store.empty" s_Store_empty) (m_Store_joined : Cam P w K mg base 1 C.Store "joined" ["self", "a", "b", "c", "d"] (Fr (js_joined C))) : Cam P w K mg base 2 C.Store "empty" ["self", "level"] (Fr (js_empty C)) := by
  refine (D.cam (js := js_empty C) bd_Store_empty sc_Store_empty (by unfold js_empty; walk_at "len") fun f cdv A outer s H E hr => ⟨_, (pbCons (psWhile PassesOwn.never (ptCmp ojLe (pjBi cjLen T.b_len (paCons (pjFld T.cl_Store T.n_Store_empties (pvJ 0)) paNil)) (pvJ 1) (nomark _)) (pbCons (psAsg (pjIx (ixJ (hu1 hr)) (pjFld T.cl_Store T.n_Store_empties (pvJ 0)) (pjUn ujNeg pintJ)) (pgName (i := 2) sc_Store_empty.nd)) (pbOne (psExpr (pjApp (pjFld T.cl_Store T.n_Store_empties (pvJ 0)) (pjMt T.cl_Store m_Store_joined hr (pvJ 0) (paCons (pvJ 2) (paCons (pvJ 2) (paCons (pvJ 2) (paCons (pvJ 2) paNil)))))))))) (pbOne (psRet (pjIx (ixJ (hu1 hr)) (pjFld T.cl_Store T.n_Store_empties (pvJ 0)) (pvJ 1))))), fun ds ls R h => ?_⟩).fr
  unfold js_empty at h
  split at h
  · obtain ⟨A, bs, ss, S, F, G, n, ⟨rfl, rfl, rfl, O, hF⟩, h⟩ := h
    walk_at "ge"
    refine ⟨fun mm δ ls' => ∃ (S' : SS) (x : Option J.D), SOk bs ss S' F G ∧ S.le S' ∧ S'.ft = S.ft ∧ n + 1 ≤ S'.el.length + mm ∧ ls' = stC C A bs ss S' ∧ δ = [some (.a A.p), some (.d (.int (n : Nat))), x], ⟨n + 1, S, _, O, S.le_refl, rfl, by omega, rfl, rfl⟩, fun mm δ ls' hI => ?_⟩
    obtain ⟨S', x, O', le, ef, hmm, rfl, rfl⟩ := hI
    walk_at "ge"
    rw [natsD_len]
    have hel := O'.ellen
    have hbig := O'.big
    have hlen := O'.len
    have h0 := O'.el0
    refine ifD (fun e => ?_) fun e => ?_
    · walk_at "ge"
      obtain ⟨k, hk⟩ : ∃ k, S'.el.length = k + 1 := ⟨S'.el.length - 1, by omega⟩
      obtain ⟨m, hm⟩ : ∃ m, S'.el[k]? = some m := ⟨_, List.getElem?_eq_getElem (by omega)⟩
      refine ⟨_, last_at hk hm, ?_⟩
      walk_at "ge"
      have dm := O'.els k m hm
      refine ⟨[], stC C A bs ss S', .refl _, A, bs, ss, S', F, G, m, m, m, m, emp k, emp k, emp k, emp k, ⟨rfl, rfl, rfl, rfl, rfl, rfl, O', dm, dm, dm, dm, ?_, ?_⟩, fun S2 m2 O2 le2 e2 f2 d2 => ?_⟩
      · rw [← emp_succ]; exact bld_ok _ _
      · rw [← emp_succ]; exact hF (k + 1) (by omega)
      · walk_at "ge"
        have hl2 := O2.len
        refine ⟨by rw [natsD_len, e2, sizeLine_eq]; omega, ?_⟩
        walk_at "ge"
        have e6 := natsD_app S2.el m2
        rw [e6]
        have dm2 : Dnt S2.ks m2 (emp S2.el.length) := by rw [e2, hk, emp_succ]; exact d2
        exact ⟨n - S2.el.length, by rw [e2]; omega, S2.addE m2, _, O2.addE dm2, (le.trans le2).trans (S2.addE_le m2), f2.trans ef, by show n + 1 ≤ (S2.el ++ [m2]).length + _; rw [List.length_append, List.length_singleton, e2]; omega, rfl, rfl⟩
    · walk_at "ge"
      obtain ⟨m, hm⟩ : ∃ m, S'.el[n]? = some m := ⟨_, List.getElem?_eq_getElem (by omega)⟩
      refine ⟨_, natsD_at hm, ?_⟩
      walk_at "ge"
      exact h S' m O' le ef (O'.els n m hm)
  · exact h.elim

@[reducible] def js_built (C : Cs) (N : Nat) : JSp := fun ds ls Q => match ds with
  | [.a p, .d (.list ws), .d (.int l)] => ∃ (A : SA) (bs ss : List Int) (S : SS) (F : List Tr) (G : List (Tr × Nat)) (n : Nat) (cs : List Cell),
      (p = A.p ∧ ls = stC C A bs ss S ∧ ws = cs.map cD ∧ l = (n : Int) ∧ n < N ∧ n ≤ 60 ∧ inQ n cs ∧ cs.length ≤ 1000000 ∧ SOk bs ss S F G ∧ (∀ u ∈ (bld n (mem cs)).subs, u ∈ F) ∧ ∀ i, i ≤ n → emp i ∈ F) ∧
      ∀ (S' : SS) (m : Nat), SOk bs ss S' F G → S.le S' → S'.ft = S.ft → Dnt S'.ks m (bld n (mem cs)) → Q (.d (.int (m : Nat))) (stC C A bs ss S')
  | _ => False
abbrev s_Store_built : Stmt := inClass (topS 6) 6
theorem sc_Store_built : FnScope ["self", "cells", "level", "half", "found", "row", "column", "index", "parts", "part"] ["self", "cells", "level"] (defScope s_Store_built) := ⟨rfl, rfl, rfl, by decide +kernel, rfl, by decide +kernel, by decide +kernel⟩
theorem bd_Store_built : BindsH "built" "Store.built" s_Store_built ["self", "cells", "level"] := fun _ _ _ _ _ _ us hl => match us, hl with | [_, _, _], _ => rfl

theorem cam_built (T : Tx K mg C) (D : Dm K C.Store "built" "Store.built" s_Store_built) (m_Store_joined : Cam P w K mg base 1 C.Store "joined" ["self", "a", "b", "c", "d"] (Fr (js_joined C))) (m_Store_empty : Cam P w K mg base 2 C.Store "empty" ["self", "level"] (Fr (js_empty C))) :
    ∀ N : Nat, Cam P w K mg base (N + 3) C.Store "built" ["self", "cells", "level"] (Fr (js_built C N))
  | 0 => (D.cam (js := js_built C 0) bd_Store_built sc_Store_built (by unfold js_built; walk_at "len") fun f cdv A outer s H E hr => ⟨_, pbNever, fun ds ls R h => by
      unfold js_built at h
      split at h
      · obtain ⟨_, _, _, _, _, _, n, _, ⟨_, _, _, _, hn, _⟩, _⟩ := h
        omega
      · exact h.elim⟩).fr
  | N + 1 => by
    have m_Store_built := cam_built T D m_Store_joined m_Store_empty N
    refine (D.camP (js := js_built C (N + 1)) bd_Store_built sc_Store_built (by unfold js_built; walk_at "len") fun f cdv A outer s H E hr => ⟨_, (pbCons (psIf (ptNot (ptV (pvJ 1))) (pbOne (psRet (pjMt T.cl_Store m_Store_empty hr (pvJ 0) (paCons (pvJ 2) paNil)))) pbNil) (pbCons (psIf (ptCmp (ojEq (hu64 hr)) (pvJ 2) pintJ (nomark _)) (pbOne (psRet (pjGk T.k_ALIVE))) pbNil) (pbCons (psAsg (pjOp ojShl pintJ (pjOp ojSub (pvJ 2) pintJ)) (pgName (i := 3) sc_Store_built.nd)) (pbCons (psAsg (pjLst (paCons (pjLst paNil) (paCons (pjLst paNil) (paCons (pjLst paNil) (paCons (pjLst paNil) paNil))))) (pgName (i := 4) sc_Store_built.nd)) (pbCons (psFr PassesOwn.never rfl (piList (pvJ 1)) (pgTup rfl (pgCons (pgName (i := 5) sc_Store_built.nd) (pgCons (pgName (i := 6) sc_Store_built.nd) pgNil))) (pbCons (psAsg (pjOp ojAdd (pjIf (ptCmp ojGe (pvJ 5) (pvJ 3) (nomark _)) pintJ pintJ) (pjIf (ptCmp ojGe (pvJ 6) (pvJ 3) (nomark _)) pintJ pintJ)) (pgName (i := 7) sc_Store_built.nd)) (pbOne (psExpr (pjApp (pjIx (ixJ (hu1 hr)) (pvJ 4) (pvJ 7)) (pjTup (paCons (pjOp ojBand (pvJ 5) (pjOp ojSub (pvJ 3) pintJ)) (paCons (pjOp ojBand (pvJ 6) (pjOp ojSub (pvJ 3) pintJ)) paNil)))))))) (pbGhostL 4 (pbCons (psSLC (vs := [9]) (i := 8) rfl sc_Store_built.nd (blkOk_by (N := ["self", "cells", "level", "half", "found", "row", "column", "index", "parts", "part"]) (sc := defScope s_Store_built) (own := [("part", 9)]) (by decide +kernel)) (piList (pvJ 4)) (pgcName 9 (by simp) fun _ _ _ _ _ => pg_name (i := 9) sc_Store_built.nd rfl (by first | exact .inl rfl | exact .inr rfl)) ptsN (pesU (fun _ _ _ _ _ => rfl) fun _ _ _ _ _ => (pjMt T.cl_Store m_Store_built hr (pvJ 0) (paCons (pvJ 9) (paCons (pjOp ojSub (pvJ 2) pintJ) paNil))))) (pbOne (psRet (pjMt T.cl_Store m_Store_joined hr (pvJ 0) (paCons (pjIx (ixJ (hu1 hr)) (pvJ 8) pintJ) (paCons (pjIx (ixJ (hu1 hr)) (pvJ 8) pintJ) (paCons (pjIx (ixJ (hu1 hr)) (pvJ 8) pintJ) (paCons (pjIx (ixJ (hu1 hr)) (pvJ 8) pintJ) paNil)))))))))))))), fun ds ls R h => ?_⟩).fr
    unfold js_built at h
    split at h
    · rename_i p ws l
      obtain ⟨A, bs, ss, S, F, G, n, cs, ⟨rfl, rfl, rfl, rfl, hn, h60, hin, hcl, O, hF, hE⟩, h⟩ := h
      walk_at "ge"
      rw [show (cs.map cD).isEmpty = decide (cs = []) by cases cs <;> rfl]
      by_cases hcs : cs = []
      · subst hcs
        walk_at "ge"
        refine ⟨[], _, .refl _, A, bs, ss, S, F, G, n, ⟨rfl, rfl, rfl, O, hE⟩, fun S' m O' le ft d => ?_⟩
        walk_at "ge"
        exact ⟨_, [], .refl _, h S' m O' le ft (by rw [bld_nil]; exact d)⟩
      rw [decide_eq_false hcs]
      walk_at "ge"
      refine ifD (fun e => ?_) fun e => ?_
      · walk_at "ge"
        have e : n = 0 := by omega
        subst e
        exact ⟨_, [], .refl _, h S 1 O S.le_refl rfl (by rw [bld_one hin hcs]; exact .o)⟩
      obtain ⟨k, rfl⟩ : ∃ k, n = k + 1 := ⟨n - 1, by omega⟩
      walk_at "ge"
      have ek : ((k + 1 : Nat) : Int) - 1 = (k : Int) := by omega
      rw [ek]
      refine newL_l fun q0 => ?_
      walk_at "ge"
      refine newL_l fun q1 => ?_
      walk_at "ge"
      refine newL_l fun q2 => ?_
      walk_at "ge"
      refine newL_l fun q3 => ?_
      walk_at "ge"
      refine newL_l fun qf => ?_
      walk_at "ge"
      have eh : (fun (i j : Int) => PyData.int (i * 2 ^ j.toNat)) 1 (k : Int) = .int (2 ^ k) := by simp
      rw [eh]
      refine forM (as := cs) (f := cD) (fun i δ ls' => ∃ x y z : Option J.D, ls' = (qf, .lst [.a q0, .a q1, .a q2, .a q3]) :: (q3, .lst ((qd k true true (cs.take i)).map cD |>.map .d)) :: (q2, .lst ((qd k true false (cs.take i)).map cD |>.map .d)) :: (q1, .lst ((qd k false true (cs.take i)).map cD |>.map .d)) :: (q0, .lst ((qd k false false (cs.take i)).map cD |>.map .d)) :: stC C A bs ss S ∧
        δ = [some (.a A.p), some (.d (.list (cs.map cD))), some (.d (.int ((k + 1 : Nat) : Int))), some (.d (.int (2 ^ k))), some (.a qf), x, y, z, none, none]) ⟨_, _, _, rfl, rfl⟩ (fun i c δ ls' hc hI => ?_) fun δ ls' hI => ?_
      · obtain ⟨x, y, z, rfl, rfl⟩ := hI
        have hi : i < cs.length := (List.getElem?_eq_some_iff.mp hc).1
        have bd := hin c (List.mem_of_getElem? hc)
        have e3 : cs.take (i + 1) = cs.take i ++ [c] := by rw [List.take_add_one, hc]; rfl
        have ql := fun a b => Nat.le_trans (qd_len k a b (cs.take i)) (by rw [List.length_take]; exact Nat.min_le_left i cs.length)
        rw [e3, qd_snoc, qd_snoc, qd_snoc, qd_snoc]
        have q1' := ql false false
        have q2' := ql false true
        have q3' := ql true false
        have q4' := ql true true
        walk_at "ge"
        have bm1 : (fun (i j : Int) => PyData.int (Builtin.bitAnd i j)) c.1 (2 ^ k - 1) = .int (c.1 % 2 ^ k) := by dsimp only; rw [band_mod bd.1]
        have bm2 : (fun (i j : Int) => PyData.int (Builtin.bitAnd i j)) c.2 (2 ^ k - 1) = .int (c.2 % 2 ^ k) := by dsimp only; rw [band_mod bd.2.2.1]
        refine ifD (fun e1 => ?_) fun e1 => ?_
        · walk_at "ge"
          refine ifD (fun e2 => ?_) fun e2 => ?_
          · walk_at "ge"
            rw [bm1, bm2]
            refine ⟨_, _, _, ?_, rfl⟩
            rw [show inQd k true true c = true by simp [inQd, e1, e2], show inQd k true false c = false by simp [inQd, e1, e2], show inQd k false true c = false by simp [inQd, e1, e2], show inQd k false false c = false by simp [inQd, e1, e2]]
            simp only [if_true, Bool.false_eq_true, if_false, List.append_nil, List.map_append]
            rfl
          · walk_at "ge"
            rw [bm1, bm2]
            refine ⟨_, _, _, ?_, rfl⟩
            rw [show inQd k true true c = false by simp [inQd, e1, e2], show inQd k true false c = true by simp [inQd, e1, e2], show inQd k false true c = false by simp [inQd, e1, e2], show inQd k false false c = false by simp [inQd, e1, e2]]
            simp only [if_true, Bool.false_eq_true, if_false, List.append_nil, List.map_append]
            rfl
        · walk_at "ge"
          refine ifD (fun e2 => ?_) fun e2 => ?_
          · walk_at "ge"
            rw [bm1, bm2]
            refine ⟨_, _, _, ?_, rfl⟩
            rw [show inQd k true true c = false by simp [inQd, e1, e2], show inQd k true false c = false by simp [inQd, e1, e2], show inQd k false true c = true by simp [inQd, e1, e2], show inQd k false false c = false by simp [inQd, e1, e2]]
            simp only [if_true, Bool.false_eq_true, if_false, List.append_nil, List.map_append]
            rfl
          · walk_at "ge"
            rw [bm1, bm2]
            refine ⟨_, _, _, ?_, rfl⟩
            rw [show inQd k true true c = false by simp [inQd, e1, e2], show inQd k true false c = false by simp [inQd, e1, e2], show inQd k false true c = false by simp [inQd, e1, e2], show inQd k false false c = true by simp [inQd, e1, e2]]
            simp only [if_true, Bool.false_eq_true, if_false, List.append_nil, List.map_append]
            rfl
      · obtain ⟨x, y, z, rfl, rfl⟩ := hI
        rw [List.take_length]
        refine ⟨[(q0, (qd k false false cs).map cD), (q1, (qd k false true cs).map cD), (q2, (qd k true false cs).map cD), (q3, (qd k true true cs).map cD)], stC C A bs ss S, ?_, ?_⟩
        · exact List.Perm.cons _ ((List.reverse_perm [(q0, LO.lst (((qd k false false cs).map cD).map .d)), (q1, .lst (((qd k false true cs).map cD).map .d)), (q2, .lst (((qd k true false cs).map cD).map .d)), (q3, .lst (((qd k true true cs).map cD).map .d))]).append_right _)
        walk_at "ge"
        refine compFI (as := [(false, false), (false, true), (true, false), (true, true)]) (src := fun p : Bool × Bool => .d (.list ((qd k p.1 p.2 cs).map cD))) (fun i acc ls' => ∃ (S' : SS) (ms : List Nat), SOk bs ss S' F G ∧ S.le S' ∧ S'.ft = S.ft ∧ ls' = stC C A bs ss S' ∧ acc = (ms.map fun m : Nat => PyData.int (m : Nat)).map .d ∧ ms.length = i ∧
          ∀ (j m : Nat) (p : Bool × Bool), ms[j]? = some m → [(false, false), (false, true), (true, false), (true, true)][j]? = some p → Dnt S'.ks m (bld k (mem (qd k p.1 p.2 cs)))) ⟨S, [], O, S.le_refl, rfl, rfl, rfl, rfl, fun j m p hj => by simp at hj⟩ (fun i p acc ls' hp hI => ?_) fun acc ls' hI => ?_
        · obtain ⟨S', ms, O', le, ft, rfl, rfl, hl, hm⟩ := hI
          have hi : i < 4 := (List.getElem?_eq_some_iff.mp hp).1
          refine ⟨trivial, ?_⟩
          walk_at "ge"
          have ql := qd_len k p.1 p.2 cs
          refine ⟨[], _, .refl _, A, bs, ss, S', F, G, k, qd k p.1 p.2 cs, ⟨rfl, rfl, rfl, ek, by omega, by omega, qd_in, by omega, O', subs_quarters hin hF p.1 p.2, fun i hi => hE i (by omega)⟩, fun S2 m O2 le2 ft2 d2 => ?_⟩
          refine ⟨by rw [List.length_map, List.length_map, hl, sizeLine_eq]; omega, S2, ms ++ [m], O2, le.trans le2, ft2.trans ft, rfl, by simp, by simp [hl], fun j m' p' hj hp' => ?_⟩
          by_cases hjl : j < ms.length
          · rw [List.getElem?_append_left hjl] at hj
            exact (hm j m' p' hj hp').le le2
          · have hj2 : j = ms.length := by
              have := (List.getElem?_eq_some_iff.mp hj).1
              simp at this; omega
            subst hj2
            simp at hj
            subst hj
            rw [hl, hp] at hp'
            cases hp'
            exact d2
        · obtain ⟨S', ms, O', le, ft, rfl, rfl, hl, hm⟩ := hI
          refine ⟨trivial, newL_d rfl ?_⟩
          match ms, hl with
          | [m0, m1, m2, m3], _ =>
            have d0 := hm 0 m0 _ rfl rfl
            have d1 := hm 1 m1 _ rfl rfl
            have d2 := hm 2 m2 _ rfl rfl
            have d3 := hm 3 m3 _ rfl rfl
            walk_at "ge"
            refine ⟨[], _, .refl _, A, bs, ss, S', F, G, m0, m1, m2, m3, _, _, _, _, ⟨rfl, rfl, rfl, rfl, rfl, rfl, O', d0, d1, d2, d3, ?_, ?_⟩, fun S2 m O2 le2 _ ft2 dd => ?_⟩
            · rw [← bld_quarters hin]; exact bld_ok _ _
            · rw [← bld_quarters hin]; exact hF _ (Tr.self_sub _)
            · walk_at "ge"
              exact ⟨_, [], .refl _, h S2 m O2 (le.trans le2) (ft2.trans ft) (by rw [bld_quarters hin]; exact dd)⟩
    · exact h.elim

@[reducible] def js_pattern : JSp := fun ds ls Q => match ds with
  | [.d (.list ws)] => ∃ cs : List Cell, ws = cs.map cD ∧ cs.length ≤ 9900 ∧ Q (.d (csD (nrm cs))) ls
  | [.a q] => ∃ (n : Nat) (xs : List J.D) (cs : List Cell), ls[n]? = some (q, .lst xs) ∧ xs = (cs.map cD).map .d ∧ cs.length ≤ 9900 ∧ Q (.d (csD (nrm cs))) ls
  | _ => False
abbrev s_pattern : Stmt := topS 2
theorem sc_pattern : FnScope ["cells"] ["cells"] (defScope s_pattern) := ⟨rfl, rfl, rfl, by decide +kernel, rfl, by decide +kernel, by decide +kernel⟩
theorem bd_pattern : BindsH "pattern" "pattern" s_pattern ["cells"] := fun _ _ _ _ _ _ us hl => match us, hl with | [_], _ => rfl

theorem cal_pattern (T : Tx K mg C) (D : Df K mg "pattern" s_pattern) : Cal P w K mg base 1 "pattern" ["cells"] js_pattern := by
  refine D.cal bd_pattern sc_pattern (by unfold js_pattern; walk_at "len") fun f cdv A outer s H E hr => ⟨_, (pbOne (psRet (pjSSC hr rfl T.b_sorted T.b_set (pvJ 0)))), fun ds ls R h => ?_⟩
  unfold js_pattern at h
  split at h
  · obtain ⟨cs, rfl, hl, h⟩ := h
    walk_at "w"
    refine ⟨cs, cellsD_map cs, hl, ?_⟩
    walk_at "w"
    exact h
  · obtain ⟨n, xs, cs, hn, e, hl, h⟩ := h
    walk_at "w"
    refine ⟨n, xs, cs, hn, e, hl, ?_⟩
    walk_at "w"
    exact h
  · exact h.elim

@[reducible] def js_collect (C : Cs) (N : Nat) : JSp := fun ds ls Q => match ds with
  | [.a p, .d (.int n0), .d (.int r0), .d (.int c0), .a q] => ∃ (A : SA) (bs ss : List Int) (S : SS) (F : List Tr) (G : List (Tr × Nat)) (n : Nat) (t : Tr) (acc : List Cell),
      (p = A.p ∧ ls = (q, .lst ((acc.map cD).map .d)) :: stC C A bs ss S ∧ n0 = (n : Int) ∧ t.lev < N ∧ t.lev ≤ 60 ∧ acc.length + t.cnt ≤ 1000000 ∧ SOk bs ss S F G ∧ Dnt S.ks n t) ∧
      Q (.d .none) ((q, .lst (((acc ++ t.col r0 c0).map cD).map .d)) :: stC C A bs ss S)
  | _ => False
abbrev s_Store_collect_cells : Stmt := inClass (topS 6) 8
theorem sc_Store_collect_cells : FnScope ["self", "square", "row", "column", "result", "half", "a", "b", "c", "d"] ["self", "square", "row", "column", "result"] (defScope s_Store_collect_cells) := ⟨rfl, rfl, rfl, by decide +kernel, rfl, by decide +kernel, by decide +kernel⟩
theorem bd_Store_collect_cells : BindsH "collect_cells" "Store.collect_cells" s_Store_collect_cells ["self", "square", "row", "column", "result"] := fun _ _ _ _ _ _ us hl => match us, hl with | [_, _, _, _, _], _ => rfl

theorem cam_collect (T : Tx K mg C) (D : Dm K C.Store "collect_cells" "Store.collect_cells" s_Store_collect_cells) :
    ∀ N : Nat, Cam P w K mg base (N + 1) C.Store "collect_cells" ["self", "square", "row", "column", "result"] (Fr (js_collect C N))
  | 0 => (D.cam (js := js_collect C 0) bd_Store_collect_cells sc_Store_collect_cells (by unfold js_collect; walk_at "len") fun f cdv A outer s H E hr => ⟨_, pbNever, fun ds ls R h => by
      unfold js_collect at h
      split at h
      · obtain ⟨_, _, _, _, _, _, n, _, _, ⟨_, _, _, hn, _⟩, _⟩ := h
        omega
      · exact h.elim⟩).fr
  | N + 1 => by
    have m_Store_collect_cells := cam_collect T D N
    refine (D.cam (js := js_collect C (N + 1)) bd_Store_collect_cells sc_Store_collect_cells (by unfold js_collect; walk_at "len") fun f cdv A outer s H E hr => ⟨_, (pbCons (psIf (ptCmp (ojEq (hu64 hr)) (pjIx (ixJ (hu1 hr)) (pjFld T.cl_Store T.n_Store_counts (pvJ 0)) (pvJ 1)) pintJ (nomark _)) (pbOne psRetN) pbNil) (pbCons (psIf (ptCmp (ojEq (hu64 hr)) (pvJ 1) (pjGk T.k_ALIVE) (nomark _)) (pbCons (psExpr (pjApp (pvJ 4) (pjTup (paCons (pvJ 2) (paCons (pvJ 3) paNil))))) (pbOne psRetN)) pbNil) (pbCons (psAsg (pjOp ojShl pintJ (pjOp ojSub (pjIx (ixJ (hu1 hr)) (pjFld T.cl_Store T.n_Store_levels (pvJ 0)) (pvJ 1)) pintJ)) (pgName (i := 5) sc_Store_collect_cells.nd)) (pbCons (psAsg (pjIx (ixJ (hu1 hr)) (pjFld T.cl_Store T.n_Store_kept_parts (pvJ 0)) (pvJ 1)) (pgTup rfl (pgCons (pgName (i := 6) sc_Store_collect_cells.nd) (pgCons (pgName (i := 7) sc_Store_collect_cells.nd) (pgCons (pgName (i := 8) sc_Store_collect_cells.nd) (pgCons (pgName (i := 9) sc_Store_collect_cells.nd) pgNil)))))) (pbCons (psExpr (pjMt T.cl_Store m_Store_collect_cells hr (pvJ 0) (paCons (pvJ 6) (paCons (pvJ 2) (paCons (pvJ 3) (paCons (pvJ 4) paNil)))))) (pbCons (psExpr (pjMt T.cl_Store m_Store_collect_cells hr (pvJ 0) (paCons (pvJ 7) (paCons (pvJ 2) (paCons (pjOp ojAdd (pvJ 3) (pvJ 5)) (paCons (pvJ 4) paNil)))))) (pbCons (psExpr (pjMt T.cl_Store m_Store_collect_cells hr (pvJ 0) (paCons (pvJ 8) (paCons (pjOp ojAdd (pvJ 2) (pvJ 5)) (paCons (pvJ 3) (paCons (pvJ 4) paNil)))))) (pbOne (psExpr (pjMt T.cl_Store m_Store_collect_cells hr (pvJ 0) (paCons (pvJ 9) (paCons (pjOp ojAdd (pvJ 2) (pvJ 5)) (paCons (pjOp ojAdd (pvJ 3) (pvJ 5)) (paCons (pvJ 4) paNil)))))))))))))), fun ds ls R h => ?_⟩).fr
    unfold js_collect at h
    split at h
    · rename_i p n0 r0 c0 q
      obtain ⟨A, bs, ss, S, F, G, n, t, acc, ⟨rfl, rfl, rfl, hn, h60, hcl, O, d⟩, h⟩ := h
      have hat := O.at d
      walk_at "ge"
      refine ⟨_, natsD_at hat.2.2.2, ?_⟩
      walk_at "ge"
      refine ifD (fun e => ?_) fun e => ?_
      · walk_at "ge"
        have e0 : t.cnt = 0 := by omega
        have e1 : t.col r0 c0 = [] := List.eq_nil_of_length_eq_zero (by rw [t.col_len]; exact e0)
        rw [e1, List.append_nil] at h
        exact h
      walk_at "ge"
      cases t with
      | lf b =>
        have hb : b = true := by
          cases b
          · exact absurd rfl e
          · rfl
        subst hb
        have e1 : n = 1 := by cases d; rfl
        subst e1
        walk_at "ge"
        have e2 : ((acc ++ (Tr.lf true).col r0 c0).map cD).map J.D.d = (acc.map cD).map J.D.d ++ [.d (.tuple [.int r0, .int c0])] := by simp [Tr.col]
        rw [e2] at h
        exact h
      | nd a b x y =>
        obtain ⟨i, na, nb, nx, ny, rfl, hi, d1, d2, d3, d4⟩ := d.parts
        refine ifD (fun e => ?_) fun e => ?_
        · omega
        walk_at "ge"
        refine ⟨_, natsD_at hat.2.2.1, ?_⟩
        walk_at "ge"
        have el : ((a.nd b x y).lev : Int) - 1 = (a.lev : Int) := by show ((a.lev + 1 : Nat) : Int) - 1 = _; omega
        have hl : a.lev + 1 ≤ 60 := h60
        have hn : a.lev + 1 < N + 1 := hn
        obtain ⟨ha, hb, hx, hy, l1, l2, l3⟩ := hat.1
        have hc : acc.length + (a.cnt + b.cnt + x.cnt + y.cnt) ≤ 1000000 := hcl
        rw [el]
        have eh : (fun (i j : Int) => PyData.int (i * 2 ^ j.toNat)) 1 (a.lev : Int) = .int (2 ^ a.lev) := by simp
        refine ⟨⟨by omega, by omega, by decide⟩, ?_⟩
        rw [eh]
        walk_at "ge"
        refine ⟨_, partsD_at hi, ?_⟩
        walk_at "ge"
        have la := a.col_len r0 c0
        have lb := b.col_len r0 (c0 + 2 ^ a.lev)
        have lx := x.col_len (r0 + 2 ^ a.lev) c0
        refine ⟨[], _, .refl _, A, bs, ss, S, F, G, na, a, acc, ⟨rfl, rfl, rfl, by omega, by omega, by omega, O, d1⟩, ?_⟩
        walk_at "ge"
        refine ⟨[], _, .refl _, A, bs, ss, S, F, G, nb, b, acc ++ a.col r0 c0, ⟨rfl, rfl, rfl, by omega, by omega, by rw [List.length_append]; omega, O, d2⟩, ?_⟩
        walk_at "ge"
        refine ⟨[], _, .refl _, A, bs, ss, S, F, G, nx, x, acc ++ a.col r0 c0 ++ b.col r0 (c0 + 2 ^ a.lev), ⟨rfl, rfl, rfl, by omega, by omega, by rw [List.length_append, List.length_append]; omega, O, d3⟩, ?_⟩
        walk_at "ge"
        refine ⟨[], _, .refl _, A, bs, ss, S, F, G, ny, y, acc ++ a.col r0 c0 ++ b.col r0 (c0 + 2 ^ a.lev) ++ x.col (r0 + 2 ^ a.lev) c0, ⟨rfl, rfl, rfl, by omega, by omega, by rw [List.length_append, List.length_append, List.length_append]; omega, O, d4⟩, ?_⟩
        walk_at "ge"
        have e2 : acc ++ a.col r0 c0 ++ b.col r0 (c0 + 2 ^ a.lev) ++ x.col (r0 + 2 ^ a.lev) c0 ++ y.col (r0 + 2 ^ a.lev) (c0 + 2 ^ a.lev) = acc ++ (a.nd b x y).col r0 c0 := by rw [Tr.col]; simp only [List.append_assoc]
        rw [e2]
        exact h
    · exact h.elim
/-- the pattern of a square -/
@[reducible] def js_cells (C : Cs) (N : Nat) : JSp := fun ds ls Q => match ds with
  | [.a p, .d (.int n0)] => ∃ (A : SA) (bs ss : List Int) (S : SS) (F : List Tr) (G : List (Tr × Nat)) (n : Nat) (t : Tr), (p = A.p ∧ ls = stC C A bs ss S ∧ n0 = (n : Int) ∧ t.lev < N ∧ t.lev ≤ 60 ∧ t.cnt ≤ 9900 ∧ SOk bs ss S F G ∧ Dnt S.ks n t) ∧ Q (.d (csD t.pat)) (stC C A bs ss S)
  | _ => False
abbrev s_Store_cells : Stmt := inClass (topS 6) 7
theorem sc_Store_cells : FnScope ["self", "square", "result"] ["self", "square"] (defScope s_Store_cells) := ⟨rfl, rfl, rfl, by decide +kernel, rfl, by decide +kernel, by decide +kernel⟩
theorem bd_Store_cells : BindsH "cells" "Store.cells" s_Store_cells ["self", "square"] := fun _ _ _ _ _ _ us hl => match us, hl with | [_, _], _ => rfl

theorem cam_cells (T : Tx K mg C) (D : Dm K C.Store "cells" "Store.cells" s_Store_cells) (N : Nat) (m_Store_collect_cells : Cam P w K mg base (N + 1) C.Store "collect_cells" ["self", "square", "row", "column", "result"] (Fr (js_collect C N))) (c_pattern : Cal P w K mg base 1 "pattern" ["cells"] js_pattern) :
    Cam P w K mg base (N + 2) C.Store "cells" ["self", "square"] (Fr (js_cells C N)) := by
  refine (D.camG (js := js_cells C N) bd_Store_cells sc_Store_cells (by unfold js_cells; walk_at "len") fun f cdv A outer s H E hr => ⟨_, (pbCons (psAsg (pjLst paNil) (pgName (i := 2) sc_Store_cells.nd)) (pbCons (psExpr (pjMt T.cl_Store m_Store_collect_cells hr (pvJ 0) (paCons (pvJ 1) (paCons pintJ (paCons pintJ (paCons (pvJ 2) paNil)))))) (pbOne (psRet (pjC c_pattern hr (paCons (pvJ 2) paNil)))))), fun ds ls R h => ?_⟩).fr
  unfold js_cells at h
  split at h
  · obtain ⟨A, bs, ss, S, F, G, n, t, ⟨rfl, rfl, rfl, hn, h60, hc, O, d⟩, h⟩ := h
    walk_at "ge"
    refine newL_l fun q => ?_
    walk_at "ge"
    refine ⟨[], _, .refl _, A, bs, ss, S, F, G, n, t, [], ⟨rfl, rfl, rfl, hn, h60, by simp; omega, O, d⟩, ?_⟩
    walk_at "ge"
    refine ⟨0, _, t.col 0 0, rfl, rfl, by rw [t.col_len]; exact hc, ?_⟩
    walk_at "ge"
    exact ⟨1, h⟩
  · exact h.elim

/-- the middle of a square -/
@[reducible] def js_middle (C : Cs) : JSp := fun ds ls Q => match ds with
  | [.a p, .d (.int n0)] => ∃ (A : SA) (bs ss : List Int) (S : SS) (F : List Tr) (G : List (Tr × Nat)) (n l : Nat) (P : Pl), (p = A.p ∧ ls = stC C A bs ss S ∧ n0 = (n : Int) ∧ SOk bs ss S F G ∧ Dnt S.ks n (bld (l + 2) P) ∧ md l P ∈ F) ∧
      ∀ (S' : SS) (m : Nat), SOk bs ss S' F G → S.le S' → Dnt S'.ks m (md l P) → Q (.d (.int (m : Nat))) (stC C A bs ss S')
  | _ => False
abbrev s_Store_middle : Stmt := inClass (topS 6) 9
theorem sc_Store_middle : FnScope ["self", "square", "a", "b", "c", "d"] ["self", "square"] (defScope s_Store_middle) := ⟨rfl, rfl, rfl, by decide +kernel, rfl, by decide +kernel, by decide +kernel⟩
theorem bd_Store_middle : BindsH "middle" "Store.middle" s_Store_middle ["self", "square"] := fun _ _ _ _ _ _ us hl => match us, hl with | [_, _], _ => rfl

theorem cam_middle (T : Tx K mg C) (D : Dm K C.Store "middle" "Store.middle" s_Store_middle) (m_Store_joined : Cam P w K mg base 1 C.Store "joined" ["self", "a", "b", "c", "d"] (Fr (js_joined C))) (m_Store_parts : Cam P w K mg base 1 C.Store "parts" ["self", "square"] (Fr (js_parts C))) :
    Cam P w K mg base 2 C.Store "middle" ["self", "square"] (Fr (js_middle C)) := by
  refine (D.cam (js := js_middle C) bd_Store_middle sc_Store_middle (by unfold js_middle; walk_at "len") fun f cdv A outer s H E hr => ⟨_, (pbCons (psAsg (pjIx (ixJ (hu1 hr)) (pjFld T.cl_Store T.n_Store_kept_parts (pvJ 0)) (pvJ 1)) (pgTup rfl (pgCons (pgName (i := 2) sc_Store_middle.nd) (pgCons (pgName (i := 3) sc_Store_middle.nd) (pgCons (pgName (i := 4) sc_Store_middle.nd) (pgCons (pgName (i := 5) sc_Store_middle.nd) pgNil)))))) (pbOne (psRet (pjMt T.cl_Store m_Store_joined hr (pvJ 0) (paCons (pjIx (ixJ (hu1 hr)) (pjMt T.cl_Store m_Store_parts hr (pvJ 0) (paCons (pvJ 2) paNil)) pintJ) (paCons (pjIx (ixJ (hu1 hr)) (pjMt T.cl_Store m_Store_parts hr (pvJ 0) (paCons (pvJ 3) paNil)) pintJ) (paCons (pjIx (ixJ (hu1 hr)) (pjMt T.cl_Store m_Store_parts hr (pvJ 0) (paCons (pvJ 4) paNil)) pintJ) (paCons (pjIx (ixJ (hu1 hr)) (pjMt T.cl_Store m_Store_parts hr (pvJ 0) (paCons (pvJ 5) paNil)) pintJ) paNil)))))))), fun ds ls R h => ?_⟩).fr
  unfold js_middle at h
  split at h
  · obtain ⟨A, bs, ss, S, F, G, n, l, P, ⟨rfl, rfl, rfl, O, d, hF⟩, h⟩ := h
    obtain ⟨i, na, nb, nc, nd, rfl, hi, da, db, dc, dd⟩ := d.parts
    walk_at "ge"
    refine ⟨_, partsD_at hi, ?_⟩
    walk_at "ge"
    refine ⟨[], _, .refl _, A, bs, ss, S, F, G, na, _, _, _, _, ⟨rfl, rfl, rfl, O, da⟩, fun a0 a1 a2 a3 _ _ _ d3 => ?_⟩
    walk_at "ge"
    refine ⟨[], _, .refl _, A, bs, ss, S, F, G, nb, _, _, _, _, ⟨rfl, rfl, rfl, O, db⟩, fun b0 b1 b2 b3 _ _ d2 _ => ?_⟩
    walk_at "ge"
    refine ⟨[], _, .refl _, A, bs, ss, S, F, G, nc, _, _, _, _, ⟨rfl, rfl, rfl, O, dc⟩, fun c0 c1 c2 c3 _ d1 _ _ => ?_⟩
    walk_at "ge"
    refine ⟨[], _, .refl _, A, bs, ss, S, F, G, nd, _, _, _, _, ⟨rfl, rfl, rfl, O, dd⟩, fun e0 e1 e2 e3 d0 _ _ _ => ?_⟩
    walk_at "ge"
    have em := md_parts l P
    refine ⟨[], _, .refl _, A, bs, ss, S, F, G, a3, b2, c1, e0, _, _, _, _, ⟨rfl, rfl, rfl, rfl, rfl, rfl, O, d3, d2, d1, d0, ?_, ?_⟩, fun S' m O' le _ _ dm => ?_⟩
    · rw [← em]; exact bld_ok _ _
    · rw [← em]; exact hF
    · walk_at "ge"
      exact h S' m O' le (by rw [em]; exact dm)
  · exact h.elim
/-- the small future -/
@[reducible] def js_small (C : Cs) : JSp := fun ds ls Q => match ds with
  | [.a p, .d (.int n0)] => ∃ (A : SA) (bs ss : List Int) (S : SS) (F : List Tr) (G : List (Tr × Nat)) (n : Nat) (P : Pl), (p = A.p ∧ ls = stC C A bs ss S ∧ n0 = (n : Int) ∧ SOk bs ss S F G ∧ Dnt S.ks n (bld 2 P) ∧ fu bs ss 0 0 P ∈ F) ∧
      ∀ (S' : SS) (m : Nat), SOk bs ss S' F G → S.le S' → Dnt S'.ks m (fu bs ss 0 0 P) → Q (.d (.int (m : Nat))) (stC C A bs ss S')
  | _ => False
abbrev s_Store_small_future : Stmt := inClass (topS 6) 10
theorem sc_Store_small_future : FnScope ["self", "square", "a", "b", "c", "d", "rows", "news", "row", "column", "count", "lives", "part", "down", "right"] ["self", "square"] (defScope s_Store_small_future) := ⟨rfl, rfl, rfl, by decide +kernel, rfl, by decide +kernel, by decide +kernel⟩
theorem bd_Store_small_future : BindsH "small_future" "Store.small_future" s_Store_small_future ["self", "square"] := fun _ _ _ _ _ _ us hl => match us, hl with | [_, _], _ => rfl

theorem cam_small (T : Tx K mg C) (D : Dm K C.Store "small_future" "Store.small_future" s_Store_small_future) (m_Store_joined : Cam P w K mg base 1 C.Store "joined" ["self", "a", "b", "c", "d"] (Fr (js_joined C))) (m_Rule_lives : Cam P w K mg base 1 C.Rule "lives" ["self", "alive", "count"] (js_lives C)) :
    Cam P w K mg base 2 C.Store "small_future" ["self", "square"] (Fr (js_small C)) := by
  refine (D.camP (js := js_small C) bd_Store_small_future sc_Store_small_future (by unfold js_small; walk_at "len") fun f cdv A outer s H E hr => ⟨_, (pbCons (psAsg (pjLC (vs := [12]) rfl sc_Store_small_future.nd (blkOk_by (N := ["self", "square", "a", "b", "c", "d", "rows", "news", "row", "column", "count", "lives", "part", "down", "right"]) (sc := defScope s_Store_small_future) (own := [("part", 12)]) (by decide +kernel)) (piTup (pjIx (ixJ (hu1 hr)) (pjFld T.cl_Store T.n_Store_kept_parts (pvJ 0)) (pvJ 1))) (pgcName 12 (by simp) fun _ _ _ _ _ => pg_name (i := 12) sc_Store_small_future.nd rfl (by first | exact .inl rfl | exact .inr rfl)) ptsN (pesU (fun _ _ _ _ _ => rfl) fun _ _ _ _ _ => (pjIx (ixJ (hu1 hr)) (pjFld T.cl_Store T.n_Store_kept_parts (pvJ 0)) (pvJ 12)))) (pgLst rfl (pgCons (pgName (i := 2) sc_Store_small_future.nd) (pgCons (pgName (i := 3) sc_Store_small_future.nd) (pgCons (pgName (i := 4) sc_Store_small_future.nd) (pgCons (pgName (i := 5) sc_Store_small_future.nd) pgNil)))))) (pbCons (psAsg (pjLst (paCons (pjOp ojAdd (pjSl (pvJ 2) poN (poS pintJ)) (pjSl (pvJ 3) poN (poS pintJ))) (paCons (pjOp ojAdd (pjSl (pvJ 2) (poS pintJ) poN) (pjSl (pvJ 3) (poS pintJ) poN)) (paCons (pjOp ojAdd (pjSl (pvJ 4) poN (poS pintJ)) (pjSl (pvJ 5) poN (poS pintJ))) (paCons (pjOp ojAdd (pjSl (pvJ 4) (poS pintJ) poN) (pjSl (pvJ 5) (poS pintJ) poN)) paNil))))) (pgName (i := 6) sc_Store_small_future.nd)) (pbCons (psAsg (pjLst paNil) (pgName (i := 7) sc_Store_small_future.nd)) (pbCons (psFr PassesOwn.never rfl (piTup (pjTup (paCons (pjTup (paCons pintJ (paCons pintJ paNil))) (paCons (pjTup (paCons pintJ (paCons pintJ paNil))) (paCons (pjTup (paCons pintJ (paCons pintJ paNil))) (paCons (pjTup (paCons pintJ (paCons pintJ paNil))) paNil)))))) (pgTup rfl (pgCons (pgName (i := 8) sc_Store_small_future.nd) (pgCons (pgName (i := 9) sc_Store_small_future.nd) pgNil))) (pbCons (psAsg (pjBi (cjSum rfl) T.b_sum (paCons (pjLC (vs := [13, 14]) rfl sc_Store_small_future.nd (blkOk_by (N := ["self", "square", "a", "b", "c", "d", "rows", "news", "row", "column", "count", "lives", "part", "down", "right"]) (sc := defScope s_Store_small_future) (own := [("down", 13), ("right", 14)]) (by decide +kernel)) (piTup (pjGk T.k_AROUND)) (pgcTup2 13 14 (by simp) (by simp) fun _ _ _ _ _ => pg_tup rfl (pgs_cons (pg_name (i := 13) sc_Store_small_future.nd rfl (by first | exact .inl rfl | exact .inr rfl)) (pgs_cons (pg_name (i := 14) sc_Store_small_future.nd rfl (by first | exact .inl rfl | exact .inr rfl)) pgs_nil))) ptsN (pesU (fun _ _ _ _ _ => rfl) fun _ _ _ _ _ => (pjIx (ixJ (hu1 hr)) (pjIx (ixJ (hu1 hr)) (pvJ 6) (pjOp ojAdd (pvJ 8) (pvJ 13))) (pjOp ojAdd (pvJ 9) (pvJ 14))))) paNil)) (pgName (i := 10) sc_Store_small_future.nd)) (pbCons (psAsg (pjMt T.cl_Rule m_Rule_lives hr (pjFld T.cl_Store T.n_Store_rule (pvJ 0)) (paCons (pjCmp (ojEq (hu64 hr)) (pjIx (ixJ (hu1 hr)) (pjIx (ixJ (hu1 hr)) (pvJ 6) (pvJ 8)) (pvJ 9)) (pjGk T.k_ALIVE) (nomark _)) (paCons (pvJ 10) paNil))) (pgName (i := 11) sc_Store_small_future.nd)) (pbOne (psExpr (pjApp (pvJ 7) (pjIf (ptV (pvJ 11)) (pjGk T.k_ALIVE) (pjGk T.k_DEAD)))))))) (pbOne (psRet (pjMt T.cl_Store m_Store_joined hr (pvJ 0) (paCons (pjIx (ixJ (hu1 hr)) (pvJ 7) pintJ) (paCons (pjIx (ixJ (hu1 hr)) (pvJ 7) pintJ) (paCons (pjIx (ixJ (hu1 hr)) (pvJ 7) pintJ) (paCons (pjIx (ixJ (hu1 hr)) (pvJ 7) pintJ) paNil))))))))))), fun ds ls R h => ?_⟩).fr
  unfold js_small at h
  split at h
  · obtain ⟨A, bs, ss, S, F, G, n, P, ⟨rfl, rfl, rfl, O, d, hF⟩, h⟩ := h
    obtain ⟨i, na, nb, nc, nd, rfl, hi, da, db, dc, dd⟩ := d.parts
    obtain ⟨ia, a0, a1, a2, a3, rfl, hia, qa0, qa1, qa2, qa3⟩ := da.parts
    obtain ⟨ib, b0, b1, b2, b3, rfl, hib, qb0, qb1, qb2, qb3⟩ := db.parts
    obtain ⟨ic, c0, c1, c2, c3, rfl, hic, qc0, qc1, qc2, qc3⟩ := dc.parts
    obtain ⟨id, e0, e1, e2, e3, rfl, hid, qe0, qe1, qe2, qe3⟩ := dd.parts
    obtain rfl := dn_lf qa0
    obtain rfl := dn_lf qa1
    obtain rfl := dn_lf qa2
    obtain rfl := dn_lf qa3
    obtain rfl := dn_lf qb0
    obtain rfl := dn_lf qb1
    obtain rfl := dn_lf qb2
    obtain rfl := dn_lf qb3
    obtain rfl := dn_lf qc0
    obtain rfl := dn_lf qc1
    obtain rfl := dn_lf qc2
    obtain rfl := dn_lf qc3
    obtain rfl := dn_lf qe0
    obtain rfl := dn_lf qe1
    obtain rfl := dn_lf qe2
    obtain rfl := dn_lf qe3
    walk_at "ge"
    refine ⟨_, partsD_at hi, ?_⟩
    walk_at "ge"
    refine compM (as := [(ia, (n01 (P 0 0), n01 (P 0 1), n01 (P 1 0), n01 (P 1 1))), (ib, (n01 (P 0 2), n01 (P 0 3), n01 (P 1 2), n01 (P 1 3))), (ic, (n01 (P 2 0), n01 (P 2 1), n01 (P 3 0), n01 (P 3 1))), (id, (n01 (P 2 2), n01 (P 2 3), n01 (P 3 2), n01 (P 3 3)))]) (src := fun e : Nat × Q4 => PyData.int ((e.1 + 2 : Nat) : Int)) (fun e => some (.d (q4D e.2))) trivial (show 4 ≤ sizeLine by decide) (fun j e acc W he hz k1 k2 => ?_) ?_
    · have k1 := k1 _ rfl
      walk_at "ge"
      have hat : atI (partsD S.ks) ((e.1 + 2 : Nat) : Int) = some (.d (q4D e.2)) := by
        match j, he with
        | 0, he => cases he; exact partsD_at hia
        | 1, he => cases he; exact partsD_at hib
        | 2, he => cases he; exact partsD_at hic
        | 3, he => cases he; exact partsD_at hid
      refine ⟨_, hat, ?_⟩
      walk_at "ge"
      exact k1
    · refine newL_d (ds := [.tuple [.int (b01 (P 0 0)), .int (b01 (P 0 1)), .int (b01 (P 1 0)), .int (b01 (P 1 1))], .tuple [.int (b01 (P 0 2)), .int (b01 (P 0 3)), .int (b01 (P 1 2)), .int (b01 (P 1 3))], .tuple [.int (b01 (P 2 0)), .int (b01 (P 2 1)), .int (b01 (P 3 0)), .int (b01 (P 3 1))], .tuple [.int (b01 (P 2 2)), .int (b01 (P 2 3)), .int (b01 (P 3 2)), .int (b01 (P 3 3))]]) (by rw [← q4D_n01, ← q4D_n01, ← q4D_n01, ← q4D_n01]; rfl) ?_
      walk_at "ge"
      refine ⟨no_lo, ?_⟩
      rw [cut4_lo]
      walk_at "ge"
      refine ⟨no_lo, ?_⟩
      rw [cut4_lo]
      walk_at "ge"
      refine ⟨⟨by simp, by simp, show 4 ≤ sizeLine by decide⟩, ?_⟩
      walk_at "ge"
      refine ⟨no_hi, ?_⟩
      rw [cut4_hi]
      walk_at "ge"
      refine ⟨no_hi, ?_⟩
      rw [cut4_hi]
      walk_at "ge"
      refine ⟨⟨by simp, by simp, show 4 ≤ sizeLine by decide⟩, ?_⟩
      walk_at "ge"
      refine ⟨no_lo, ?_⟩
      rw [cut4_lo]
      walk_at "ge"
      refine ⟨no_lo, ?_⟩
      rw [cut4_lo]
      walk_at "ge"
      refine ⟨⟨by simp, by simp, show 4 ≤ sizeLine by decide⟩, ?_⟩
      walk_at "ge"
      refine ⟨no_hi, ?_⟩
      rw [cut4_hi]
      walk_at "ge"
      refine ⟨no_hi, ?_⟩
      rw [cut4_hi]
      walk_at "ge"
      refine ⟨⟨by simp, by simp, show 4 ≤ sizeLine by decide⟩, ?_⟩
      walk_at "ge"
      refine newL_d (ds := [rowD P 0, rowD P 1, rowD P 2, rowD P 3]) rfl ?_
      walk_at "ge"
      refine newL_l fun q => ?_
      walk_at "ge"
      refine forM (as := [((1 : Int), (1 : Int)), (1, 2), (2, 1), (2, 2)]) (f := cD) (fun i δ ls' => ∃ x1 x2 x3 x4 x5 x6 x7 : Option J.D, ls' = (q, .lst ((([((1 : Int), (1 : Int)), (1, 2), (2, 1), (2, 2)].take i).map fun p => PyData.int (b01 (nxP bs ss P p.1 p.2))).map .d)) :: stC C A bs ss S ∧
        ∃ y0 y1 y2 y3 y4 : Option J.D, δ = [some (.a A.p), y0, y1, y2, y3, y4, some (.d (.list [rowD P 0, rowD P 1, rowD P 2, rowD P 3])), some (.a q), x1, x2, x3, x4, x5, x6, x7]) ⟨_, _, _, _, _, _, _, rfl, _, _, _, _, _, rfl⟩ (fun i p δ ls' hp hI => ?_) fun δ ls' hI => ?_
      · obtain ⟨x1, x2, x3, x4, x5, x6, x7, rfl, y0, y1, y2, y3, y4, rfl⟩ := hI
        have hpb : 1 ≤ p.1 ∧ p.1 ≤ 2 ∧ 1 ≤ p.2 ∧ p.2 ≤ 2 := by
          have hm := List.mem_of_getElem? hp
          simp at hm
          rcases hm with rfl | rfl | rfl | rfl <;> decide
        walk_at "ge"
        refine compF (as := offs) (src := fun o : Cell => J.D.t [.d (.int o.1), .d (.int o.2)]) (fun o => some (.d (.int (b01 (P (p.1 + o.1) (p.2 + o.2)))))) trivial (show 8 ≤ sizeLine by decide) (fun j o acc W ho hz k1 k2 => ?_) ?_
        · have k1 := k1 _ rfl
          have ob := offs_bd (List.mem_of_getElem? ho)
          walk_at "ge"
          refine ⟨_, rows_at P (by omega) (by omega), ?_⟩
          walk_at "ge"
          refine ⟨_, row_at P _ (by omega) (by omega), ?_⟩
          walk_at "ge"
          exact k1
        · rw [fm_some]
          refine newL_d (ds := (offs.map fun o => b01 (P (p.1 + o.1) (p.2 + o.2))).map .int) (by rw [List.map_map, List.map_map]; rfl) ?_
          walk_at "ge"
          rw [sum_nb]
          refine ⟨_, rows_at P (by omega) (by omega), ?_⟩
          walk_at "ge"
          refine ⟨_, row_at P _ (by omega) (by omega), ?_⟩
          walk_at "ge"
          rw [b01_one]
          refine ⟨bs, ss, ⟨rfl, rfl⟩, ?_⟩
          rw [show lv bs ss (P p.1 p.2) (nb P p.1 p.2) = nxP bs ss P p.1 p.2 from rfl]
          have e5 : ([((1 : Int), (1 : Int)), (1, 2), (2, 1), (2, 2)].take (i + 1)) = ([((1 : Int), (1 : Int)), (1, 2), (2, 1), (2, 2)].take i) ++ [p] := by rw [List.take_add_one, hp]; rfl
          rw [e5]
          have hi4 : i < 4 := (List.getElem?_eq_some_iff.mp hp).1
          have hz4 : (((([((1 : Int), (1 : Int)), (1, 2), (2, 1), (2, 2)] : List Cell).take i).map fun p => PyData.int (b01 (nxP bs ss P p.1 p.2))).map J.D.d).length < sizeLine := by
            rw [List.length_map, List.length_map, List.length_take, sizeLine_eq]; omega
          walk_at "ge"
          cases hv : nxP bs ss P p.1 p.2 with
          | true =>
            walk_at "ge"
            refine ⟨_, _, _, _, _, _, _, ?_, _, _, _, _, _, rfl⟩
            rw [List.map_append, List.map_append]
            simp only [List.map_cons, List.map_nil, hv]
            rfl
          | false =>
            walk_at "ge"
            refine ⟨_, _, _, _, _, _, _, ?_, _, _, _, _, _, rfl⟩
            rw [List.map_append, List.map_append]
            simp only [List.map_cons, List.map_nil, hv]
            rfl
      · obtain ⟨x1, x2, x3, x4, x5, x6, x7, rfl, y0, y1, y2, y3, y4, rfl⟩ := hI
        walk_at "ge"
        refine ⟨[_], _, .refl _, A, bs, ss, S, F, G, n01 (nxP bs ss P 1 1), n01 (nxP bs ss P 1 2), n01 (nxP bs ss P 2 1), n01 (nxP bs ss P 2 2), .lf _, .lf _, .lf _, .lf _, ⟨rfl, rfl, (n01_int _).symm, (n01_int _).symm, (n01_int _).symm, (n01_int _).symm, O, dn_n01 _ _, dn_n01 _ _, dn_n01 _ _, dn_n01 _ _, bld_ok 1 (sh (itP bs ss 1 P) 1 1), hF⟩, fun S' m O' le _ _ dm => ?_⟩
        walk_at "ge"
        exact ⟨_, [_], .refl _, h S' m O' le dm⟩
  · exact h.elim

/-- the nine squares in a square -/
@[reducible] def js_nine (C : Cs) : JSp := fun ds ls Q => match ds with
  | [.a p, .d (.int n0)] => ∃ (A : SA) (bs ss : List Int) (S : SS) (F : List Tr) (G : List (Tr × Nat)) (n k : Nat) (P : Pl), (p = A.p ∧ ls = stC C A bs ss S ∧ n0 = (n : Int) ∧ SOk bs ss S F G ∧ Dnt S.ks n (bld (k + 3) P) ∧ ∀ a b : Int, 0 ≤ a ∧ a ≤ 2 → 0 ≤ b ∧ b ≤ 2 → ni k P a b ∈ F) ∧
      ∀ (S' : SS) (m0 m1 m2 m3 m4 m5 m6 m7 m8 : Nat), SOk bs ss S' F G → S.le S' → Dnt S'.ks m0 (ni k P 0 0) → Dnt S'.ks m1 (ni k P 0 1) → Dnt S'.ks m2 (ni k P 0 2) → Dnt S'.ks m3 (ni k P 1 0) → Dnt S'.ks m4 (ni k P 1 1) → Dnt S'.ks m5 (ni k P 1 2) → Dnt S'.ks m6 (ni k P 2 0) → Dnt S'.ks m7 (ni k P 2 1) → Dnt S'.ks m8 (ni k P 2 2) →
        Q (.d (.list [.int (m0 : Nat), .int (m1 : Nat), .int (m2 : Nat), .int (m3 : Nat), .int (m4 : Nat), .int (m5 : Nat), .int (m6 : Nat), .int (m7 : Nat), .int (m8 : Nat)])) (stC C A bs ss S')
  | _ => False
abbrev s_Store_nine : Stmt := inClass (topS 6) 11
theorem sc_Store_nine : FnScope ["self", "square", "a", "b", "c", "d", "a0", "a1", "a2", "a3", "b0", "b1", "b2", "b3", "c0", "c1", "c2", "c3", "d0", "d1", "d2", "d3"] ["self", "square"] (defScope s_Store_nine) := ⟨rfl, rfl, rfl, by decide +kernel, rfl, by decide +kernel, by decide +kernel⟩
theorem bd_Store_nine : BindsH "nine" "Store.nine" s_Store_nine ["self", "square"] := fun _ _ _ _ _ _ us hl => match us, hl with | [_, _], _ => rfl

theorem cam_nine (T : Tx K mg C) (D : Dm K C.Store "nine" "Store.nine" s_Store_nine) (m_Store_joined : Cam P w K mg base 1 C.Store "joined" ["self", "a", "b", "c", "d"] (Fr (js_joined C))) : Cam P w K mg base 2 C.Store "nine" ["self", "square"] (Fr (js_nine C)) := by
  refine (D.cam (js := js_nine C) bd_Store_nine sc_Store_nine (by unfold js_nine; walk_at "len") fun f cdv A outer s H E hr => ⟨_, (pbCons (psMid (psAsg (pjIx (ixJ (hu1 hr)) (pjFld T.cl_Store T.n_Store_kept_parts (pvJ 0)) (pvJ 1)) (pgTup rfl (pgCons (pgName (i := 2) sc_Store_nine.nd) (pgCons (pgName (i := 3) sc_Store_nine.nd) (pgCons (pgName (i := 4) sc_Store_nine.nd) (pgCons (pgName (i := 5) sc_Store_nine.nd) pgNil))))))) (pbCons (psMid (psAsg (pjIx (ixJ (hu1 hr)) (pjFld T.cl_Store T.n_Store_kept_parts (pvJ 0)) (pvJ 2)) (pgTup rfl (pgCons (pgName (i := 6) sc_Store_nine.nd) (pgCons (pgName (i := 7) sc_Store_nine.nd) (pgCons (pgName (i := 8) sc_Store_nine.nd) (pgCons (pgName (i := 9) sc_Store_nine.nd) pgNil))))))) (pbCons (psMid (psAsg (pjIx (ixJ (hu1 hr)) (pjFld T.cl_Store T.n_Store_kept_parts (pvJ 0)) (pvJ 3)) (pgTup rfl (pgCons (pgName (i := 10) sc_Store_nine.nd) (pgCons (pgName (i := 11) sc_Store_nine.nd) (pgCons (pgName (i := 12) sc_Store_nine.nd) (pgCons (pgName (i := 13) sc_Store_nine.nd) pgNil))))))) (pbCons (psMid (psAsg (pjIx (ixJ (hu1 hr)) (pjFld T.cl_Store T.n_Store_kept_parts (pvJ 0)) (pvJ 4)) (pgTup rfl (pgCons (pgName (i := 14) sc_Store_nine.nd) (pgCons (pgName (i := 15) sc_Store_nine.nd) (pgCons (pgName (i := 16) sc_Store_nine.nd) (pgCons (pgName (i := 17) sc_Store_nine.nd) pgNil))))))) (pbCons (psMid (psAsg (pjIx (ixJ (hu1 hr)) (pjFld T.cl_Store T.n_Store_kept_parts (pvJ 0)) (pvJ 5)) (pgTup rfl (pgCons (pgName (i := 18) sc_Store_nine.nd) (pgCons (pgName (i := 19) sc_Store_nine.nd) (pgCons (pgName (i := 20) sc_Store_nine.nd) (pgCons (pgName (i := 21) sc_Store_nine.nd) pgNil))))))) (pbOne (psRet (pjLst (paCons (pvJ 2) (paCons (pjMt T.cl_Store m_Store_joined hr (pvJ 0) (paCons (pvJ 7) (paCons (pvJ 10) (paCons (pvJ 9) (paCons (pvJ 12) paNil))))) (paCons (pvJ 3) (paCons (pjMt T.cl_Store m_Store_joined hr (pvJ 0) (paCons (pvJ 8) (paCons (pvJ 9) (paCons (pvJ 14) (paCons (pvJ 15) paNil))))) (paCons (pjMt T.cl_Store m_Store_joined hr (pvJ 0) (paCons (pvJ 9) (paCons (pvJ 12) (paCons (pvJ 15) (paCons (pvJ 18) paNil))))) (paCons (pjMt T.cl_Store m_Store_joined hr (pvJ 0) (paCons (pvJ 12) (paCons (pvJ 13) (paCons (pvJ 18) (paCons (pvJ 19) paNil))))) (paCons (pvJ 4) (paCons (pjMt T.cl_Store m_Store_joined hr (pvJ 0) (paCons (pvJ 15) (paCons (pvJ 18) (paCons (pvJ 17) (paCons (pvJ 20) paNil))))) (paCons (pvJ 5) paNil))))))))))))))))), fun ds ls R h => ?_⟩).fr
  unfold js_nine at h
  split at h
  · obtain ⟨A, bs, ss, S, F, G, n, k, P, ⟨rfl, rfl, rfl, O, d, hF⟩, h⟩ := h
    rw [top_parts, ni_parts, ni_parts, ni_parts, ni_parts] at d
    obtain ⟨i, na, nb, nc, nd, rfl, hi, da, db, dc, dd⟩ := d.parts
    obtain ⟨ia, a0, a1, a2, a3, rfl, hia, qa0, qa1, qa2, qa3⟩ := da.parts
    obtain ⟨ib, b0, b1, b2, b3, rfl, hib, qb0, qb1, qb2, qb3⟩ := db.parts
    obtain ⟨ic, c0, c1, c2, c3, rfl, hic, qc0, qc1, qc2, qc3⟩ := dc.parts
    obtain ⟨id, e0, e1, e2, e3, rfl, hid, qe0, qe1, qe2, qe3⟩ := dd.parts
    have nok : ∀ a b : Int, (Tr.nd (pt k P a b) (pt k P a (b + 1)) (pt k P (a + 1) b) (pt k P (a + 1) (b + 1))).ok := fun a b => by rw [← ni_parts]; exact bld_ok _ _
    have nin : ∀ a b : Int, 0 ≤ a ∧ a ≤ 2 → 0 ≤ b ∧ b ≤ 2 → Tr.nd (pt k P a b) (pt k P a (b + 1)) (pt k P (a + 1) b) (pt k P (a + 1) (b + 1)) ∈ F := fun a b ha hb => by rw [← ni_parts]; exact hF a b ha hb
    refine ⟨fun δ ls' => ls' = stC C A bs ss S ∧ δ = [some (.a A.p), some (.d (.int ((i + 2 : Nat) : Int))), some (.d (.int ((ia + 2 : Nat) : Int))), some (.d (.int ((ib + 2 : Nat) : Int))), some (.d (.int ((ic + 2 : Nat) : Int))), some (.d (.int ((id + 2 : Nat) : Int))), none, none, none, none, none, none, none, none, none, none, none, none, none, none, none, none], ?_, fun δ ls' hI => ?_⟩
    · walk_at "ge"
      refine ⟨_, partsD_at hi, ?_⟩
      walk_at "ge"
    obtain ⟨rfl, rfl⟩ := hI
    refine ⟨fun δ ls' => ls' = stC C A bs ss S ∧ δ = [some (.a A.p), some (.d (.int ((i + 2 : Nat) : Int))), some (.d (.int ((ia + 2 : Nat) : Int))), some (.d (.int ((ib + 2 : Nat) : Int))), some (.d (.int ((ic + 2 : Nat) : Int))), some (.d (.int ((id + 2 : Nat) : Int))), some (.d (.int ((a0 : Nat) : Int))), some (.d (.int ((a1 : Nat) : Int))), some (.d (.int ((a2 : Nat) : Int))), some (.d (.int ((a3 : Nat) : Int))), none, none, none, none, none, none, none, none, none, none, none, none], ?_, fun δ ls' hI => ?_⟩
    · walk_at "ge"
      refine ⟨_, partsD_at hia, ?_⟩
      walk_at "ge"
    obtain ⟨rfl, rfl⟩ := hI
    refine ⟨fun δ ls' => ls' = stC C A bs ss S ∧ δ = [some (.a A.p), some (.d (.int ((i + 2 : Nat) : Int))), some (.d (.int ((ia + 2 : Nat) : Int))), some (.d (.int ((ib + 2 : Nat) : Int))), some (.d (.int ((ic + 2 : Nat) : Int))), some (.d (.int ((id + 2 : Nat) : Int))), some (.d (.int ((a0 : Nat) : Int))), some (.d (.int ((a1 : Nat) : Int))), some (.d (.int ((a2 : Nat) : Int))), some (.d (.int ((a3 : Nat) : Int))), some (.d (.int ((b0 : Nat) : Int))), some (.d (.int ((b1 : Nat) : Int))), some (.d (.int ((b2 : Nat) : Int))), some (.d (.int ((b3 : Nat) : Int))), none, none, none, none, none, none, none, none], ?_, fun δ ls' hI => ?_⟩
    · walk_at "ge"
      refine ⟨_, partsD_at hib, ?_⟩
      walk_at "ge"
    obtain ⟨rfl, rfl⟩ := hI
    refine ⟨fun δ ls' => ls' = stC C A bs ss S ∧ δ = [some (.a A.p), some (.d (.int ((i + 2 : Nat) : Int))), some (.d (.int ((ia + 2 : Nat) : Int))), some (.d (.int ((ib + 2 : Nat) : Int))), some (.d (.int ((ic + 2 : Nat) : Int))), some (.d (.int ((id + 2 : Nat) : Int))), some (.d (.int ((a0 : Nat) : Int))), some (.d (.int ((a1 : Nat) : Int))), some (.d (.int ((a2 : Nat) : Int))), some (.d (.int ((a3 : Nat) : Int))), some (.d (.int ((b0 : Nat) : Int))), some (.d (.int ((b1 : Nat) : Int))), some (.d (.int ((b2 : Nat) : Int))), some (.d (.int ((b3 : Nat) : Int))), some (.d (.int ((c0 : Nat) : Int))), some (.d (.int ((c1 : Nat) : Int))), some (.d (.int ((c2 : Nat) : Int))), some (.d (.int ((c3 : Nat) : Int))), none, none, none, none], ?_, fun δ ls' hI => ?_⟩
    · walk_at "ge"
      refine ⟨_, partsD_at hic, ?_⟩
      walk_at "ge"
    obtain ⟨rfl, rfl⟩ := hI
    refine ⟨fun δ ls' => ls' = stC C A bs ss S ∧ δ = [some (.a A.p), some (.d (.int ((i + 2 : Nat) : Int))), some (.d (.int ((ia + 2 : Nat) : Int))), some (.d (.int ((ib + 2 : Nat) : Int))), some (.d (.int ((ic + 2 : Nat) : Int))), some (.d (.int ((id + 2 : Nat) : Int))), some (.d (.int ((a0 : Nat) : Int))), some (.d (.int ((a1 : Nat) : Int))), some (.d (.int ((a2 : Nat) : Int))), some (.d (.int ((a3 : Nat) : Int))), some (.d (.int ((b0 : Nat) : Int))), some (.d (.int ((b1 : Nat) : Int))), some (.d (.int ((b2 : Nat) : Int))), some (.d (.int ((b3 : Nat) : Int))), some (.d (.int ((c0 : Nat) : Int))), some (.d (.int ((c1 : Nat) : Int))), some (.d (.int ((c2 : Nat) : Int))), some (.d (.int ((c3 : Nat) : Int))), some (.d (.int ((e0 : Nat) : Int))), some (.d (.int ((e1 : Nat) : Int))), some (.d (.int ((e2 : Nat) : Int))), some (.d (.int ((e3 : Nat) : Int)))], ?_, fun δ ls' hI => ?_⟩
    · walk_at "ge"
      refine ⟨_, partsD_at hid, ?_⟩
      walk_at "ge"
    obtain ⟨rfl, rfl⟩ := hI
    walk_at "ge"
    refine ⟨[], _, .refl _, A, bs, ss, S, F, G, a1, b0, a3, b2, _, _, _, _, ⟨rfl, rfl, rfl, rfl, rfl, rfl, O, qa1, qb0, qa3, qb2, nok 0 1, nin 0 1 (by decide) (by decide)⟩, fun S1 m1 O1 le1 _ _ g1 => ?_⟩
    walk_at "ge"
    refine ⟨[], _, .refl _, A, bs, ss, S1, F, G, a2, a3, c0, c1, _, _, _, _, ⟨rfl, rfl, rfl, rfl, rfl, rfl, O1, qa2.le le1, qa3.le le1, qc0.le le1, qc1.le le1, nok 1 0, nin 1 0 (by decide) (by decide)⟩, fun S2 m3 O2 le2 _ _ g3 => ?_⟩
    have l2 := le1.trans le2
    walk_at "ge"
    refine ⟨[], _, .refl _, A, bs, ss, S2, F, G, a3, b2, c1, e0, _, _, _, _, ⟨rfl, rfl, rfl, rfl, rfl, rfl, O2, qa3.le l2, qb2.le l2, qc1.le l2, qe0.le l2, nok 1 1, nin 1 1 (by decide) (by decide)⟩, fun S3 m4 O3 le3 _ _ g4 => ?_⟩
    have l3 := l2.trans le3
    walk_at "ge"
    refine ⟨[], _, .refl _, A, bs, ss, S3, F, G, b2, b3, e0, e1, _, _, _, _, ⟨rfl, rfl, rfl, rfl, rfl, rfl, O3, qb2.le l3, qb3.le l3, qe0.le l3, qe1.le l3, nok 1 2, nin 1 2 (by decide) (by decide)⟩, fun S4 m5 O4 le4 _ _ g5 => ?_⟩
    have l4 := l3.trans le4
    walk_at "ge"
    refine ⟨[], _, .refl _, A, bs, ss, S4, F, G, c1, e0, c3, e2, _, _, _, _, ⟨rfl, rfl, rfl, rfl, rfl, rfl, O4, qc1.le l4, qe0.le l4, qc3.le l4, qe2.le l4, nok 2 1, nin 2 1 (by decide) (by decide)⟩, fun S5 m7 O5 le5 _ _ g7 => ?_⟩
    have l5 := l4.trans le5
    have l35 := le4.trans le5
    have l25 := le3.trans l35
    walk_at "ge"
    refine newL_e rfl ?_
    walk_at "ge"
    refine h S5 (ia + 2) m1 (ib + 2) m3 m4 m5 (ic + 2) m7 (id + 2) O5 l5 ?_ ?_ ?_ ?_ ?_ ?_ ?_ ?_ ?_
    · rw [ni_parts]; exact da.le l5
    · rw [ni_parts]; exact g1.le (le2.trans l25)
    · rw [ni_parts]; exact db.le l5
    · rw [ni_parts]; exact g3.le l25
    · rw [ni_parts]; exact g4.le l35
    · rw [ni_parts]; exact g5.le le5
    · rw [ni_parts]; exact dc.le l5
    · rw [ni_parts]; exact g7
    · rw [ni_parts]; exact dd.le l5
  · exact h.elim

/-- futures of squares of a level below N + 2 -/
@[reducible] def js_future (C : Cs) (N : Nat) : JSp := fun ds ls Q => match ds with
  | [.a p, .d (.int n0), .d (.int j0)] => ∃ (A : SA) (bs ss : List Int) (S : SS) (F : List Tr) (G : List (Tr × Nat)) (n k j : Nat) (P : Pl),
      (p = A.p ∧ ls = stC C A bs ss S ∧ n0 = (n : Int) ∧ j0 = (j : Int) ∧ k < N ∧ j ≤ k ∧ SOk bs ss S F G ∧ Dnt S.ks n (bld (k + 2) P) ∧ (∀ u ∈ lF bs ss k j P, u ∈ F) ∧ ∀ e ∈ lG bs ss k j P, e ∈ G) ∧
      ∀ (S' : SS) (m : Nat), SOk bs ss S' F G → S.le S' → Dnt S'.ks m (fu bs ss k j P) → Q (.d (.int (m : Nat))) (stC C A bs ss S')
  | _ => False
abbrev s_Store_future : Stmt := inClass (topS 6) 12
theorem sc_Store_future : FnScope ["self", "square", "j", "key"] ["self", "square", "j"] (defScope s_Store_future) := ⟨rfl, rfl, rfl, by decide +kernel, rfl, by decide +kernel, by decide +kernel⟩
theorem bd_Store_future : BindsH "future" "Store.future" s_Store_future ["self", "square", "j"] := fun _ _ _ _ _ _ us hl => match us, hl with | [_, _, _], _ => rfl

theorem cam_future_step (T : Tx K mg C) (D : Dm K C.Store "future" "Store.future" s_Store_future) (N : Nat) (m_Store_new_future : Cam P w K mg base (2 * N + 3) C.Store "new_future" ["self", "square", "j"] (Fr (js_future C N))) :
    Cam P w K mg base (2 * N + 4) C.Store "future" ["self", "square", "j"] (Fr (js_future C N)) := by
  refine (D.cam (js := js_future C N) bd_Store_future sc_Store_future (by unfold js_future; walk_at "len") fun f cdv A outer s H E hr => ⟨_, (pbCons (psAsg (pjTup (paCons (pvJ 1) (paCons (pvJ 2) paNil))) (pgName (i := 3) sc_Store_future.nd)) (pbCons (psIf (ptCmp (ojNotIn (hu65 hr)) (pvJ 3) (pjFld T.cl_Store T.n_Store_futures (pvJ 0)) (by rfl)) (pbOne (psAsg (pjMt T.cl_Store m_Store_new_future hr (pvJ 0) (paCons (pvJ 1) (paCons (pvJ 2) paNil))) (pgSb hr (pjFld T.cl_Store T.n_Store_futures (pvJ 0)) (pvJ 3)))) pbNil) (pbOne (psRet (pjIx (ixJ (hu1 hr)) (pjFld T.cl_Store T.n_Store_futures (pvJ 0)) (pvJ 3)))))), fun ds ls R h => ?_⟩).fr
  unfold js_future at h
  split at h
  · obtain ⟨A, bs, ss, S, F, G, n, k, j, P, ⟨rfl, rfl, rfl, rfl, hk, hj, O, d, hF, hG⟩, h⟩ := h
    have kd : keysD [.int (n : Int), .int (j : Int)] = some (fK (n, j)) := rfl
    walk_at "ge"
    rcases ftD_get (n, j) S.ft with ⟨g1, g2⟩ | ⟨m, g1, g2⟩
    · refine ⟨false, ⟨5, _, rfl, _, kd, by rw [g2]; rfl⟩, ?_⟩
      walk_at "ge"
      refine ⟨[], _, .refl _, A, bs, ss, S, F, G, n, k, j, P, ⟨rfl, rfl, rfl, rfl, hk, hj, O, d, hF, hG⟩, fun S2 m O2 le2 d2 => ?_⟩
      walk_at "ge"
      have hfl := O2.ftlen
      have hbg := O2.bigG
      refine ⟨by unfold ftD; rw [List.length_map, sizeLine_eq]; omega, ?_⟩
      walk_at "ge"
      obtain ⟨S3, O3, e1, e2, e3, e4, e5, e6⟩ := O2.setF (d.le le2) hj d2 (lG_top hG)
      have e5' : gP (ftD S2.ft) [Sum.inl (n : Int), Sum.inl (j : Int)] (.d (.int (m : Nat))) = ftD S3.ft := e5
      rw [e5']
      refine ⟨_, _, kd, e6, ?_⟩
      walk_at "ge"
      have fin := h S3 m O3 (le2.trans ⟨[], by rw [e1, List.append_nil]⟩) (by rw [e1]; exact d2)
      unfold stC stL at fin
      rw [e1, e2, e3, e4] at fin
      exact fin
    · refine ⟨true, ⟨5, _, rfl, _, kd, by rw [g2]; rfl⟩, ?_⟩
      walk_at "ge"
      refine ⟨_, _, kd, g2, ?_⟩
      walk_at "ge"
      exact h S m O S.le_refl (O.hasF g1 d)
  · exact h.elim
abbrev s_Store_new_future : Stmt := inClass (topS 6) 13
theorem sc_Store_new_future : FnScope ["self", "square", "j", "level", "inner", "last", "news", "at", "whole", "one"] ["self", "square", "j"] (defScope s_Store_new_future) := ⟨rfl, rfl, rfl, by decide +kernel, rfl, by decide +kernel, by decide +kernel⟩
theorem bd_Store_new_future : BindsH "new_future" "Store.new_future" s_Store_new_future ["self", "square", "j"] := fun _ _ _ _ _ _ us hl => match us, hl with | [_, _, _], _ => rfl

theorem cam_newf_zero (D : Dm K C.Store "new_future" "Store.new_future" s_Store_new_future) : Cam P w K mg base (2 * 0 + 3) C.Store "new_future" ["self", "square", "j"] (Fr (js_future C 0)) :=
  (D.cam (js := js_future C 0) (k := 2) bd_Store_new_future sc_Store_new_future (by unfold js_future; walk_at "len") fun f cdv A outer s H E hr => ⟨_, pbNever, fun ds ls R h => by
      unfold js_future at h
      split at h
      · obtain ⟨_, _, _, _, _, _, n, k, _, _, ⟨_, _, _, _, hn, _⟩, _⟩ := h
        omega
      · exact h.elim⟩).fr
theorem cam_newf_step (T : Tx K mg C) (D : Dm K C.Store "new_future" "Store.new_future" s_Store_new_future) (N : Nat) (m_Store_small_future : Cam P w K mg base 2 C.Store "small_future" ["self", "square"] (Fr (js_small C))) (m_Store_nine : Cam P w K mg base 2 C.Store "nine" ["self", "square"] (Fr (js_nine C)))
    (m_Store_middle : Cam P w K mg base 2 C.Store "middle" ["self", "square"] (Fr (js_middle C))) (m_Store_joined : Cam P w K mg base 1 C.Store "joined" ["self", "a", "b", "c", "d"] (Fr (js_joined C))) (m_Store_future : Cam P w K mg base (2 * N + 4) C.Store "future" ["self", "square", "j"] (Fr (js_future C N))) :
    Cam P w K mg base (2 * (N + 1) + 3) C.Store "new_future" ["self", "square", "j"] (Fr (js_future C (N + 1))) := by
  refine (D.camP (js := js_future C (N + 1)) (k := 2 * N + 4) bd_Store_new_future sc_Store_new_future (by unfold js_future; walk_at "len") fun f cdv A outer s H E hr => ⟨_, (pbCons (psAsg (pjIx (ixJ (hu1 hr)) (pjFld T.cl_Store T.n_Store_levels (pvJ 0)) (pvJ 1)) (pgName (i := 3) sc_Store_new_future.nd)) (pbCons (psIf (ptCmp (ojEq (hu64 hr)) (pvJ 3) pintJ (nomark _)) (pbOne (psRet (pjMt T.cl_Store m_Store_small_future hr (pvJ 0) (paCons (pvJ 1) paNil)))) pbNil) (pbCons (psAsg (pjMt T.cl_Store m_Store_nine hr (pvJ 0) (paCons (pvJ 1) paNil)) (pgName (i := 4) sc_Store_new_future.nd)) (pbCons (psMid (psIf (ptCmp (ojEq (hu64 hr)) (pvJ 2) (pjOp ojSub (pvJ 3) pintJ) (nomark _)) (pbCons (psSLC (vs := [9]) (i := 4) rfl sc_Store_new_future.nd (blkOk_by (N := ["self", "square", "j", "level", "inner", "last", "news", "at", "whole", "one"]) (sc := defScope s_Store_new_future) (own := [("one", 9)]) (by decide +kernel)) (piList (pvJ 4)) (pgcName 9 (by simp) fun _ _ _ _ _ => pg_name (i := 9) sc_Store_new_future.nd rfl (by first | exact .inl rfl | exact .inr rfl)) ptsN (pesU (fun _ _ _ _ _ => rfl) fun _ _ _ _ _ => (pjMt T.cl_Store m_Store_future hr (pvJ 0) (paCons (pvJ 9) (paCons (pjOp ojSub (pvJ 2) pintJ) paNil))))) (pbOne (psAsg (pjOp ojSub (pvJ 2) pintJ) (pgName (i := 5) sc_Store_new_future.nd)))) (pbCons (psSLC (vs := [9]) (i := 4) rfl sc_Store_new_future.nd (blkOk_by (N := ["self", "square", "j", "level", "inner", "last", "news", "at", "whole", "one"]) (sc := defScope s_Store_new_future) (own := [("one", 9)]) (by decide +kernel)) (piList (pvJ 4)) (pgcName 9 (by simp) fun _ _ _ _ _ => pg_name (i := 9) sc_Store_new_future.nd rfl (by first | exact .inl rfl | exact .inr rfl)) ptsN (pesU (fun _ _ _ _ _ => rfl) fun _ _ _ _ _ => (pjMt T.cl_Store m_Store_middle hr (pvJ 0) (paCons (pvJ 9) paNil)))) (pbOne (psAsg (pvJ 2) (pgName (i := 5) sc_Store_new_future.nd)))))) (pbCons (psAsg (pjLst paNil) (pgName (i := 6) sc_Store_new_future.nd)) (pbCons (psFr PassesOwn.never rfl (piTup (pjTup (paCons pintJ (paCons pintJ (paCons pintJ (paCons pintJ paNil)))))) (pgName (i := 7) sc_Store_new_future.nd) (pbCons (psAsg (pjMt T.cl_Store m_Store_joined hr (pvJ 0) (paCons (pjIx (ixJ (hu1 hr)) (pvJ 4) (pvJ 7)) (paCons (pjIx (ixJ (hu1 hr)) (pvJ 4) (pjOp ojAdd (pvJ 7) pintJ)) (paCons (pjIx (ixJ (hu1 hr)) (pvJ 4) (pjOp ojAdd (pvJ 7) pintJ)) (paCons (pjIx (ixJ (hu1 hr)) (pvJ 4) (pjOp ojAdd (pvJ 7) pintJ)) paNil))))) (pgName (i := 8) sc_Store_new_future.nd)) (pbOne (psExpr (pjApp (pvJ 6) (pjMt T.cl_Store m_Store_future hr (pvJ 0) (paCons (pvJ 8) (paCons (pvJ 5) paNil)))))))) (pbOne (psRet (pjMt T.cl_Store m_Store_joined hr (pvJ 0) (paCons (pjIx (ixJ (hu1 hr)) (pvJ 6) pintJ) (paCons (pjIx (ixJ (hu1 hr)) (pvJ 6) pintJ) (paCons (pjIx (ixJ (hu1 hr)) (pvJ 6) pintJ) (paCons (pjIx (ixJ (hu1 hr)) (pvJ 6) pintJ) paNil))))))))))))), fun ds ls R h => ?_⟩).fr
  unfold js_future at h
  split at h
  · obtain ⟨A, bs, ss, S, F, G, n, k, j, P, ⟨rfl, rfl, rfl, rfl, hk, hj, O, d, hF, hG⟩, h⟩ := h
    walk_at "ge"
    refine ⟨_, natsD_at (O.at d).2.2.1, ?_⟩
    rw [bld_lev]
    walk_at "ge"
    refine ifD (fun e => ?_) fun e => ?_
    · obtain rfl : k = 0 := by omega
      obtain rfl : j = 0 := by omega
      walk_at "ge"
      refine ⟨[], _, .refl _, A, bs, ss, S, F, G, n, P, ⟨rfl, rfl, rfl, O, d, lF_top hF⟩, fun S2 m O2 le2 d2 => ?_⟩
      walk_at "ge"
      exact ⟨_, [], .refl _, h S2 m O2 le2 d2⟩
    obtain ⟨k, rfl⟩ : ∃ i, k = i + 1 := ⟨k - 1, by omega⟩
    walk_at "ge"
    refine ⟨[], _, .refl _, A, bs, ss, S, F, G, n, k, P, ⟨rfl, rfl, rfl, O, d, fun a b ha hb => lF_nine hF ha hb⟩, fun S1 m0 m1 m2 m3 m4 m5 m6 m7 m8 O1 le1 d0 d1 d2 d3 d4 d5 d6 d7 d8 => ?_⟩
    have ms : ∀ (t m : Nat), [m0, m1, m2, m3, m4, m5, m6, m7, m8][t]? = some m → Dnt S1.ks m (ni k P (i9 t) (j9 t)) := fun t m ht => by
      match t, ht with
      | 0, ht => cases ht; exact d0
      | 1, ht => cases ht; exact d1
      | 2, ht => cases ht; exact d2
      | 3, ht => cases ht; exact d3
      | 4, ht => cases ht; exact d4
      | 5, ht => cases ht; exact d5
      | 6, ht => cases ht; exact d6
      | 7, ht => cases ht; exact d7
      | 8, ht => cases ht; exact d8
    walk_at "ge"
    refine ⟨fun δ ls' => ∃ (S2 : SS) (j' : Nat) (R : Pl) (rs : List Nat), SOk bs ss S2 F G ∧ S.le S2 ∧ ls' = stC C A bs ss S2 ∧ j' ≤ k ∧ WhOk bs ss k j' R F G ∧ Nin S2.ks k R rs ∧ rs.length = 9 ∧
      fu bs ss (k + 1) j P = .nd (fu bs ss k j' (whl k R 0 0)) (fu bs ss k j' (whl k R 0 1)) (fu bs ss k j' (whl k R 1 0)) (fu bs ss k j' (whl k R 1 1)) ∧
      δ = [some (.a A.p), some (.d (.int (n : Nat))), some (.d (.int (j : Nat))), some (.d (.int ((k + 1 + 2 : Nat) : Int))), some (.d (.list (rs.map fun r : Nat => PyData.int (r : Nat)))), some (.d (.int (j' : Nat))), none, none, none, none], ?_, fun δ ls2 hI => ?_⟩
    · walk_at "ge"
      refine ifD (fun ej => ?_) fun ej => ?_
      · obtain rfl : j = k + 1 := by omega
        obtain ⟨wh, nn⟩ := lF_fast hF hG
        walk_at "ge"
        refine compFI (as := [m0, m1, m2, m3, m4, m5, m6, m7, m8]) (src := fun m : Nat => .d (.int (m : Nat))) (fun i acc ls' => ∃ (S2 : SS) (rs : List Nat), SOk bs ss S2 F G ∧ S1.le S2 ∧ ls' = stC C A bs ss S2 ∧ acc = (rs.map fun r : Nat => PyData.int (r : Nat)).map .d ∧ rs.length = i ∧ Nin S2.ks k (itP bs ss (2 ^ k) P) rs)
          ⟨S1, [], O1, S1.le_refl, rfl, rfl, rfl, ⟨fun t r h => by simp at h⟩⟩ (fun i m acc ls' hm hI => ?_) fun acc ls' hI => ?_
        · obtain ⟨S2, rs, O2, le2, rfl, rfl, hl, hr⟩ := hI
          have hi : i < 9 := (List.getElem?_eq_some_iff.mp hm).1
          have nb := nn (i9 i) (j9 i) (i9_bd hi) (j9_bd i)
          refine ⟨trivial, ?_⟩
          walk_at "ge"
          refine ⟨[], _, .refl _, A, bs, ss, S2, F, G, m, k, k, sh P (i9 i * 2 ^ (k + 1)) (j9 i * 2 ^ (k + 1)), ⟨rfl, rfl, rfl, by omega, by omega, Nat.le_refl _, O2, (ms i m hm).le le2, nb.1, nb.2⟩, fun S3 r O3 le3 d3 => ?_⟩
          rw [fu_inn] at d3
          refine ⟨by rw [List.length_map, List.length_map, hl, sizeLine_eq]; omega, S3, rs ++ [r], O3, le2.trans le3, rfl, by simp, by simp [hl], hr.more (ks := S2.ks) le3 (by rw [hl]; exact d3)⟩
        · obtain ⟨S2, rs, O2, le2, rfl, rfl, hl, hr⟩ := hI
          refine ⟨trivial, newL_d rfl ?_⟩
          walk_at "ge"
          refine ⟨S2, k, itP bs ss (2 ^ k) P, rs, O2, le1.trans le2, rfl, Nat.le_refl _, wh, hr, hl, fu_fast k P, ?_⟩
          rw [show (fun (i j : Int) => PyData.int (i - j)) ((k + 1 : Nat) : Int) 1 = .int (k : Int) from by dsimp only; congr 1; omega]
      · have hj2 : ¬ j = k + 1 := by omega
        obtain ⟨wh, nn⟩ := lF_slow hj2 hF hG
        walk_at "ge"
        refine compFI (as := [m0, m1, m2, m3, m4, m5, m6, m7, m8]) (src := fun m : Nat => .d (.int (m : Nat))) (fun i acc ls' => ∃ (S2 : SS) (rs : List Nat), SOk bs ss S2 F G ∧ S1.le S2 ∧ ls' = stC C A bs ss S2 ∧ acc = (rs.map fun r : Nat => PyData.int (r : Nat)).map .d ∧ rs.length = i ∧ Nin S2.ks k P rs)
          ⟨S1, [], O1, S1.le_refl, rfl, rfl, rfl, ⟨fun t r h => by simp at h⟩⟩ (fun i m acc ls' hm hI => ?_) fun acc ls' hI => ?_
        · obtain ⟨S2, rs, O2, le2, rfl, rfl, hl, hr⟩ := hI
          have hi : i < 9 := (List.getElem?_eq_some_iff.mp hm).1
          have nb := nn (i9 i) (j9 i) (i9_bd hi) (j9_bd i)
          rw [← md_inn] at nb
          refine ⟨trivial, ?_⟩
          walk_at "ge"
          refine ⟨[], _, .refl _, A, bs, ss, S2, F, G, m, k, sh P (i9 i * 2 ^ (k + 1)) (j9 i * 2 ^ (k + 1)), ⟨rfl, rfl, rfl, O2, (ms i m hm).le le2, nb⟩, fun S3 r O3 le3 d3 => ?_⟩
          rw [md_inn] at d3
          refine ⟨by rw [List.length_map, List.length_map, hl, sizeLine_eq]; omega, S3, rs ++ [r], O3, le2.trans le3, rfl, by simp, by simp [hl], hr.more (ks := S2.ks) le3 (by rw [hl]; exact d3)⟩
        · obtain ⟨S2, rs, O2, le2, rfl, rfl, hl, hr⟩ := hI
          refine ⟨trivial, newL_d rfl ?_⟩
          walk_at "ge"
          exact ⟨S2, j, P, rs, O2, le1.trans le2, rfl, by omega, wh, hr, hl, fu_slow k j P, rfl⟩
    · obtain ⟨S2, j', R', rs, O2, le2, rfl, hj', wh, hr, hl, efu, rfl⟩ := hI
      walk_at "ge"
      refine newL_l fun q => ?_
      walk_at "ge"
      refine forM (as := [(0 : Nat), 1, 3, 4]) (f := fun t : Nat => PyData.int (t : Nat)) (fun i δ ls' => ∃ (S3 : SS) (ns : List Nat) (x y : Option J.D), SOk bs ss S3 F G ∧ S2.le S3 ∧ ls' = (q, .lst ((ns.map fun r : Nat => PyData.int (r : Nat)).map .d)) :: stC C A bs ss S3 ∧ ns.length = i ∧
        (∀ (t r a : Nat), ns[t]? = some r → [(0 : Nat), 1, 3, 4][t]? = some a → Dnt S3.ks r (fu bs ss k j' (whl k R' (i9 a) (j9 a)))) ∧
        δ = [some (.a A.p), some (.d (.int (n : Nat))), some (.d (.int (j : Nat))), some (.d (.int ((k + 1 + 2 : Nat) : Int))), some (.d (.list (rs.map fun r : Nat => PyData.int (r : Nat)))), some (.d (.int (j' : Nat))), some (.a q), x, y, none]) ⟨S2, [], _, _, O2, S2.le_refl, rfl, rfl, fun t r a h => by simp at h, rfl⟩ (fun i a δ ls' ha hI => ?_) fun δ ls' hI => ?_
      · obtain ⟨S3, ns, x, y, O3, le3, rfl, hnl, hns, rfl⟩ := hI
        have ha4 : a = 0 ∨ a = 1 ∨ a = 3 ∨ a = 4 := by
          have := List.mem_of_getElem? ha
          simpa using this
        have hi : i < 4 := (List.getElem?_eq_some_iff.mp ha).1
        obtain ⟨r0, g0⟩ : ∃ r, rs[a]? = some r := ⟨_, List.getElem?_eq_getElem (by omega)⟩
        obtain ⟨r1, g1⟩ : ∃ r, rs[a + 1]? = some r := ⟨_, List.getElem?_eq_getElem (by omega)⟩
        obtain ⟨r3, g3⟩ : ∃ r, rs[a + 3]? = some r := ⟨_, List.getElem?_eq_getElem (by omega)⟩
        obtain ⟨r4, g4⟩ : ∃ r, rs[a + 4]? = some r := ⟨_, List.getElem?_eq_getElem (by omega)⟩
        have q0 := hr.at_ _ _ g0
        have q1 := hr.at_ _ _ g1
        have q3 := hr.at_ _ _ g3
        have q4 := hr.at_ _ _ g4
        have b1 : i9 (a + 1) = i9 a ∧ j9 (a + 1) = j9 a + 1 ∧ i9 (a + 3) = i9 a + 1 ∧ j9 (a + 3) = j9 a ∧ i9 (a + 4) = i9 a + 1 ∧ j9 (a + 4) = j9 a + 1 ∧ 0 ≤ i9 a ∧ i9 a ≤ 1 ∧ 0 ≤ j9 a ∧ j9 a ≤ 1 := by
          rcases ha4 with rfl | rfl | rfl | rfl <;> decide
        rw [b1.1, b1.2.1] at q1
        rw [b1.2.2.1, b1.2.2.2.1] at q3
        rw [b1.2.2.2.2.1, b1.2.2.2.2.2.1] at q4
        obtain ⟨_, _, _, _, _, _, c1, c2, c3, c4⟩ := b1
        walk_at "ge"
        refine ⟨_, at_off g0 rfl, ?_⟩
        walk_at "ge"
        refine ⟨_, at_off g1 (by push_cast; rfl), ?_⟩
        walk_at "ge"
        refine ⟨_, at_off g3 (by push_cast; rfl), ?_⟩
        walk_at "ge"
        refine ⟨_, at_off g4 (by push_cast; rfl), ?_⟩
        walk_at "ge"
        refine ⟨[_], _, .refl _, A, bs, ss, S3, F, G, r0, r1, r3, r4, _, _, _, _, ⟨rfl, rfl, rfl, rfl, rfl, rfl, O3, q0.le le3, q1.le le3, q3.le le3, q4.le le3, by rw [← whl_parts]; exact bld_ok _ _, by rw [← whl_parts]; exact wh.w _ _ ⟨c1, c2⟩ ⟨c3, c4⟩⟩, fun S4 w0 O4 le4 _ _ d4 => ?_⟩
        rw [← whl_parts] at d4
        walk_at "ge"
        refine ⟨[_], _, .refl _, A, bs, ss, S4, F, G, w0, k, j', whl k R' (i9 a) (j9 a), ⟨rfl, rfl, rfl, rfl, by omega, hj', O4, d4, wh.f _ _ ⟨c1, c2⟩ ⟨c3, c4⟩, wh.g _ _ ⟨c1, c2⟩ ⟨c3, c4⟩⟩, fun S5 r O5 le5 d5 => ?_⟩
        walk_at "ge"
        refine ⟨S5, ns ++ [r], _, _, O5, (le3.trans le4).trans le5, by rw [List.map_append, List.map_append]; rfl, by simp [hnl], fun t r' a' ht ha' => ?_, rfl⟩
        by_cases hlt : t < ns.length
        · rw [List.getElem?_append_left hlt] at ht
          exact (hns t r' a' ht ha').le (le4.trans le5)
        · have e2 : t = ns.length := by
            have := (List.getElem?_eq_some_iff.mp ht).1
            simp at this; omega
          subst e2
          simp at ht
          subst ht
          rw [hnl, ha] at ha'
          cases ha'
          exact d5
      · obtain ⟨S3, ns, x, y, O3, le3, rfl, hnl, hns, rfl⟩ := hI
        match ns, hnl with
        | [w0, w1, w2, w3], _ =>
          have e0 := hns 0 w0 0 rfl rfl
          have e1 := hns 1 w1 1 rfl rfl
          have e2 := hns 2 w2 3 rfl rfl
          have e3 := hns 3 w3 4 rfl rfl
          walk_at "ge"
          refine ⟨[_], _, .refl _, A, bs, ss, S3, F, G, w0, w1, w2, w3, _, _, _, _, ⟨rfl, rfl, rfl, rfl, rfl, rfl, O3, e0, e1, e2, e3, ?_, ?_⟩, fun S4 m O4 le4 _ _ dm => ?_⟩
          · have z : (fu bs ss (k + 1) j P).ok := bld_ok _ _
            rw [efu] at z; exact z
          · have z := lF_top hF
            rw [efu] at z; exact z
          · walk_at "ge"
            exact ⟨_, [_], .refl _, h S4 m O4 ((le2.trans le3).trans le4) (by rw [efu]; exact dm)⟩
  · exact h.elim
theorem cam_future (T : Tx K mg C) (D : Dm K C.Store "future" "Store.future" s_Store_future) (D2 : Dm K C.Store "new_future" "Store.new_future" s_Store_new_future) (m_Store_small_future : Cam P w K mg base 2 C.Store "small_future" ["self", "square"] (Fr (js_small C))) (m_Store_nine : Cam P w K mg base 2 C.Store "nine" ["self", "square"] (Fr (js_nine C)))
    (m_Store_middle : Cam P w K mg base 2 C.Store "middle" ["self", "square"] (Fr (js_middle C))) (m_Store_joined : Cam P w K mg base 1 C.Store "joined" ["self", "a", "b", "c", "d"] (Fr (js_joined C))) : ∀ N : Nat, Cam P w K mg base (2 * N + 4) C.Store "future" ["self", "square", "j"] (Fr (js_future C N))
  | 0 => cam_future_step T D 0 (cam_newf_zero D2)
  | N + 1 => cam_future_step T D (N + 1) (cam_newf_step T D2 N m_Store_small_future m_Store_nine m_Store_middle m_Store_joined (cam_future T D D2 m_Store_small_future m_Store_nine m_Store_middle m_Store_joined N))

@[reducible] def js_copied (C : Cs) (N : Nat) : JSp := fun ds ls Q => match ds with
  | [.a p, .a p2, .d (.int n0), .a q] => ∃ (A : SA) (bs ss : List Int) (S : SS) (F : List Tr) (G : List (Tr × Nat)) (A2 : SA) (bs2 ss2 : List Int) (S2 : SS) (F2 : List Tr) (G2 : List (Tr × Nat)) (n : Nat) (t : Tr) (kn : List (Nat × Nat)),
      (p = A.p ∧ p2 = A2.p ∧ ls = (q, .dki (knF kn)) :: (stC C A bs ss S ++ stC C A2 bs2 ss2 S2) ∧ n0 = (n : Int) ∧ t.lev < N ∧ SOk bs ss S F G ∧ SOk bs2 ss2 S2 F2 G2 ∧ Dnt S2.ks n t ∧ (∀ u ∈ t.subs, u ∈ F) ∧ KwOk S2 S kn) ∧
      ∀ (S' : SS) (kn' : List (Nat × Nat)) (m : Nat), SOk bs ss S' F G → S.le S' → S'.ft = S.ft → KwOk S2 S' kn' → Dnt S'.ks m t → Q (.d (.int (m : Nat))) ((q, .dki (knF kn')) :: (stC C A bs ss S' ++ stC C A2 bs2 ss2 S2))
  | _ => False
abbrev s_Store_copied : Stmt := inClass (topS 6) 14
theorem sc_Store_copied : FnScope ["self", "other", "square", "known", "parts", "one"] ["self", "other", "square", "known"] (defScope s_Store_copied) := ⟨rfl, rfl, rfl, by decide +kernel, rfl, by decide +kernel, by decide +kernel⟩
theorem bd_Store_copied : BindsH "copied" "Store.copied" s_Store_copied ["self", "other", "square", "known"] := fun _ _ _ _ _ _ us hl => match us, hl with | [_, _, _, _], _ => rfl

theorem cam_copied (T : Tx K mg C) (D : Dm K C.Store "copied" "Store.copied" s_Store_copied) (m_Store_joined : Cam P w K mg base 1 C.Store "joined" ["self", "a", "b", "c", "d"] (Fr (js_joined C))) (m_Store_parts : Cam P w K mg base 1 C.Store "parts" ["self", "square"] (Fr (js_parts C))) :
    ∀ N : Nat, Cam P w K mg base (N + 2) C.Store "copied" ["self", "other", "square", "known"] (Fr (js_copied C N))
  | 0 => (D.cam (js := js_copied C 0) bd_Store_copied sc_Store_copied (by unfold js_copied; walk_at "len") fun f cdv A outer s H E hr => ⟨_, pbNever, fun ds ls R h => by
      unfold js_copied at h
      split at h
      · obtain ⟨_, _, _, _, _, _, _, _, _, _, _, _, _, t, _, ⟨_, _, _, _, hn, _⟩, _⟩ := h
        omega
      · exact h.elim⟩).fr
  | N + 1 => by
    have m_Store_copied := cam_copied T D m_Store_joined m_Store_parts N
    refine (D.camP (js := js_copied C (N + 1)) bd_Store_copied sc_Store_copied (by unfold js_copied; walk_at "len") fun f cdv A outer s H E hr => ⟨_, (pbCons (psIf (ptCmp ojLe (pvJ 2) (pjGk T.k_ALIVE) (nomark _)) (pbOne (psRet (pvJ 2))) pbNil) (pbCons (psIf (ptCmp (ojNotIn (hu65 hr)) (pvJ 2) (pvJ 3) (by rfl)) (pbCons (psSLC (vs := [5]) (i := 4) rfl sc_Store_copied.nd (blkOk_by (N := ["self", "other", "square", "known", "parts", "one"]) (sc := defScope s_Store_copied) (own := [("one", 5)]) (by decide +kernel)) (piTup (pjMt T.cl_Store m_Store_parts hr (pvJ 1) (paCons (pvJ 2) paNil))) (pgcName 5 (by simp) fun _ _ _ _ _ => pg_name (i := 5) sc_Store_copied.nd rfl (by first | exact .inl rfl | exact .inr rfl)) ptsN (pesU (fun _ _ _ _ _ => rfl) fun _ _ _ _ _ => (pjMt T.cl_Store m_Store_copied hr (pvJ 0) (paCons (pvJ 1) (paCons (pvJ 5) (paCons (pvJ 3) paNil)))))) (pbOne (psAsg (pjMt T.cl_Store m_Store_joined hr (pvJ 0) (paCons (pjIx (ixJ (hu1 hr)) (pvJ 4) pintJ) (paCons (pjIx (ixJ (hu1 hr)) (pvJ 4) pintJ) (paCons (pjIx (ixJ (hu1 hr)) (pvJ 4) pintJ) (paCons (pjIx (ixJ (hu1 hr)) (pvJ 4) pintJ) paNil))))) (pgSb hr (pvJ 3) (pvJ 2))))) pbNil) (pbOne (psRet (pjIx (ixJ (hu1 hr)) (pvJ 3) (pvJ 2)))))), fun ds ls R h => ?_⟩).fr
    unfold js_copied at h
    split at h
    · rename_i p p2 n0 q
      obtain ⟨A, bs, ss, S, F, G, A2, bs2, ss2, S2, F2, G2, n, t, kn, ⟨rfl, rfl, rfl, rfl, hn, O, O2, d, hF, W⟩, h⟩ := h
      walk_at "ge"
      refine ifD (fun e => ?_) fun e => ?_
      · walk_at "ge"
        refine ⟨_, [], .refl _, h S kn n O S.le_refl rfl W ?_⟩
        cases t with
        | lf b => rw [dn_lf d]; exact dn_n01 _ b
        | nd a b c d => obtain ⟨i, na, nb, nc, nd, rfl, _⟩ := d.parts; omega
      · walk_at "ge"
        rcases knF_get n kn with ⟨g1, g2⟩ | ⟨m, g1, g2⟩
        · refine ⟨false, ⟨0, _, rfl, _, rfl, by rw [g2]; rfl⟩, ?_⟩
          walk_at "ge"
          obtain ⟨ta, tb, tc, td, rfl⟩ : ∃ ta tb tc td, t = .nd ta tb tc td := by
            cases t with
            | lf b => have := dn_lf d; cases b <;> simp [n01] at this <;> omega
            | nd a b c d => exact ⟨_, _, _, _, rfl⟩
          have ok := (O2.at d).1
          obtain ⟨oka, okb, okc, okd, e1, e2, e3⟩ := ok
          refine ⟨(q, .dki (knF kn)) :: stC C A bs ss S, _, .refl _, A2, bs2, ss2, S2, F2, G2, n, ta, tb, tc, td, ⟨rfl, rfl, rfl, O2, d⟩, fun ma mb mc md da db dc dd => ?_⟩
          walk_at "ge"
          refine compFI (as := [(ma, ta), (mb, tb), (mc, tc), (md, td)]) (src := fun p : Nat × Tr => .d (.int (p.1 : Nat))) (fun i acc ls' => ∃ (S' : SS) (kn' : List (Nat × Nat)) (ms : List Nat), SOk bs ss S' F G ∧ S.le S' ∧ S'.ft = S.ft ∧ KwOk S2 S' kn' ∧ ls' = (q, .dki (knF kn')) :: (stC C A bs ss S' ++ stC C A2 bs2 ss2 S2) ∧ acc = (ms.map fun m : Nat => PyData.int (m : Nat)).map .d ∧ ms.length = i ∧
            ∀ (j m : Nat) (p : Nat × Tr), ms[j]? = some m → [(ma, ta), (mb, tb), (mc, tc), (md, td)][j]? = some p → Dnt S'.ks m p.2) ⟨S, kn, [], O, S.le_refl, rfl, W, rfl, rfl, rfl, fun j m p hj => by simp at hj⟩ (fun i p acc ls' hp hI => ?_) fun acc ls' hI => ?_
          · obtain ⟨S', kn', ms, O', le, ft, W', rfl, rfl, hl, hm⟩ := hI
            have hi : i < 4 := (List.getElem?_eq_some_iff.mp hp).1
            refine ⟨trivial, ?_⟩
            walk_at "ge"
            obtain ⟨dp, lp, sp⟩ : Dnt S2.ks p.1 p.2 ∧ p.2.lev < N ∧ ∀ u ∈ p.2.subs, u ∈ F := by
              have hn2 : (Tr.nd ta tb tc td).lev < N + 1 := hn
              rw [Tr.lev] at hn2
              have hs : ∀ u, u ∈ ta.subs ∨ u ∈ tb.subs ∨ u ∈ tc.subs ∨ u ∈ td.subs → u ∈ F := fun u hu => hF u (by rw [Tr.subs]; simp only [List.mem_cons, List.mem_append]; exact .inr (by rcases hu with h | h | h | h <;> simp [h]))
              have c4 : i = 0 ∨ i = 1 ∨ i = 2 ∨ i = 3 := by omega
              rcases c4 with rfl | rfl | rfl | rfl <;> cases hp
              · exact ⟨da, by dsimp only; omega, fun u hu => hs u (.inl hu)⟩
              · exact ⟨db, by dsimp only; omega, fun u hu => hs u (.inr (.inl hu))⟩
              · exact ⟨dc, by dsimp only; omega, fun u hu => hs u (.inr (.inr (.inl hu)))⟩
              · exact ⟨dd, by dsimp only; omega, fun u hu => hs u (.inr (.inr (.inr hu)))⟩
            refine ⟨[], _, .refl _, A, bs, ss, S', F, G, A2, bs2, ss2, S2, F2, G2, p.1, p.2, kn', ⟨rfl, rfl, rfl, rfl, lp, O', O2, dp, sp, W'⟩, fun S3 kn3 m3 O3 le3 ft3 W3 d3 => ?_⟩
            refine ⟨by rw [List.length_map, List.length_map, hl, sizeLine_eq]; omega, S3, kn3, ms ++ [m3], O3, le.trans le3, ft3.trans ft, W3, rfl, by simp, by simp [hl], fun j m' p' hj hp' => ?_⟩
            by_cases hjl : j < ms.length
            · rw [List.getElem?_append_left hjl] at hj
              exact (hm j m' p' hj hp').le le3
            · have hj2 : j = ms.length := by
                have := (List.getElem?_eq_some_iff.mp hj).1
                simp at this; omega
              subst hj2
              simp at hj
              subst hj
              rw [hl, hp] at hp'
              cases hp'
              exact d3
          · obtain ⟨S', kn', ms, O', le, ft, W', rfl, rfl, hl, hm⟩ := hI
            refine ⟨trivial, newL_d rfl ?_⟩
            match ms, hl with
            | [m0, m1, m2, m3], _ =>
              have d0 := hm 0 m0 _ rfl rfl
              have d1 := hm 1 m1 _ rfl rfl
              have d2 := hm 2 m2 _ rfl rfl
              have d3 := hm 3 m3 _ rfl rfl
              walk_at "ge"
              refine ⟨(q, .dki (knF kn')) :: stC C A2 bs2 ss2 S2, _, List.Perm.cons _ List.perm_append_comm, A, bs, ss, S', F, G, m0, m1, m2, m3, ta, tb, tc, td, ⟨rfl, rfl, rfl, rfl, rfl, rfl, O', d0, d1, d2, d3, (O2.at d).1, hF _ (Tr.self_sub _)⟩, fun S3 m4 O3 le3 _ ft3 dd3 => ?_⟩
              walk_at "ge"
              have W3 := W'.le le3
              have hz := W3.len
              have hz2 := O2.len
              have hz3 := O2.big
              refine ⟨by unfold knF; rw [List.length_map, sizeLine_eq]; omega, ?_⟩
              obtain ⟨kn4, W4, g3, g4⟩ := W3.set O3.nd d dd3
              rw [g3]
              walk_at "ge"
              refine ⟨_, _, rfl, g4, ?_⟩
              walk_at "ge"
              exact ⟨_, [], List.Perm.cons _ List.perm_append_comm, h S3 kn4 m4 O3 (le.trans le3) (ft3.trans ft) W4 dd3⟩
        · refine ⟨true, ⟨0, _, rfl, _, rfl, by rw [g2]; rfl⟩, ?_⟩
          walk_at "ge"
          refine ⟨_, _, rfl, g2, ?_⟩
          walk_at "ge"
          obtain ⟨t', k1, k2⟩ := W.ok _ g1
          rw [k1.fn d] at k2
          exact ⟨_, [], .refl _, h S kn m O S.le_refl rfl W k2⟩
    · exact h.elim

@[reducible] def js_collected (C : Cs) (N : Nat) : JSp := fun ds ls Q => match ds with
  | [.a p, .d (.list ws)] => ∃ (A : SA) (bs ss : List Int) (S : SS) (F : List Tr) (G : List (Tr × Nat)) (ns : List (Nat × Tr)),
      (p = A.p ∧ ls = stC C A bs ss S ∧ ws = (ns.map fun e => PyData.int (e.1 : Nat)) ∧ ns.length ≤ 1000000 ∧ SOk bs ss S F G ∧ ∀ e ∈ ns, Dnt S.ks e.1 e.2 ∧ e.2.lev < N) ∧
      ∀ (A2 : SA) (S2 : SS) (ms : List Nat), SOk bs ss S2 F [] → S2.ft = [] → ms.length = ns.length → (∀ (i m : Nat) (e : Nat × Tr), ms[i]? = some m → ns[i]? = some e → Dnt S2.ks m e.2) → Q (.t [.a A2.p, .d (.list (ms.map fun m : Nat => PyData.int (m : Nat)))]) (stC C A2 bs ss S2 ++ stC C A bs ss S)
  | _ => False
abbrev s_Store_collected : Stmt := inClass (topS 6) 15
theorem sc_Store_collected : FnScope ["self", "squares", "store", "known", "square"] ["self", "squares"] (defScope s_Store_collected) := ⟨rfl, rfl, rfl, by decide +kernel, rfl, by decide +kernel, by decide +kernel⟩
theorem bd_Store_collected : BindsH "collected" "Store.collected" s_Store_collected ["self", "squares"] := fun _ _ _ _ _ _ us hl => match us, hl with | [_, _], _ => rfl

theorem cam_collected (T : Tx K mg C) (D : Dm K C.Store "collected" "Store.collected" s_Store_collected) (N : Nat) (mk_Store : Cak P w K mg base 1 "Store" C.Store ["self", "rule"] (js_store_init C)) (m_Store_copied : Cam P w K mg base (N + 2) C.Store "copied" ["self", "other", "square", "known"] (Fr (js_copied C N))) :
    Cam P w K mg base (N + 3) C.Store "collected" ["self", "squares"] (Fr (js_collected C N)) := by
  refine (D.camP (js := js_collected C N) bd_Store_collected sc_Store_collected (by unfold js_collected; walk_at "len") fun f cdv A outer s H E hr => ⟨_, (pbCons (psAsg (pjMk mk_Store hr (paCons (pjFld T.cl_Store T.n_Store_rule (pvJ 0)) paNil)) (pgName (i := 2) sc_Store_collected.nd)) (pbCons (psAsg pjDK (pgName (i := 3) sc_Store_collected.nd)) (pbOne (psRet (pjTup (paCons (pvJ 2) (paCons (pjLC (vs := [4]) rfl sc_Store_collected.nd (blkOk_by (N := ["self", "squares", "store", "known", "square"]) (sc := defScope s_Store_collected) (own := [("square", 4)]) (by decide +kernel)) (piList (pvJ 1)) (pgcName 4 (by simp) fun _ _ _ _ _ => pg_name (i := 4) sc_Store_collected.nd rfl (by first | exact .inl rfl | exact .inr rfl)) ptsN (pesU (fun _ _ _ _ _ => rfl) fun _ _ _ _ _ => (pjMt T.cl_Store m_Store_copied hr (pvJ 2) (paCons (pvJ 0) (paCons (pvJ 4) (paCons (pvJ 3) paNil)))))) paNil))))))), fun ds ls R h => ?_⟩).fr
  unfold js_collected at h
  split at h
  · rename_i p ws
    obtain ⟨A, bs, ss, S, F, G, ns, ⟨rfl, rfl, rfl, hl, O, hn⟩, h⟩ := h
    walk_at "ge"
    intro p2
    refine ⟨bs, ss, _, ⟨rfl, rfl, rfl⟩, fun A2 hA => ?_⟩
    subst hA
    refine ⟨rfl, .inl ?_⟩
    walk_at "ge"
    intro q
    walk_at "ge"
    have O0 : SOk bs ss S0 F [] := s0_ok bs ss (O.at .z).2.1 (O.at .o).2.1 O.big (by simp)
    rw [List.map_map]
    refine compFI (as := ns) (src := fun e : Nat × Tr => .d (.int (e.1 : Nat))) (fun i acc ls' => ∃ (S' : SS) (kn' : List (Nat × Nat)) (ms : List Nat), SOk bs ss S' F [] ∧ S'.ft = [] ∧ KwOk S S' kn' ∧ ls' = (q, .dki (knF kn')) :: (stC C A2 bs ss S' ++ stC C A bs ss S) ∧ acc = (ms.map fun m : Nat => PyData.int (m : Nat)).map .d ∧ ms.length = i ∧
      ∀ (j m : Nat) (e : Nat × Tr), ms[j]? = some m → ns[j]? = some e → Dnt S'.ks m e.2) ⟨S0, [], [], O0, rfl, .nil _ _, rfl, rfl, rfl, fun j m p hj => by simp at hj⟩ (fun i e acc ls' he hI => ?_) fun acc ls' hI => ?_
    · obtain ⟨S', kn', ms, O', ft, W', rfl, rfl, hl2, hm⟩ := hI
      have hi : i < ns.length := (List.getElem?_eq_some_iff.mp he).1
      obtain ⟨he1, he2⟩ := hn e (List.mem_of_getElem? he)
      refine ⟨trivial, ?_⟩
      walk_at "ge"
      refine ⟨[], _, .refl _, A2, bs, ss, S', F, [], A, bs, ss, S, F, G, e.1, e.2, kn', ⟨rfl, rfl, rfl, rfl, he2, O', O, he1, ?_, W'⟩, fun S3 kn3 m3 O3 le3 ft3 W3 d3 => ?_⟩
      · exact O.subs he1
      · refine ⟨by rw [List.length_map, List.length_map, hl2, sizeLine_eq]; omega, S3, kn3, ms ++ [m3], O3, ft3.trans ft, W3, rfl, by simp, by simp [hl2], fun j m' p' hj hp' => ?_⟩
        by_cases hjl : j < ms.length
        · rw [List.getElem?_append_left hjl] at hj
          exact (hm j m' p' hj hp').le le3
        · have hj2 : j = ms.length := by
            have := (List.getElem?_eq_some_iff.mp hj).1
            simp at this; omega
          subst hj2
          simp at hj
          subst hj
          rw [hl2, he] at hp'
          cases hp'
          exact d3
    · obtain ⟨S', kn', ms, O', ft, W', rfl, rfl, hl2, hm⟩ := hI
      refine ⟨trivial, newL_d rfl ?_⟩
      walk_at "ge"
      exact ⟨_, [(q, .dki (knF kn'))], (.refl _), h A2 S' ms O' ft hl2 hm⟩
  · exact h.elim

/-- some cells of a box -/
@[reducible] def js_law_some : JSp := fun ds ls Q => match ds with
  | [.d (.int _), .d (.int n), .d (.int h), .d (.int w)] => (0 ≤ n ∧ n ≤ 1000 ∧ 0 < h ∧ 0 < w ∧ h ≤ 32000 ∧ w ≤ 32000) ∧ ∀ A : List Cell, Lt A → A.length ≤ n.toNat → (∀ x ∈ A, 0 ≤ x.1 ∧ x.1 < h ∧ 0 ≤ x.2 ∧ x.2 < w) → (0 < n → A ≠ []) → Q (.d (csD A)) ls
  | _ => False
abbrev s__law_some : Stmt := topS 13
theorem sc__law_some : FnScope ["cell", "count", "height", "width", "x", "found", "y", "place"] ["cell", "count", "height", "width"] (defScope s__law_some) := ⟨rfl, rfl, rfl, by decide +kernel, rfl, by decide +kernel, by decide +kernel⟩
theorem bd__law_some : BindsH "_law_some" "_law_some" s__law_some ["cell", "count", "height", "width"] := fun _ _ _ _ _ _ us hl => match us, hl with | [_, _, _, _], _ => rfl

theorem cal_law_some (T : Tx K mg C) (D : Df K mg "_law_some" s__law_some) (c__law_row : Cal P w K mg base 1 "_law_row" ["cell", "count", "bound"] js_law_row) : Cal P w K mg base 2 "_law_some" ["cell", "count", "height", "width"] js_law_some := by
  refine D.calG bd__law_some sc__law_some (by unfold js_law_some; walk_at "len") fun f cdv A outer s H E hr => ⟨_, (pbCons (psAsg (pjBi cjAbs T.b_abs (paCons (pjTi cjInt T.b_int (paCons (pvJ 0) paNil)) paNil)) (pgName (i := 4) sc__law_some.nd)) (pbCons (psAsg pjDT (pgName (i := 5) sc__law_some.nd)) (pbCons (psFr PassesOwn.never rfl (piList (pjC c__law_row hr (paCons (pvJ 0) (paCons (pvJ 1) (paCons (pjOp ojMul (pvJ 2) (pvJ 3)) paNil))))) (pgName (i := 6) sc__law_some.nd) (pbOne (psAsg pblJ (pgSb hr (pvJ 5) (pjTup (paCons (pjOp ojFdiv (pvJ 6) (pvJ 3)) (paCons (pjOp ojMod (pvJ 6) (pvJ 3)) paNil))))))) (pbOne (psRet (pjBi (cjSort_cells hr) T.b_sorted (paCons (pjLock 5 (pjLC (vs := [7]) rfl sc__law_some.nd (blkOk_by (N := ["cell", "count", "height", "width", "x", "found", "y", "place"]) (sc := defScope s__law_some) (own := [("place", 7)]) (by decide +kernel)) (piKeys (pvJ 5)) (pgcName 7 (by simp) fun _ _ _ _ _ => pg_name (i := 7) sc__law_some.nd rfl (by first | exact .inl rfl | exact .inr rfl)) ptsN (pesU (fun _ _ _ _ _ => rfl) fun _ _ _ _ _ => (pvJ 7)))) paNil))))))), fun ds ls R h => ?_⟩
  unfold js_law_some at h
  split at h
  · rename_i cc n hh ww
    obtain ⟨⟨n0, n1, h0, w0, h1, w1⟩, h⟩ := h
    have hw0 : 0 < hh * ww := Int.mul_pos h0 w0
    have hw1 : hh * ww ≤ 32000 * 32000 := Int.mul_le_mul h1 w1 (by omega) (by omega)
    walk_at "ge"
    intro q
    walk_at "ge"
    intro ns hnl hnb
    walk_at "ge"
    refine forM (as := ns) (f := PyData.int) (fun i δ ls' => ∃ (L : List Cell) (x y y2 : Option J.D), ls' = (q, .dct (dF L fun _ => .d (.bool true))) :: ls ∧ δ = [some (.d (.int cc)), some (.d (.int n)), some (.d (.int hh)), some (.d (.int ww)), x, some (.a q), y, y2] ∧ L.Nodup ∧ L.length ≤ i ∧ (∀ c ∈ L, 0 ≤ c.1 ∧ c.1 < hh ∧ 0 ≤ c.2 ∧ c.2 < ww) ∧ (0 < i → L ≠ [])) ⟨[], _, _, _, rfl, rfl, List.nodup_nil, Nat.le_refl _, by simp, by simp⟩ (fun i y δ ls' hy hI => ?_) fun δ ls' hI => ?_
    · obtain ⟨L, x, z, z2, rfl, rfl, nd, ln, hb, hne⟩ := hI
      have hi : i < ns.length := (List.getElem?_eq_some_iff.mp hy).1
      have by' := hnb y (List.mem_of_getElem? hy)
      walk_at "ge"
      refine ⟨by rw [dF_len, sizeLine_eq]; omega, ?_⟩
      refine ⟨pL L (y / ww, y % ww), _, _, _, ?_, rfl, pL_nodup nd, Nat.le_trans (pL_len _ _) (by omega), fun c hc => ?_, fun _ e => ?_⟩
      · have e := dF_put (f := fun _ => J.D.d (.bool true)) (L := L) (c := (y / ww, y % ww)) (v := .d (.bool true))
        rw [pU_const] at e
        rw [← e]; rfl
      · rcases pL_mem.mp hc with hc | rfl
        · exact hb c hc
        · refine ⟨Int.ediv_nonneg (by omega) (by omega), Int.ediv_lt_of_lt_mul w0 (by omega), Int.emod_nonneg _ (by omega), Int.emod_lt_of_pos _ w0⟩
      · have : ((y / ww, y % ww) : Cell) ∈ pL L (y / ww, y % ww) := pL_mem.mpr (.inr rfl)
        rw [e] at this; cases this
    · obtain ⟨L, x, z, z2, rfl, rfl, nd, ln, hb, hne⟩ := hI
      walk_at "ge"
      intro o vs
      walk_at "ge"
      rw [dF_keys]
      refine compM (as := L) (src := cD) (fun c => some (.d (cD c))) ⟨0, rfl⟩ (by rw [sizeLine_eq]; omega) (fun i c acc W hc hz k1 k2 => ?_) ?_
      · have k1 := k1 _ rfl
        walk_at "ge"
        exact k1
      · rw [fm_some]
        refine newL_d (ds := L.map cD) (by rw [List.map_map]; rfl) ?_
        walk_at "ge"
        refine ⟨L, cellsD_map L, ?_⟩
        walk_at "ge"
        refine ⟨1, h (srtC L) (srtC_lt nd) (by rw [srtC_len]; omega) (fun c hc => hb c (srtC_mem.mp hc)) fun hn e => ?_⟩
        have z := congrArg List.length e
        rw [srtC_len] at z
        exact hne (by omega) (List.eq_nil_of_length_eq_zero z)
  · exact h.elim

@[reducible] def js_law_next : JSp := fun ds ls Q => match ds with
  | [.d (.list ws), .d (.list b), .d (.list s)] => ∃ (A : List Cell) (bs ss : List Int), (ws = A.map cD ∧ b = bs.map .int ∧ s = ss.map .int ∧ A.length ≤ 1000000 ∧ ∀ b ∈ bs, 1 ≤ b) ∧ Q (.d (csD (nxt A bs ss))) ls
  | _ => False
abbrev s__law_next : Stmt := topS 14
theorem sc__law_next : FnScope ["cells", "births", "survival", "counts", "alive", "r", "c", "i", "j", "found", "place"] ["cells", "births", "survival"] (defScope s__law_next) := ⟨rfl, rfl, rfl, by decide +kernel, rfl, by decide +kernel, by decide +kernel⟩
theorem bd__law_next : BindsH "_law_next" "_law_next" s__law_next ["cells", "births", "survival"] := fun _ _ _ _ _ _ us hl => match us, hl with | [_, _, _], _ => rfl

theorem cal_law_next (T : Tx K mg C) (D : Df K mg "_law_next" s__law_next) : Cal P w K mg base 1 "_law_next" ["cells", "births", "survival"] js_law_next := by
  refine D.calG bd__law_next sc__law_next (by unfold js_law_next; walk_at "len") fun f cdv A outer s H E hr => ⟨_, (pbCons (psAsg pjDT (pgName (i := 3) sc__law_next.nd)) (pbCons (psAsg pjDT (pgName (i := 4) sc__law_next.nd)) (pbCons (psFr PassesOwn.never rfl (piList (pvJ 0)) (pgTup rfl (pgCons (pgName (i := 5) sc__law_next.nd) (pgCons (pgName (i := 6) sc__law_next.nd) pgNil))) (pbOne (psAsg pblJ (pgSb hr (pvJ 4) (pjTup (paCons (pvJ 5) (paCons (pvJ 6) paNil))))))) (pbCons (psLock 4 (psFr PassesOwn.never rfl (piKeys (pvJ 4)) (pgTup rfl (pgCons (pgName (i := 5) sc__law_next.nd) (pgCons (pgName (i := 6) sc__law_next.nd) pgNil))) (pbCons (psAsg (pjGt hr (pvJ 3) (pjTup (paCons (pvJ 5) (paCons (pvJ 6) paNil))) pintJ) (pgSb hr (pvJ 3) (pjTup (paCons (pvJ 5) (paCons (pvJ 6) paNil))))) (pbOne (psFr PassesOwn.never rfl (piList (pjLst (paCons (pjOp ojSub (pvJ 5) pintJ) (paCons (pvJ 5) (paCons (pjOp ojAdd (pvJ 5) pintJ) paNil))))) (pgName (i := 7) sc__law_next.nd) (pbOne (psFr PassesOwn.never rfl (piList (pjLst (paCons (pjOp ojSub (pvJ 6) pintJ) (paCons (pvJ 6) (paCons (pjOp ojAdd (pvJ 6) pintJ) paNil))))) (pgName (i := 8) sc__law_next.nd) (pbOne (psIf (PWJ.pt (pwOr (ptCmp (ojNe (hu64 hr)) (pvJ 7) (pvJ 5) (nomark _)) (pwOr1 (ptCmp (ojNe (hu64 hr)) (pvJ 8) (pvJ 6) (nomark _))))) (pbOne (psAsg (pjOp ojAdd (pjGt hr (pvJ 3) (pjTup (paCons (pvJ 7) (paCons (pvJ 8) paNil))) pintJ) pintJ) (pgSb hr (pvJ 3) (pjTup (paCons (pvJ 7) (paCons (pvJ 8) paNil)))))) pbNil))))))))) (pbCons (psAsg (pjLst paNil) (pgName (i := 9) sc__law_next.nd)) (pbCons (psLock 3 (psFr PassesOwn.never rfl (piKeys (pvJ 3)) (pgName (i := 10) sc__law_next.nd) (pbOne (psIf (PWJ.pt (pwOr (PWJ.pt (pwAnd (ptCmp (ojIn (hu65 hr)) (pvJ 10) (pvJ 4) (by rfl)) (pwAnd1 (ptCmp (ojIn (hu65 hr)) (pjIx (ixJ (hu1 hr)) (pvJ 3) (pvJ 10)) (pvJ 2) (by rfl))))) (pwOr1 (PWJ.pt (pwAnd (ptCmp (ojNotIn (hu65 hr)) (pvJ 10) (pvJ 4) (by rfl)) (pwAnd1 (ptCmp (ojIn (hu65 hr)) (pjIx (ixJ (hu1 hr)) (pvJ 3) (pvJ 10)) (pvJ 1) (by rfl)))))))) (pbOne (psExpr (pjApp (pvJ 9) (pvJ 10)))) pbNil)))) (pbOne (psRet (pjBi (cjSort_cells hr) T.b_sorted (paCons (pvJ 9) paNil)))))))))), fun ds ls R h => ?_⟩
  unfold js_law_next at h
  split at h
  · rename_i ws b s
    obtain ⟨A, bs, ss, ⟨rfl, rfl, rfl, hA, hb1⟩, h⟩ := h
    walk_at "go"
    intro counts
    walk_at "go"
    intro alive
    walk_at "go"
    -- alive
    refine forM (as := A) (f := cD) (fun i δ ls' => ∃ (L : List Cell) (x y : Option J.D), ls' = (alive, .dct (dF L fun _ => .d (.bool true))) :: (counts, .dct []) :: ls ∧
        δ = [some (.d (.list (A.map cD))), some (.d (.list (bs.map .int))), some (.d (.list (ss.map .int))), some (.a counts), some (.a alive), x, y, none, none, none, none] ∧ L.Nodup ∧ L.length ≤ i ∧ ∀ c, c ∈ L ↔ c ∈ A.take i) ⟨[], _, _, rfl, rfl, List.nodup_nil, Nat.le_refl _, by simp⟩ (fun i a δ ls' ha hI => ?_) fun δ ls' hI => ?_
    · obtain ⟨L, x, y, rfl, rfl, nd, ln, hm⟩ := hI
      have hi : i < A.length := (List.getElem?_eq_some_iff.mp ha).1
      walk_at "go"
      refine ⟨by rw [dF_len, sizeLine_eq]; omega, ?_⟩
      refine ⟨pL L a, _, _, ?_, rfl, pL_nodup nd, Nat.le_trans (pL_len _ _) (by omega), fun c => ?_⟩
      · have e := dF_put (f := fun _ => J.D.d (.bool true)) (L := L) (c := a) (v := .d (.bool true))
        rw [pU_const] at e
        rw [← e]; rfl
      · rw [pL_mem, hm, List.take_add_one, ha]
        simp
    obtain ⟨L, x, y, rfl, rfl, nd, ln, hm⟩ := hI
    rw [List.take_length] at hm
    walk_at "go"
    intro od vs
    walk_at "go"
    rw [dF_keys]
    refine forMP (as := L) (f := cD) (fun i δ ls' => ∃ (Mk : List Cell) (x y z u : Option J.D), ls' = (alive, .dctL od vs (dF L fun _ => .d (.bool true))) :: (counts, .dct (dF Mk (fD fun x => (M.cnt (L.take i) x : Int)))) :: ls ∧
        δ = [some (.d (.list (A.map cD))), some (.d (.list (bs.map .int))), some (.d (.list (ss.map .int))), some (.a counts), some (.a alive), x, y, z, u, none, none] ∧ CtOk (L.take i) Mk (fun x => (M.cnt (L.take i) x : Int)) (10 * i)) ⟨[], _, _, _, _, rfl, rfl, List.nodup_nil, Nat.zero_le _, by simp, fun x hx => by simp [M.cnt] at hx⟩ (fun i δ ls' ⟨Mk, x, y, z, u, e, _⟩ => ⟨0, by rw [e]; rfl⟩) (fun i a δ ls' ha hI => ?_) fun δ ls' hI => ?_
    · obtain ⟨Mk, x, y, z, u, rfl, rfl, ok⟩ := hI
      have hi : i < L.length := (List.getElem?_eq_some_iff.mp ha).1
      have hlen := ok.len
      walk_at "go"
      rw [ok.get (fun x => by omega) a]
      refine ⟨by rw [dF_len, sizeLine_eq]; omega, ?_⟩
      rw [dF_put, pU_self]
      walk_at "go"
      refine newL_e rfl ?_
      walk_at "go"
      have ok1 : CtOk (L.take i ++ [a]) (pL Mk a) (fI (L.take i) a 0 0) (10 * i + 1) := by
        have z := ok.put (g := fun x => (M.cnt (L.take i) x : Int)) a fun _ _ => rfl
        rw [fI_zero]
        exact ⟨z.nd, z.len, fun x hx => by
          rcases List.mem_append.mp hx with hx | hx
          · exact z.has x hx
          · simp at hx; subst hx; exact pL_mem.mpr (.inr rfl), z.pos⟩
      refine forM (as := [a.1 - 1, a.1, a.1 + 1]) (f := PyData.int) (fun ii δ ls' => ∃ (Mk : List Cell) (z u : Option J.D), ls' = (alive, .dctL od vs (dF L fun _ => .d (.bool true))) :: (counts, .dct (dF Mk (fD (fI (L.take i) a ii 0)))) :: ls ∧
        δ = [some (.d (.list (A.map cD))), some (.d (.list (bs.map .int))), some (.d (.list (ss.map .int))), some (.a counts), some (.a alive), some (.d (.int a.1)), some (.d (.int a.2)), z, u, none, none] ∧ CtOk (L.take i ++ [a]) Mk (fI (L.take i) a ii 0) (10 * i + 1 + 3 * ii)) ⟨pL Mk a, _, _, by rw [fI_zero]; rfl, rfl, ok1⟩ (fun ii v δ ls' hv hI => ?_) fun δ ls' hI => ?_
      · obtain ⟨Mk, z, u, rfl, rfl, ok2⟩ := hI
        obtain ⟨i3, rfl⟩ := three hv
        walk_at "go"
        refine newL_e rfl ?_
        walk_at "go"
        refine forM (as := [a.2 - 1, a.2, a.2 + 1]) (f := PyData.int) (fun jj δ ls' => ∃ (Mk : List Cell) (u : Option J.D), ls' = (alive, .dctL od vs (dF L fun _ => .d (.bool true))) :: (counts, .dct (dF Mk (fD (fI (L.take i) a ii jj)))) :: ls ∧
          δ = [some (.d (.list (A.map cD))), some (.d (.list (bs.map .int))), some (.d (.list (ss.map .int))), some (.a counts), some (.a alive), some (.d (.int a.1)), some (.d (.int a.2)), some (.d (.int (a.1 - 1 + (ii : Int)))), u, none, none] ∧ CtOk (L.take i ++ [a]) Mk (fI (L.take i) a ii jj) (10 * i + 1 + 3 * ii + jj)) ⟨Mk, _, rfl, rfl, ok2⟩ (fun jj v δ ls' hv hI => ?_) fun δ ls' hI => ?_
        · obtain ⟨Mk, u, rfl, rfl, ok3⟩ := hI
          obtain ⟨j3, rfl⟩ := three hv
          have l3 := ok3.len
          walk_at "go"
          refine ifND (fun e1 => ?_) fun e1 => ?_
          · have ne : ((a.1 - 1 + (ii : Int), a.2 - 1 + (jj : Int)) : Cell) ≠ a := fun z => e1 (congrArg Prod.fst z)
            walk_at "go"
            rw [ok3.get (fI_nn _ _ _ _) (a.1 - 1 + (ii : Int), a.2 - 1 + (jj : Int)), fI_at (x := (a.1 - 1 + (ii : Int), a.2 - 1 + (jj : Int))) rfl rfl]
            walk_at "go"
            refine ⟨by rw [dF_len, sizeLine_eq]; omega, ?_⟩
            refine ⟨pL Mk (a.1 - 1 + (ii : Int), a.2 - 1 + (jj : Int)), _, ?_, rfl, ?_⟩
            · have e := dF_put (f := fD (fI (L.take i) a ii jj)) (L := Mk) (c := (a.1 - 1 + (ii : Int), a.2 - 1 + (jj : Int))) (v := .d (.int ((M.cnt (L.take i) (a.1 - 1 + (ii : Int), a.2 - 1 + (jj : Int)) : Int) + 1)))
              rw [fI_next i3 j3 rfl rfl ne] at e
              rw [← e]; rfl
            · refine ok3.put _ fun y hy => ?_
              have z := congrFun (fI_next (P := L.take i) (a := a) i3 j3 (x := (a.1 - 1 + (ii : Int), a.2 - 1 + (jj : Int))) rfl rfl ne) y
              unfold pU fD at z
              rw [if_neg hy] at z
              simpa using z.symm
          walk_at "go"
          refine ifND (fun e2 => ?_) fun e2 => ?_
          · have ne : ((a.1 - 1 + (ii : Int), a.2 - 1 + (jj : Int)) : Cell) ≠ a := fun z => e2 (congrArg Prod.snd z)
            walk_at "go"
            rw [ok3.get (fI_nn _ _ _ _) (a.1 - 1 + (ii : Int), a.2 - 1 + (jj : Int)), fI_at (x := (a.1 - 1 + (ii : Int), a.2 - 1 + (jj : Int))) rfl rfl]
            walk_at "go"
            refine ⟨by rw [dF_len, sizeLine_eq]; omega, ?_⟩
            refine ⟨pL Mk (a.1 - 1 + (ii : Int), a.2 - 1 + (jj : Int)), _, ?_, rfl, ?_⟩
            · have e := dF_put (f := fD (fI (L.take i) a ii jj)) (L := Mk) (c := (a.1 - 1 + (ii : Int), a.2 - 1 + (jj : Int))) (v := .d (.int ((M.cnt (L.take i) (a.1 - 1 + (ii : Int), a.2 - 1 + (jj : Int)) : Int) + 1)))
              rw [fI_next i3 j3 rfl rfl ne] at e
              rw [← e]; rfl
            · refine ok3.put _ fun y hy => ?_
              have z := congrFun (fI_next (P := L.take i) (a := a) i3 j3 (x := (a.1 - 1 + (ii : Int), a.2 - 1 + (jj : Int))) rfl rfl ne) y
              unfold pU fD at z
              rw [if_neg hy] at z
              simpa using z.symm
          · walk_at "go"
            have es := fI_same (P := L.take i) (a := a) (i := ii) (j := jj) e1.symm e2.symm
            exact ⟨Mk, _, by rw [es], rfl, by rw [es]; exact ok3.up (by omega)⟩
        · obtain ⟨Mk, u, rfl, rfl, ok3⟩ := hI
          exact ⟨Mk, _, _, by rw [← fI_row]; rfl, rfl, by rw [← fI_row]; exact ok3.up (by simp only [List.length_cons, List.length_nil]; omega)⟩
      · obtain ⟨Mk, z, u, rfl, rfl, ok2⟩ := hI
        have e3 : L.take (i + 1) = L.take i ++ [a] := by rw [List.take_add_one, ha]; rfl
        refine ⟨Mk, _, _, _, _, ?_, rfl, ?_⟩
        · rw [e3, ← fI_all]; rfl
        · rw [e3, ← fI_all]; exact ok2.up (by simp only [List.length_cons, List.length_nil]; omega)
    · obtain ⟨Mk, x, y, z, u, rfl, rfl, ok⟩ := hI
      rw [List.take_length] at ok ⊢
      have okl := ok.len
      walk_at "go"
      refine newL_l fun found => ?_
      walk_at "go"
      intro od2 vs2
      walk_at "go"
      rw [dF_keys]
      refine forMP (as := Mk) (f := cD) (fun i δ ls' => ∃ w : Option J.D, ls' = (found, .lst ((((Mk.take i).filter (lvN L bs ss)).map cD).map .d)) :: (alive, .dct (dF L fun _ => .d (.bool true))) :: (counts, .dctL od2 vs2 (dF Mk (fD fun x => (M.cnt L x : Int)))) :: ls ∧
        δ = [some (.d (.list (A.map cD))), some (.d (.list (bs.map .int))), some (.d (.list (ss.map .int))), some (.a counts), some (.a alive), x, y, z, u, some (.a found), w]) ⟨_, rfl, rfl⟩ (fun i δ ls' ⟨w, e, _⟩ => ⟨2, by rw [e]; rfl⟩) (fun i c δ ls' hc hI => ?_) fun δ ls' hI => ?_
      · obtain ⟨w, rfl, rfl⟩ := hI
        have hi : i < Mk.length := (List.getElem?_eq_some_iff.mp hc).1
        have hcm : c ∈ Mk := List.mem_of_getElem? hc
        have fl : ((Mk.take i).filter (lvN L bs ss)).length ≤ i := Nat.le_trans (List.length_filter_le _ _) (by rw [List.length_take]; omega)
        have fin : (Mk.take (i + 1)).filter (lvN L bs ss) = (Mk.take i).filter (lvN L bs ss) ++ (if lvN L bs ss c = true then [c] else []) := by
          rw [List.take_add_one, hc, List.filter_append]
          congr 1
          cases h : lvN L bs ss c <;> simp [h]
        walk_at "go"
        refine ⟨_, ⟨1, _, rfl, _, rfl, rfl⟩, ?_⟩
        walk_at "w"
        rw [dF_get]
        by_cases hL : c ∈ L
        · have e : lvN L bs ss c = decide ((M.cnt L c : Int) ∈ ss) := by unfold lvN lv; simp [hL]
          rw [if_pos hL]
          walk_at "go"
          refine ⟨_, _, rfl, by rw [dF_get, if_pos hcm], ?_⟩
          walk_at "w"
          refine ⟨_, ⟨⟨int_shape _, ints_shape ss⟩, rfl⟩, ?_⟩
          walk_at "w"
          rw [any_int, ← e]
          refine ifB (fun h1 => ?_) fun h1 => ?_
          · walk_at "go"
            exact ⟨_, by rw [fin, if_pos h1]; simp, rfl⟩
          · walk_at "go"
            refine ⟨_, ⟨1, _, rfl, _, rfl, rfl⟩, ?_⟩
            walk_at "w"
            rw [dF_get, if_pos hL]
            walk_at "go"
            exact ⟨_, by rw [fin, if_neg (by rw [h1]; decide), List.append_nil], rfl⟩
        · have e : lvN L bs ss c = decide ((M.cnt L c : Int) ∈ bs) := by
            unfold lvN lv
            by_cases h1 : (M.cnt L c : Int) ∈ bs
            · have := hb1 _ h1
              have h2 : 1 ≤ M.cnt L c := by omega
              simp [hL, h1, h2]
            · simp [hL, h1]
          rw [if_neg hL]
          walk_at "go"
          refine ⟨_, ⟨1, _, rfl, _, rfl, rfl⟩, ?_⟩
          walk_at "w"
          rw [dF_get, if_neg hL]
          walk_at "go"
          refine ⟨_, _, rfl, by rw [dF_get, if_pos hcm], ?_⟩
          walk_at "w"
          refine ⟨_, ⟨⟨int_shape _, ints_shape bs⟩, rfl⟩, ?_⟩
          walk_at "w"
          rw [any_int, ← e]
          refine ifB (fun h1 => ?_) fun h1 => ?_
          · walk_at "go"
            exact ⟨_, by rw [fin, if_pos h1]; simp, rfl⟩
          · walk_at "go"
            exact ⟨_, by rw [fin, if_neg (by rw [h1]; decide), List.append_nil], rfl⟩
      · obtain ⟨w, rfl, rfl⟩ := hI
        rw [List.take_length]
        walk_at "go"
        refine ⟨0, _, _, rfl, rfl, ?_⟩
        rw [nxt_of nd hm ok.nd fun x hx => by
          rcases hx with hx | hx
          · exact ok.has x hx
          · exact ok.pos x (by omega)]
        walk_at "go"
        exact ⟨3, h⟩
  · exact h.elim

@[reducible] def js_law_due : JSp := fun ds ls Q => match ds with
  | [.d (.list ws), .d (.int l0), .d (.int j0), .d (.list b), .d (.list s)] => ∃ (cs : List Cell) (bs ss : List Int) (k j : Nat), (ws = cs.map cD ∧ l0 = ((k + 2 : Nat) : Int) ∧ j0 = (j : Int) ∧ k ≤ 4 ∧ j ≤ k ∧ b = bs.map .int ∧ s = ss.map .int ∧ Lt cs ∧ inQ (k + 2) cs ∧ ∀ b ∈ bs, 1 ≤ b) ∧
      Q (.d (csD (winC (itL bs ss (2 ^ j) cs) (2 ^ k) (2 ^ k) (2 ^ (k + 1))))) ls
  | _ => False
abbrev s__law_due : Stmt := topS 15
theorem sc__law_due : FnScope ["cells", "level", "j", "births", "survival", "now", "turn", "quarter", "r", "c"] ["cells", "level", "j", "births", "survival"] (defScope s__law_due) := ⟨rfl, rfl, rfl, by decide +kernel, rfl, by decide +kernel, by decide +kernel⟩
theorem bd__law_due : BindsH "_law_due" "_law_due" s__law_due ["cells", "level", "j", "births", "survival"] := fun _ _ _ _ _ _ us hl => match us, hl with | [_, _, _, _, _], _ => rfl

theorem cal_law_due (T : Tx K mg C) (D : Df K mg "_law_due" s__law_due) (c__law_next : Cal P w K mg base 1 "_law_next" ["cells", "births", "survival"] js_law_next) : Cal P w K mg base 2 "_law_due" ["cells", "level", "j", "births", "survival"] js_law_due := by
  refine D.cal bd__law_due sc__law_due (by unfold js_law_due; walk_at "len") fun f cdv A outer s H E hr => ⟨_, (pbCons (psAsg (pvJ 0) (pgName (i := 5) sc__law_due.nd)) (pbCons (psFr PassesOwn.never rfl (piRng1 rfl T.b_range (paCons (pjOp ojShl pintJ (pvJ 2)) paNil)) (pgName (i := 6) sc__law_due.nd) (pbOne (psAsg (pjC c__law_next hr (paCons (pvJ 5) (paCons (pvJ 3) (paCons (pvJ 4) paNil)))) (pgName (i := 5) sc__law_due.nd)))) (pbCons (psAsg (pjOp ojFdiv (pjOp ojShl pintJ (pvJ 1)) pintJ) (pgName (i := 7) sc__law_due.nd)) (pbOne (psRet (pjLC (vs := [8, 9]) rfl sc__law_due.nd (blkOk_by (N := ["cells", "level", "j", "births", "survival", "now", "turn", "quarter", "r", "c"]) (sc := defScope s__law_due) (own := [("r", 8), ("c", 9)]) (by decide +kernel)) (piList (pvJ 5)) (pgcTup2 8 9 (by simp) (by simp) fun _ _ _ _ _ => pg_tup rfl (pgs_cons (pg_name (i := 8) sc__law_due.nd rfl (by first | exact .inl rfl | exact .inr rfl)) (pgs_cons (pg_name (i := 9) sc__law_due.nd rfl (by first | exact .inl rfl | exact .inr rfl)) pgs_nil))) (ptsU (fun _ _ _ _ _ => rfl) fun _ _ _ _ _ => (PWJ.pt (pwAnd (ptChain ojLe ojLt (pvJ 7) (pvJ 8) (pjOp ojMul pintJ (pvJ 7))) (pwAnd1 (ptChain ojLe ojLt (pvJ 7) (pvJ 9) (pjOp ojMul pintJ (pvJ 7))))))) (pesU (fun _ _ _ _ _ => rfl) fun _ _ _ _ _ => (pjTup (paCons (pjOp ojSub (pvJ 8) (pvJ 7)) (paCons (pjOp ojSub (pvJ 9) (pvJ 7)) paNil)))))))))), fun ds ls R h => ?_⟩
  unfold js_law_due at h
  split at h
  · obtain ⟨cs, bs, ss, k, j, ⟨rfl, rfl, rfl, hk, hjk, rfl, rfl, hlt, hin, hb⟩, h⟩ := h
    have h64 : (2 : Int) ^ (k + 2) ≤ 64 := p2le (j := k + 2) (k := 6) (by omega)
    have h16 : 2 ^ j ≤ 2 ^ 4 := Nat.pow_le_pow_right (by decide) (show j ≤ 4 by omega)
    have hbx : ∀ n : Nat, n ≤ 16 → (itL bs ss n cs).length ≤ 9216 := fun n hn => inB_len (m := 96) (itL_inB (bs := bs) (ss := ss) (inQ_inB hin) n) (itL_nodup hlt n) (by omega)
    have e2 : (1 : Int) * 2 ^ ((j : Nat) : Int).toNat = ((2 ^ j : Nat) : Int) := by
      rw [shl1]; push_cast; rfl
    generalize 2 ^ j = t at h h16 e2
    walk_at "w"
    walk_at "gx"
    rw [e2]
    refine forR (fun v δ ls' => ∃ (z1 : Option J.D), ls' = ls ∧
      δ = [some (.d (.list (cs.map cD))), some (.d (.int ((k + 2 : Nat) : Int))), some (.d (.int (j : Nat))), some (.d (.list (bs.map .int))), some (.d (.list (ss.map .int))), some (.d (csD (itL bs ss v cs))), z1, none, none, none])
      ⟨_, rfl, rfl⟩ (fun v δ ls' hv hI => ?_) fun δ ls' hI => ?_
    · obtain ⟨z1, rfl, rfl⟩ := hI
      walk_at "gx"
      refine ⟨_, bs, ss, ⟨rfl, rfl, rfl, by have := hbx v (by omega); omega, hb⟩, ?_⟩
      walk_at "gx"
      exact ⟨_, rfl, rfl⟩
    · obtain ⟨z1, rfl, rfl⟩ := hI
      walk_at "gx"
      have e4 : (1 : Int) * 2 ^ ((k + 2 : Nat) : Int).toNat / 4 = 2 ^ k := by rw [shl1, p2s, p2s]; omega
      rw [show (fun (i j : Int) => PyData.int (i / j)) (1 * 2 ^ ((k + 2 : Nat) : Int).toNat) 4 = .int (2 ^ k) from congrArg PyData.int e4]
      refine compM (as := itL bs ss t cs) (src := cD) (fun x => if decide ((2 : Int) ^ k ≤ x.1 ∧ x.1 < 3 * 2 ^ k ∧ 2 ^ k ≤ x.2 ∧ x.2 < 3 * 2 ^ k) = true then some (.d (cD (x.1 - 2 ^ k, x.2 - 2 ^ k))) else none) trivial (by rw [sizeLine_eq]; have := hbx t (by omega); omega) (fun j x acc W hx hz k1 k2 => ?_) ?_
      · have no : ¬ ((2 : Int) ^ k ≤ x.1 ∧ x.1 < 3 * 2 ^ k ∧ 2 ^ k ≤ x.2 ∧ x.2 < 3 * 2 ^ k) → W acc _ := fun z => k2 (if_neg (by rw [decide_eq_true_eq]; exact z))
        walk_at "ge"
        refine ifD (fun e1 => ?_) fun e1 => ?_
        · walk_at "ge"
          refine ifD (fun e2 => ?_) fun e2 => ?_
          · walk_at "ge"
            refine ifD (fun e3 => ?_) fun e3 => ?_
            · walk_at "ge"
              refine ifD (fun e4 => ?_) fun e4 => ?_
              · walk_at "ge"
                exact k1 _ (if_pos (decide_eq_true ⟨e1, e2, e3, e4⟩))
              · exact no fun z => e4 z.2.2.2
            · walk_at "ge"
              exact no fun z => e3 z.2.2.1
          · exact no fun z => e2 z.2.1
        · walk_at "ge"
          exact no fun z => e1 z.1
      · rw [fm_win3]
        refine newL_d rfl ?_
        walk_at "gx"
        exact h
  · exact h.elim

/-- a known square: its number, its level, its cells -/
@[reducible] def kE (e : Kn) : PyData := .tuple [.int (e.1 : Nat), .int (e.2.2 : Nat), .list (e.2.1.map cD)]
@[reducible] def js_law_joined (C : Cs) : JSp := fun ds ls Q => match ds with
  | [.a p, .a q, .d (.int x)] => ∃ (A : SA) (bs ss : List Int) (S : SS) (F : List Tr) (G : List (Tr × Nat)) (kn : List Kn),
      (p = A.p ∧ ls = (q, .lst ((kn.map kE).map .d)) :: stC C A bs ss S ∧ 0 ≤ x ∧ 0 < kn.length ∧ kn.length ≤ 100 ∧ SOk bs ss S F G ∧ F.length ≤ 15000000 ∧ ∀ e ∈ kn, KnOk S e ∧ 2 ≤ e.2.2 ∧ e.2.2 ≤ 5) ∧
      ∀ (S' : SS) (F' : List Tr) (e : Kn), SOk bs ss S' F' G → (∀ u ∈ F, u ∈ F') → F'.length ≤ F.length + 1000 → S.le S' → KnOk S' e → 2 ≤ e.2.2 → e.2.2 ≤ 5 → Q (.d (kE e)) ((q, .lst ((kn.map kE).map .d)) :: stC C A bs ss S')
  | _ => False
abbrev s__law_joined : Stmt := topS 16
theorem sc__law_joined : FnScope ["store", "squares", "x", "level", "parts", "cells", "k", "row", "part", "quarter", "r", "c"] ["store", "squares", "x"] (defScope s__law_joined) := ⟨rfl, rfl, rfl, by decide +kernel, rfl, by decide +kernel, by decide +kernel⟩
theorem bd__law_joined : BindsH "_law_joined" "_law_joined" s__law_joined ["store", "squares", "x"] := fun _ _ _ _ _ _ us hl => match us, hl with | [_, _, _], _ => rfl

theorem cal_law_joined (T : Tx K mg C) (D : Df K mg "_law_joined" s__law_joined) (m_Store_empty : Cam P w K mg base 2 C.Store "empty" ["self", "level"] (Fr (js_empty C))) (m_Store_middle : Cam P w K mg base 2 C.Store "middle" ["self", "square"] (Fr (js_middle C))) (m_Store_joined : Cam P w K mg base 1 C.Store "joined" ["self", "a", "b", "c", "d"] (Fr (js_joined C))) :
    Cal P w K mg base 3 "_law_joined" ["store", "squares", "x"] (Fr (js_law_joined C)) := by
  refine (D.calP (js := js_law_joined C) bd__law_joined sc__law_joined (by unfold js_law_joined; walk_at "len") fun f cdv A outer s H E hr => ⟨_, (pbCons (psAsg (pjOp ojAdd pintJ (pjOp ojMod (pvJ 2) pintJ)) (pgName (i := 3) sc__law_joined.nd)) (pbCons (psAsg (pjLst paNil) (pgName (i := 4) sc__law_joined.nd)) (pbCons (psAsg (pjLst paNil) (pgName (i := 5) sc__law_joined.nd)) (pbCons (psFr PassesOwn.never rfl (piRng1 rfl T.b_range (paCons pintJ paNil)) (pgName (i := 6) sc__law_joined.nd) (pbCons (psAsg (pjIx (ixJ (hu1 hr)) (pvJ 1) (pjOp ojMod (pjOp ojFdiv (pjOp ojFdiv (pvJ 2) pintJ) (pjOp ojAdd (pjOp ojMul pintJ (pvJ 6)) pintJ)) (pjBi cjLen T.b_len (paCons (pvJ 1) paNil)))) (pgName (i := 7) sc__law_joined.nd)) (pbCons (psAsg (pjMt T.cl_Store m_Store_empty hr (pvJ 0) (paCons (pvJ 3) paNil)) (pgName (i := 8) sc__law_joined.nd)) (pbCons (psMid (psIf (ptCmp (ojEq (hu64 hr)) (pjIx (ixJ (hu1 hr)) (pvJ 7) pintJ) (pjOp ojAdd (pvJ 3) pintJ) (nomark _)) (pbCons (psAsg (pjMt T.cl_Store m_Store_middle hr (pvJ 0) (paCons (pjIx (ixJ (hu1 hr)) (pvJ 7) pintJ) paNil)) (pgName (i := 8) sc__law_joined.nd)) (pbCons (psAsg (pjOp ojFdiv (pjOp ojShl pintJ (pjIx (ixJ (hu1 hr)) (pvJ 7) pintJ)) pintJ) (pgName (i := 9) sc__law_joined.nd)) (pbOne (psFr PassesOwn.never rfl (piList (pjIx (ixJ (hu1 hr)) (pvJ 7) pintJ)) (pgTup rfl (pgCons (pgName (i := 10) sc__law_joined.nd) (pgCons (pgName (i := 11) sc__law_joined.nd) pgNil))) (pbOne (psIf (PWJ.pt (pwAnd (ptChain ojLe ojLt (pvJ 9) (pvJ 10) (pjOp ojMul pintJ (pvJ 9))) (pwAnd1 (ptChain ojLe ojLt (pvJ 9) (pvJ 11) (pjOp ojMul pintJ (pvJ 9)))))) (pbOne (psExpr (pjApp (pvJ 5) (pjTup (paCons (pjOp ojAdd (pjOp ojSub (pvJ 10) (pvJ 9)) (pjOp ojMul (pjOp ojFdiv (pvJ 6) pintJ) (pjOp ojShl pintJ (pvJ 3)))) (paCons (pjOp ojAdd (pjOp ojSub (pvJ 11) (pvJ 9)) (pjOp ojMul (pjOp ojMod (pvJ 6) pintJ) (pjOp ojShl pintJ (pvJ 3)))) paNil)))))) pbNil)))))) pbNil)) (pbOne (psExpr (pjApp (pvJ 4) (pvJ 8)))))))) (pbOne (psRet (pjTup (paCons (pjMt T.cl_Store m_Store_joined hr (pvJ 0) (paCons (pjIx (ixJ (hu1 hr)) (pvJ 4) pintJ) (paCons (pjIx (ixJ (hu1 hr)) (pvJ 4) pintJ) (paCons (pjIx (ixJ (hu1 hr)) (pvJ 4) pintJ) (paCons (pjIx (ixJ (hu1 hr)) (pvJ 4) pintJ) paNil))))) (paCons (pjOp ojAdd (pvJ 3) pintJ) (paCons (pjBi (cjSort_cells hr) T.b_sorted (paCons (pvJ 5) paNil)) paNil)))))))))), fun ds ls R h => ?_⟩).fr
  unfold js_law_joined at h
  split at h
  · rename_i p q x
    obtain ⟨A, bs, ss, S, F, G, kn, ⟨rfl, rfl, hx, hk0, hk1, O, hFl, hk⟩, h⟩ := h
    walk_at "ge"
    obtain ⟨m, hm, hm2⟩ : ∃ m : Nat, 1 + x % 3 = ((m + 1 : Nat) : Int) ∧ m ≤ 2 := ⟨(x % 3).toNat, by omega, by omega⟩
    rw [hm]
    refine newL_l fun qp => ?_
    walk_at "ge"
    refine newL_l fun qc => ?_
    walk_at "ge"
    have hFL : (F ++ (lE 4 ++ kn.map fun e => md (e.2.2 - 2) (mem e.2.1))).length ≤ F.length + 105 := by rw [List.length_append, List.length_append, List.length_map, lE_len]; omega
    have O1 : SOk bs ss S (F ++ (lE 4 ++ kn.map fun e => md (e.2.2 - 2) (mem e.2.1))) G := O.mono (fun u hu => List.mem_append_left _ hu) (fun u hu => hu) (by omega) O.bigG
    have hemp : ∀ j, j ≤ 4 → emp j ∈ F ++ (lE 4 ++ kn.map fun e => md (e.2.2 - 2) (mem e.2.1)) := fun j hj => List.mem_append_right _ (List.mem_append_left _ (lE_mem hj))
    have hmd : ∀ e ∈ kn, md (e.2.2 - 2) (mem e.2.1) ∈ F ++ (lE 4 ++ kn.map fun e => md (e.2.2 - 2) (mem e.2.1)) := fun e he => List.mem_append_right _ (List.mem_append_right _ (List.mem_map_of_mem (f := fun e : Kn => md (e.2.2 - 2) (mem e.2.1)) he))
    have hsubF : ∀ u ∈ F, u ∈ F ++ (lE 4 ++ kn.map fun e => md (e.2.2 - 2) (mem e.2.1)) := fun u hu => List.mem_append_left _ hu
    generalize F ++ (lE 4 ++ kn.map fun e => md (e.2.2 - 2) (mem e.2.1)) = F1 at hFL O1 hemp hmd hsubF
    have h8 : (2 : Int) ^ (m + 1) ≤ 8 := p2le (j := m + 1) (k := 3) (by omega)
    have h0 := p2p m
    refine forR (fun i δ ls' => ∃ (S2 : SS) (ms : List Nat) (ws : List (List Cell)) (x1 x2 x3 x4 x5 x6 : Option J.D), SOk bs ss S2 F1 G ∧ S.le S2 ∧ ms.length = i ∧ ws.length = i ∧ (∀ (j mm : Nat) (w : List Cell), ms[j]? = some mm → ws[j]? = some w → Dnt S2.ks mm (bld (m + 1) (mem w))) ∧ (∀ w ∈ ws, inQ (m + 1) w ∧ w.Nodup) ∧
      ls' = (qc, .lst (((jc (m + 1) 0 ws).map cD).map .d)) :: (qp, .lst ((ms.map fun n : Nat => PyData.int (n : Nat)).map .d)) :: (q, .lst ((kn.map kE).map .d)) :: stC C A bs ss S2 ∧ δ = [some (.a A.p), some (.a q), some (.d (.int x)), some (.d (.int ((m + 1 : Nat) : Int))), some (.a qp), some (.a qc), x1, x2, x3, x4, x5, x6])
      ⟨S, [], [], _, _, _, _, _, _, O1, S.le_refl, rfl, rfl, by simp, by simp, rfl, rfl⟩ (fun i δ ls' hi hI => ?_) fun δ ls' hI => ?_
    · obtain ⟨S2, ms, ws, x1, x2, x3, x4, x5, x6, O2, le2, hms, hws, hd, hw, rfl, rfl⟩ := hI
      walk_at "ge"
      obtain ⟨e, he, hat⟩ := at_mod (fun e => J.D.d (kE e)) hk0 (x / 9 / (5 * (0 + (i : Int)) + 1))
      have hat2 : atI ((kn.map kE).map J.D.d) (x / 9 / (5 * (0 + (i : Int)) + 1) % (kn.length : Int)) = some (J.D.d (kE e)) := by rw [List.map_map]; exact hat
      rw [List.length_map, List.length_map]
      walk_at "ge"
      refine ⟨_, hat2, ?_⟩
      walk_at "ge"
      have hke := hk e he
      have hmde := hmd e he
      obtain ⟨n, cs, l⟩ := e
      obtain ⟨k1, hl2, hl5⟩ := hke
      dsimp only at hl2 hl5 hmde
      have hlt := k1.lt
      have hin := k1.inq
      have kd := k1.dn.le le2
      dsimp only at hlt hin kd
      have h32 : (2 : Int) ^ l ≤ 32 := p2le (j := l) (k := 5) hl5
      have hcl : cs.length ≤ 32 * 32 := inB_len (m := 32) (inQ_inB hin) (lt_nodup hlt) (by omega)
      have hjl : (jc (m + 1) 0 ws).length ≤ 64 * i := by
        have z := jc_len (l := m + 1) (n := 0) (ws := ws) (b := 64) fun w hw' => inB_len (m := 8) (inQ_inB (hw w hw').1) (hw w hw').2 (by omega)
        omega
      refine ⟨[_, _, _], _, .refl _, A, bs, ss, S2, F1, G, m + 1, ⟨rfl, rfl, rfl, O2, fun j hj => hemp j (by omega)⟩, fun S3 m3 O3 le3 _ d3 => ?_⟩
      walk_at "ge"
      have hd3 : ∀ (j mm : Nat) (w : List Cell), ms[j]? = some mm → ws[j]? = some w → Dnt S3.ks mm (bld (m + 1) (mem w)) := fun j mm w h1 h2 => (hd j mm w h1 h2).le le3
      have kd := kd.le le3
      refine ⟨fun δ ls' => ∃ (S4 : SS) (mm : Nat) (w : List Cell) (y1 y2 y3 : Option J.D), SOk bs ss S4 F1 G ∧ S3.le S4 ∧ Dnt S4.ks mm (bld (m + 1) (mem w)) ∧ inQ (m + 1) w ∧ w.Nodup ∧
        ls' = (qc, .lst (((jc (m + 1) 0 ws ++ w.map (sf (m + 1) i)).map cD).map .d)) :: (qp, .lst ((ms.map fun n : Nat => PyData.int (n : Nat)).map .d)) :: (q, .lst ((kn.map kE).map .d)) :: stC C A bs ss S4 ∧ δ = [some (.a A.p), some (.a q), some (.d (.int x)), some (.d (.int ((m + 1 : Nat) : Int))), some (.a qp), some (.a qc), some (.d (.int (0 + (i : Int)))), some (.d (kE (n, cs, l))), some (.d (.int (mm : Nat))), y1, y2, y3], ?_, fun δ ls2 hI => ?_⟩
      · walk_at "ge"
        refine ifD (fun e1 => ?_) fun e1 => ?_
        · obtain rfl : l = m + 2 := by
            have e1 : ((l : Nat) : Int) = ((m + 1 : Nat) : Int) + 1 := e1
            omega
          walk_at "ge"
          refine ⟨[_, _, _], _, .refl _, A, bs, ss, S3, F1, G, n, m, mem cs, ⟨rfl, rfl, rfl, O3, kd, hmde⟩, fun S4 m4 O4 le4 d4 => ?_⟩
          rw [md_winC] at d4
          walk_at "ge"
          have e4 : (1 : Int) * 2 ^ ((m + 2 : Nat) : Int).toNat / 4 = 2 ^ m := by rw [shl1, p2s, p2s]; omega
          rw [show (fun (i j : Int) => PyData.int (i / j)) (1 * 2 ^ ((m + 2 : Nat) : Int).toNat) 4 = .int (2 ^ m) from congrArg PyData.int e4]
          refine forM (as := cs) (f := cD) (fun t δ ls' => ∃ (y2 y3 : Option J.D), ls' = (qc, .lst (((jc (m + 1) 0 ws ++ (cs.take t).filterMap (jG m i)).map cD).map .d)) :: (qp, .lst ((ms.map fun n : Nat => PyData.int (n : Nat)).map .d)) :: (q, .lst ((kn.map kE).map .d)) :: stC C A bs ss S4 ∧ δ = [some (.a A.p), some (.a q), some (.d (.int x)), some (.d (.int ((m + 1 : Nat) : Int))), some (.a qp), some (.a qc), some (.d (.int (0 + (i : Int)))), some (.d (kE (n, cs, m + 2))), some (.d (.int (m4 : Nat))), some (.d (.int (2 ^ m))), y2, y3])
            ⟨_, _, by simp, rfl⟩ (fun t c δ ls' hc hI => ?_) fun δ ls' hI => ?_
          · obtain ⟨y2, y3, rfl, rfl⟩ := hI
            have ht := (List.getElem?_eq_some_iff.mp hc).1
            have hfl : ((cs.take t).filterMap (jG m i)).length ≤ t := Nat.le_trans (List.length_filterMap_le _ _) (by rw [List.length_take]; omega)
            have no : ¬ ((2 : Int) ^ m ≤ c.1 ∧ c.1 < 3 * 2 ^ m ∧ 2 ^ m ≤ c.2 ∧ c.2 < 3 * 2 ^ m) → (cs.take (t + 1)).filterMap (jG m i) = (cs.take t).filterMap (jG m i) := fun z => by
              rw [take_map_succ (jG m i) cs t c hc, show jG m i c = none from if_neg (by rw [decide_eq_true_eq]; exact z)]; simp
            walk_at "ge"
            refine ifD (fun e1 => ?_) fun e1 => ?_
            · walk_at "ge"
              refine ifD (fun e2 => ?_) fun e2 => ?_
              · walk_at "ge"
                refine ifD (fun e3 => ?_) fun e3 => ?_
                · walk_at "ge"
                  refine ifD (fun e4 => ?_) fun e4 => ?_
                  · walk_at "ge"
                    refine ⟨_, _, ?_, rfl⟩
                    have ec : PyData.tuple [.int (c.1 - 2 ^ m + (0 + (i : Int)) / 2 * (1 * 2 ^ ((m + 1 : Nat) : Int).toNat)), .int (c.2 - 2 ^ m + (0 + (i : Int)) % 2 * (1 * 2 ^ ((m + 1 : Nat) : Int).toNat))] = cD (sf (m + 1) i (c.1 - 2 ^ m, c.2 - 2 ^ m)) := by
                      unfold cD sf
                      rw [shl1, show (0 + (i : Int)) / 2 = ((i / 2 : Nat) : Int) by omega, show (0 + (i : Int)) % 2 = ((i % 2 : Nat) : Int) by omega]
                    rw [ec, take_map_succ (jG m i) cs t c hc, show jG m i c = some (sf (m + 1) i (c.1 - 2 ^ m, c.2 - 2 ^ m)) from if_pos (decide_eq_true ⟨e1, e2, e3, e4⟩)]
                    simp only [Option.toList, List.map_append, List.append_assoc]
                    rfl
                  · walk_at "ge"
                    exact ⟨_, _, by rw [no fun z => e4 z.2.2.2], rfl⟩
                · walk_at "ge"
                  exact ⟨_, _, by rw [no fun z => e3 z.2.2.1], rfl⟩
              · walk_at "ge"
                exact ⟨_, _, by rw [no fun z => e2 z.2.1], rfl⟩
            · walk_at "ge"
              exact ⟨_, _, by rw [no fun z => e1 z.1], rfl⟩
          · obtain ⟨y2, y3, rfl, rfl⟩ := hI
            walk_at "ge"
            rw [List.take_length, jG_all]
            exact ⟨S4, m4, _, _, _, _, O4, le4, d4, winC_inQ _ _ _ _, lt_nodup (winC_lt hlt _ _ _), rfl, rfl⟩
        · walk_at "ge"
          exact ⟨S3, m3, [], _, _, _, O3, S3.le_refl, by rw [bld_nil]; exact d3, fun x hx => (by cases hx), List.nodup_nil, by simp, rfl⟩
      · obtain ⟨S4, mm, w, y1, y2, y3, O4, le4, d4, hwi, hwn, rfl, rfl⟩ := hI
        walk_at "ge"
        refine ⟨S4, ms ++ [mm], ws ++ [w], _, _, _, _, _, _, O4, (le2.trans le3).trans le4, by simp [hms], by simp [hws], fun j m' w' hj1 hj2 => ?_, fun w' hw' => ?_, ?_, rfl⟩
        · by_cases hjl : j < ms.length
          · rw [List.getElem?_append_left hjl] at hj1
            rw [List.getElem?_append_left (by omega)] at hj2
            exact (hd3 j m' w' hj1 hj2).le le4
          · have hj3 : j = ms.length := by
              have := (List.getElem?_eq_some_iff.mp hj1).1
              simp at this; omega
            subst hj3
            rw [List.getElem?_append_right (by omega)] at hj1
            rw [List.getElem?_append_right (by omega), hws, hms] at hj2
            simp at hj1 hj2
            subst hj1
            subst hj2
            exact d4
        · rcases List.mem_append.mp hw' with h1 | h1
          · exact hw w' h1
          · simp at h1; subst h1; exact ⟨hwi, hwn⟩
        · rw [jc_snoc, hws, Nat.zero_add]
          simp only [List.map_append, List.map_cons, List.map_nil]
          rfl
    · obtain ⟨S2, ms, ws, x1, x2, x3, x4, x5, x6, O2, le2, hms, hws, hd, hw, rfl, rfl⟩ := hI
      match ms, hms, ws, hws with
      | [m0, m1, m2, m3], _, [w0, w1, w2, w3], _ =>
        have d0 := hd 0 m0 w0 rfl rfl
        have d1 := hd 1 m1 w1 rfl rfl
        have d2 := hd 2 m2 w2 rfl rfl
        have d3 := hd 3 m3 w3 rfl rfl
        obtain ⟨i0, n0⟩ := hw w0 (by simp)
        obtain ⟨i1, n1⟩ := hw w1 (by simp)
        obtain ⟨i2, n2⟩ := hw w2 (by simp)
        obtain ⟨i3, n3⟩ := hw w3 (by simp)
        have hN := srtC_lt (jc4_nodup i0 i1 i2 i3 n0 n1 n2 n3)
        have eb := jc4_bld i0 i1 i2 i3 (cs := srtC (jc (m + 1) 0 [w0, w1, w2, w3])) fun x => srtC_mem
        have hin : inQ (m + 2) (srtC (jc (m + 1) 0 [w0, w1, w2, w3])) := fun x hx => jc4_in i0 i1 i2 i3 x (srtC_mem.mp hx)
        generalize jc (m + 1) 0 [w0, w1, w2, w3] = jj at hN eb hin
        have O3 : SOk bs ss S2 (F1 ++ [bld (m + 1 + 1) (mem (srtC jj))]) G := O2.mono (fun u hu => List.mem_append_left _ hu) (fun u hu => hu) (by rw [List.length_append]; simp; omega) O.bigG
        walk_at "ge"
        refine ⟨[_, _, _], _, .refl _, A, bs, ss, S2, _, G, m0, m1, m2, m3, _, _, _, _, ⟨rfl, rfl, rfl, rfl, rfl, rfl, O3, d0, d1, d2, d3, by rw [← eb]; exact bld_ok _ _, by rw [← eb]; exact List.mem_append_right _ List.mem_cons_self⟩, fun S3 m4 O4 le4 _ _ d4 => ?_⟩
        rw [← eb] at d4
        walk_at "ge"
        refine ⟨0, _, jj, rfl, rfl, ?_⟩
        walk_at "ge"
        have fin := h S3 _ (m4, srtC jj, m + 2) O4 (fun u hu => List.mem_append_left _ (hsubF u hu)) (by rw [List.length_append]; simp; omega) (le2.trans le4) ⟨d4, hN, hin⟩ (by dsimp only; omega) (by dsimp only; omega)
        refine ⟨_, [_, _], .refl _, ?_⟩
        rw [show ((m + 1 : Nat) : Int) + 1 = ((m + 2 : Nat) : Int) by omega]
        exact fin
  · exact h.elim

/-- a table of futures -/
structure FwOk (bs ss : List Int) (S : SS) (kw : List ((Nat × Nat) × Nat)) : Prop where
  nd : (kw.map (·.1)).Nodup
  ok : ∀ e ∈ kw, ∃ k P, Dnt S.ks e.1.1 (bld (k + 2) P) ∧ e.1.2 ≤ k ∧ Dnt S.ks e.2 (fu bs ss k e.1.2 P)
theorem FwOk.le {bs ss : List Int} {S S' : SS} {kw : List ((Nat × Nat) × Nat)} (h : FwOk bs ss S kw) (l : S.le S') : FwOk bs ss S' kw := ⟨h.nd, fun e he => let ⟨k, P, h1, h2, h3⟩ := h.ok e he; ⟨k, P, h1.le l, h2, h3.le l⟩⟩
theorem FwOk.get {bs ss : List Int} {S : SS} {kw : List ((Nat × Nat) × Nat)} (h : FwOk bs ss S kw) (nd : S.ks.Nodup) {n m k j : Nat} {P : Pl} (d : Dnt S.ks n (bld (k + 2) P)) (dm : Dnt S.ks m (fu bs ss k j P)) : (gV (ftD kw) (fK (n, j))).getD (.d (.int (m : Nat))) = .d (.int (m : Nat)) := by
  rcases ftD_get (n, j) kw with ⟨_, g⟩ | ⟨m', g1, g⟩
  · rw [g]; rfl
  · rw [g]
    obtain ⟨k', P', d1, d2, d3⟩ := h.ok _ g1
    have e1 := d1.fn d
    have e2 := congrArg Tr.lev e1
    rw [bld_lev, bld_lev] at e2
    have e3 : k' = k := by omega
    subst e3
    rw [fu_eq d2 e1] at d3
    have e4 : m' = m := d3.inj nd dm
    rw [e4]; rfl
theorem FwOk.set {bs ss : List Int} {S : SS} {kw : List ((Nat × Nat) × Nat)} (h : FwOk bs ss S kw) (nd : S.ks.Nodup) {n m k j : Nat} {P : Pl} (d : Dnt S.ks n (bld (k + 2) P)) (hj : j ≤ k) (dm : Dnt S.ks m (fu bs ss k j P)) :
    ∃ kw', gP (ftD kw) (fK (n, j)) (.d (.int (m : Nat))) = ftD kw' ∧ FwOk bs ss S kw' ∧ kw'.length ≤ kw.length + 1 := by
  rcases ftD_get (n, j) kw with ⟨g1, g⟩ | ⟨m', g1, g⟩
  · refine ⟨kw ++ [((n, j), m)], ftD_put m g1, ⟨?_, fun e he => ?_⟩, by simp⟩
    · rw [List.map_append, List.nodup_append]
      exact ⟨h.nd, by simp, fun x hx y hy e => by simp at hy; subst hy; subst e; exact g1 hx⟩
    · rcases List.mem_append.mp he with he | he
      · exact h.ok e he
      · simp at he; subst he; exact ⟨k, P, d, hj, dm⟩
  · have z := h.get nd d dm
    rw [g] at z
    have e4 : m' = m := by
      have z : D.d (.int (m' : Nat)) = .d (.int (m : Nat)) := z
      injection z with z
      injection z with z
      exact Int.ofNat.inj z
    subst e4
    exact ⟨kw, ftD_same g1 h.nd, h, by omega⟩
theorem cutG_mem {α : Type} {xs : List α} {a b : Option Int} {x : α} (h : x ∈ cutG xs a b) : x ∈ xs := by
  unfold cutG at h
  exact List.mem_of_mem_drop (List.mem_of_mem_take h)
theorem cutG_len {α : Type} (xs : List α) (a b : Option Int) : (cutG xs a b).length ≤ xs.length := by
  unfold cutG
  rw [List.length_take, List.length_drop]
  omega
theorem perm4 {α : Type} (a b : α) (X Y W : List α) : (a :: b :: (X ++ (Y ++ W))).Perm ((X ++ W) ++ (a :: b :: Y)) := by
  have h1 : (X ++ (Y ++ W)).Perm ((X ++ W) ++ Y) := by rw [List.append_assoc]; exact List.Perm.append_left _ List.perm_append_comm
  have h2 : ([a, b] ++ ((X ++ W) ++ Y)).Perm ((X ++ W) ++ ([a, b] ++ Y)) := by
    rw [← List.append_assoc, ← List.append_assoc (X ++ W)]; exact List.Perm.append_right _ List.perm_append_comm
  exact (List.Perm.append_left [a, b] h1).trans h2
@[reducible] def kwG (k : Nat) (cs : List Cell) (bs ss : List Int) (j : Nat) : List Tr := FL (k + 2) cs ++ lF bs ss k j (mem cs)
/-- what the law's loop keeps -/
structure L30 (bs ss : List Int) (S : SS) (F : List Tr) (G : List (Tr × Nat)) (kn : List Kn) (kw : List ((Nat × Nat) × Nat)) (t : Nat) : Prop where
  O : SOk bs ss S F G
  fl : F.length ≤ 30000 + 10000 * t
  gl : G.length ≤ 10000 * t
  k0 : 0 < kn.length
  k1 : kn.length ≤ 4 + 2 * t
  kn : ∀ e ∈ kn, KnOk S e ∧ 2 ≤ e.2.2 ∧ e.2.2 ≤ 5
  w : FwOk bs ss S kw
  wl : kw.length ≤ t
@[reducible] def ls30 (C : Cs) (A : SA) (bs ss : List Int) (S : SS) (kn : List Kn) (kw : List ((Nat × Nat) × Nat)) (qs qk : Addr) : Ls := (qk, .dct (ftD kw)) :: (qs, .lst ((kn.map kE).map .d)) :: stC C A bs ss S
abbrev s_law : Stmt := topS 17
theorem sc_law : FnScope ["script", "births", "survival", "store", "squares", "k", "x", "level", "size", "cells", "known", "cell", "kept", "numbers", "number", "j", "told", "row"] ["script"] (defScope s_law) := ⟨rfl, rfl, rfl, by decide +kernel, rfl, by decide +kernel, by decide +kernel⟩
theorem bd_law : BindsH "law" "law" s_law ["script"] := fun _ _ _ _ _ _ us hl => match us, hl with | [_], _ => rfl

theorem body_law (T : Tx K mg C) (c__law_cell : Cal P w K mg base 1 "_law_cell" ["script", "k"] js_law_cell) (c__law_numbers : Cal P w K mg base 1 "_law_numbers" ["cell"] js_law_numbers) (mk_Rule : Cak P w K mg base 1 "Rule" C.Rule ["self", "births", "survival"] (js_rule_init C)) (mk_Store : Cak P w K mg base 1 "Store" C.Store ["self", "rule"] (js_store_init C))
    (c__law_some : Cal P w K mg base 2 "_law_some" ["cell", "count", "height", "width"] js_law_some) (c__law_due : Cal P w K mg base 2 "_law_due" ["cells", "level", "j", "births", "survival"] js_law_due) (c__law_joined : Cal P w K mg base 3 "_law_joined" ["store", "squares", "x"] (Fr (js_law_joined C))) (m_Store_built : Cam P w K mg base 10 C.Store "built" ["self", "cells", "level"] (Fr (js_built C 7)))
    (m_Store_cells : Cam P w K mg base 9 C.Store "cells" ["self", "square"] (Fr (js_cells C 7))) (m_Store_level : Cam P w K mg base 1 C.Store "level" ["self", "square"] (Fr (js_level C))) (m_Store_future : Cam P w K mg base 14 C.Store "future" ["self", "square", "j"] (Fr (js_future C 5))) (m_Store_collected : Cam P w K mg base 10 C.Store "collected" ["self", "squares"] (Fr (js_collected C 7))) :
    BodyP P w K mg base 16 ["script", "births", "survival", "store", "squares", "k", "x", "level", "size", "cells", "known", "cell", "kept", "numbers", "number", "j", "told", "row"] "law" s_law js_law0 := by
  refine fun f cdv A outer s H E hr => ⟨_, (pbCons (psAsg (pjC c__law_numbers hr (paCons (pjC c__law_cell hr (paCons (pvJ 0) (paCons pintJ paNil))) paNil)) (pgTup rfl (pgCons (pgName (i := 1) sc_law.nd) (pgCons (pgName (i := 2) sc_law.nd) pgNil)))) (pbCons (psAsg (pjMk mk_Store hr (paCons (pjMk mk_Rule hr (paCons (pvJ 1) (paCons (pvJ 2) paNil))) paNil)) (pgName (i := 3) sc_law.nd)) (pbCons (psAsg (pjLst paNil) (pgName (i := 4) sc_law.nd)) (pbCons (psFr PassesOwn.never rfl (piRng1 rfl T.b_range (paCons pintJ paNil)) (pgName (i := 5) sc_law.nd) (pbCons (psAsg (pjBi cjAbs T.b_abs (paCons (pjTi cjInt T.b_int (paCons (pjC c__law_cell hr (paCons (pvJ 0) (paCons (pjOp ojAdd (pjOp ojMul pintJ (pvJ 5)) pintJ) paNil))) paNil)) paNil)) (pgName (i := 6) sc_law.nd)) (pbCons (psAsg (pjOp ojAdd pintJ (pjOp ojMod (pvJ 6) pintJ)) (pgName (i := 7) sc_law.nd)) (pbCons (psAsg (pjOp ojShl pintJ (pvJ 7)) (pgName (i := 8) sc_law.nd)) (pbCons (psAsg (pjC c__law_some hr (paCons (pjC c__law_cell hr (paCons (pvJ 0) (paCons (pjOp ojAdd (pjOp ojMul pintJ (pvJ 5)) pintJ) paNil))) (paCons (pjOp ojMod (pjOp ojFdiv (pvJ 6) pintJ) pintJ) (paCons (pvJ 8) (paCons (pvJ 8) paNil))))) (pgName (i := 9) sc_law.nd)) (pbOne (psExpr (pjApp (pvJ 4) (pjTup (paCons (pjMt T.cl_Store m_Store_built hr (pvJ 3) (paCons (pjRev (pvJ 9)) (paCons (pvJ 7) paNil))) (paCons (pvJ 7) (paCons (pvJ 9) paNil)))))))))))) (pbCons (psAsg pjDT (pgName (i := 10) sc_law.nd)) (pbCons (psFr PassesOwn.never rfl (piList (pjSl (pvJ 0) (poS pintJ) (poS pintJ))) (pgName (i := 11) sc_law.nd) (pbCons (psAsg (pjBi cjAbs T.b_abs (paCons (pjTi cjInt T.b_int (paCons (pvJ 11) paNil)) paNil)) (pgName (i := 6) sc_law.nd)) (pbCons (psMid (psIf (ptCmp (ojEq (hu64 hr)) (pjOp ojMod (pvJ 6) pintJ) pintJ (nomark _)) (pbOne (psExpr (pjApp (pvJ 4) (pjC c__law_joined hr (paCons (pvJ 3) (paCons (pvJ 4) (paCons (pjOp ojFdiv (pvJ 6) pintJ) paNil))))))) pbNil)) (pbCons (psMid (psIf (ptCmp (ojEq (hu64 hr)) (pjOp ojMod (pvJ 6) pintJ) pintJ (nomark _)) (pbCons (psAsg (pjOp ojAdd (pjSl (pvJ 4) (poS (pjOp ojMod (pjOp ojFdiv (pvJ 6) pintJ) (pjBi cjLen T.b_len (paCons (pvJ 4) paNil)))) poN) (pjSl (pvJ 4) poN (poS pintJ))) (pgName (i := 12) sc_law.nd)) (pbCons (psAsg (pjMt T.cl_Store m_Store_collected hr (pvJ 3) (paCons (pjLC (vs := [17]) rfl sc_law.nd (blkOk_by (N := ["script", "births", "survival", "store", "squares", "k", "x", "level", "size", "cells", "known", "cell", "kept", "numbers", "number", "j", "told", "row"]) (sc := defScope s_law) (own := [("row", 17)]) (by decide +kernel)) (piList (pvJ 12)) (pgcName 17 (by simp) fun _ _ _ _ _ => pg_name (i := 17) sc_law.nd rfl (by first | exact .inl rfl | exact .inr rfl)) ptsN (pesU (fun _ _ _ _ _ => rfl) fun _ _ _ _ _ => (pjIx (ixJ (hu1 hr)) (pvJ 17) pintJ))) paNil)) (pgTup rfl (pgCons (pgName (i := 3) sc_law.nd) (pgCons (pgName (i := 13) sc_law.nd) pgNil)))) (pbCons (psSLC (vs := [5]) (i := 4) rfl sc_law.nd (blkOk_by (N := ["script", "births", "survival", "store", "squares", "k", "x", "level", "size", "cells", "known", "cell", "kept", "numbers", "number", "j", "told", "row"]) (sc := defScope s_law) (own := [("k", 5)]) (by decide +kernel)) (piRng1 rfl T.b_range (paCons (pjBi cjLen T.b_len (paCons (pvJ 12) paNil)) paNil)) (pgcName 5 (by simp) fun _ _ _ _ _ => pg_name (i := 5) sc_law.nd rfl (by first | exact .inl rfl | exact .inr rfl)) ptsN (pesU (fun _ _ _ _ _ => rfl) fun _ _ _ _ _ => (pjTup (paCons (pjIx (ixJ (hu1 hr)) (pvJ 13) (pvJ 5)) (paCons (pjIx (ixJ (hu1 hr)) (pjIx (ixJ (hu1 hr)) (pvJ 12) (pvJ 5)) pintJ) (paCons (pjIx (ixJ (hu1 hr)) (pjIx (ixJ (hu1 hr)) (pvJ 12) (pvJ 5)) pintJ) paNil)))))) (pbOne (psAsg pjDT (pgName (i := 10) sc_law.nd)))))) pbNil)) (pbForg (pbCons (psAsg (pjIx (ixJ (hu1 hr)) (pvJ 4) (pjOp ojMod (pjOp ojFdiv (pvJ 6) pintJ) (pjBi cjLen T.b_len (paCons (pvJ 4) paNil)))) (pgTup rfl (pgCons (pgName (i := 14) sc_law.nd) (pgCons (pgName (i := 7) sc_law.nd) (pgCons (pgName (i := 9) sc_law.nd) pgNil))))) (pbCons (psAsg (pjOp ojMod (pjOp ojFdiv (pvJ 6) pintJ) (pjOp ojSub (pvJ 7) pintJ)) (pgName (i := 15) sc_law.nd)) (pbCons (psAsg (pjMt T.cl_Store m_Store_future hr (pvJ 3) (paCons (pvJ 14) (paCons (pvJ 15) paNil))) (pgName (i := 16) sc_law.nd)) (pbCons (psIf (PWJ.pt (pwOr (ptCmp (ojNe (hu64 hr)) (pjGt hr (pvJ 10) (pjTup (paCons (pvJ 14) (paCons (pvJ 15) paNil))) (pvJ 16)) (pvJ 16) (nomark _)) (pwOr (ptCmp (ojNe (hu64 hr)) (pjMt T.cl_Store m_Store_level hr (pvJ 3) (paCons (pvJ 16) paNil)) (pjOp ojSub (pvJ 7) pintJ) (nomark _)) (pwOr1 (ptCmp (ojNe (hu64 hr)) (pjMt T.cl_Store m_Store_level hr (pvJ 3) (paCons (pvJ 14) paNil)) (pvJ 7) (nomark _)))))) (pbOne (psRet pblJ)) pbNil) (pbCons (psAsg (pvJ 16) (pgSb hr (pvJ 10) (pjTup (paCons (pvJ 14) (paCons (pvJ 15) paNil))))) (pbOne (psIf (PWJ.pt (pwOr (ptCmp (ojNe (hu64 hr)) (pjMt T.cl_Store m_Store_cells hr (pvJ 3) (paCons (pvJ 16) paNil)) (pjC c__law_due hr (paCons (pvJ 9) (paCons (pvJ 7) (paCons (pvJ 15) (paCons (pvJ 1) (paCons (pvJ 2) paNil)))))) (nomark _)) (pwOr1 (ptCmp (ojNe (hu64 hr)) (pjMt T.cl_Store m_Store_cells hr (pvJ 3) (paCons (pvJ 14) paNil)) (pvJ 9) (nomark _))))) (pbOne (psRet pblJ)) pbNil)))))))))))) (pbOne (psRet pblJ)))))))), fun ds ls R h => ?_⟩
  unfold js_law0 at h
  split at h
  · rename_i ns
    obtain ⟨⟨hl, rfl⟩, h⟩ := h
    walk_at "gx"
    intro bs ss lb lss hb hs
    walk_at "gx"
    intro p
    walk_at "w"
    refine ⟨bs, ss, ⟨intsD_map _, intsD_map _, by omega, by omega⟩, 0, rfl, fun bs' ss' eb es => ?_⟩
    refine ⟨rfl, .inr ⟨0, _, ruleF bs' ss', rfl, rfl, ?_⟩⟩
    walk_at "gx"
    intro ps
    refine ⟨bs', ss', [], ⟨rfl, rfl, rfl⟩, fun A hA => ?_⟩
    subst hA
    refine ⟨rfl, .inl ?_⟩
    walk_at "gx"
    refine newL_l fun q => ?_
    walk_at "gx"
    refine forR (fun i δ ls' => ∃ (S : SS) (F : List Tr) (kn : List Kn) (x1 x2 x3 x4 x5 : Option J.D), SOk bs' ss' S F [] ∧ F.length ≤ 2 + 6000 * i ∧ Tr.lf false ∈ F ∧ Tr.lf true ∈ F ∧ kn.length = i ∧ (∀ e ∈ kn, KnOk S e ∧ 2 ≤ e.2.2 ∧ e.2.2 ≤ 5) ∧
      ls' = (q, .lst ((kn.map kE).map .d)) :: stC C A bs' ss' S ∧ δ = [some (.scr ns), some (.d (.list (bs.map .int))), some (.d (.list (ss.map .int))), some (.a A.p), some (.a q), x1, x2, x3, x4, x5, none, none, none, none, none, none, none, none])
      ⟨S0, [.lf false, .lf true], [], _, _, _, _, _, s0_ok bs' ss' (by simp) (by simp) (by decide) (by decide), by simp, by simp, by simp, rfl, by simp, rfl, rfl⟩ (fun i δ ls' hi hI => ?_) fun δ ls' hI => ?_
    · obtain ⟨S, F, kn, x1, x2, x3, x4, x5, O, hF, hF0, hF1, hkn, hk, rfl, rfl⟩ := hI
      have hi4 : i < 4 := by omega
      walk_at "gx"
      generalize hx : (if ns.getD (Int.toNat (2 * (0 + (i : Int)) + 1)) 0 < 0 then -ns.getD (Int.toNat (2 * (0 + (i : Int)) + 1)) 0 else ns.getD (Int.toNat (2 * (0 + (i : Int)) + 1)) 0) = x
      have hx0 : 0 ≤ x := by rw [← hx]; split <;> omega
      walk_at "gx"
      obtain ⟨k, hk4, hk3⟩ : ∃ k : Nat, 2 + x % 4 = ((k + 2 : Nat) : Int) ∧ k ≤ 3 := ⟨(x % 4).toNat, by omega, by omega⟩
      rw [hk4]
      rw [show (fun (i j : Int) => PyData.int (i * 2 ^ j.toNat)) 1 ((k + 2 : Nat) : Int) = .int (2 ^ (k + 2)) from congrArg PyData.int (shl1 (k + 2)), shl1]
      have h32 : (2 : Int) ^ (k + 2) ≤ 32 := p2le (j := k + 2) (k := 5) (by omega)
      have h0 := p2p (k + 2)
      refine ⟨⟨by omega, by omega, h0, h0, by omega, by omega⟩, fun cs hlt hlen hin _ => ?_⟩
      have hin : inQ (k + 2) cs := hin
      have hlen : cs.length ≤ 30 := by omega
      walk_at "gx"
      rw [← List.map_reverse]
      refine newL_d rfl ?_
      walk_at "gx"
      have mr : mem cs.reverse = mem cs := by
        have z := mem_rev cs 0
        rw [List.take_zero, List.append_nil] at z
        exact z
      have ir : inQ (k + 2) cs.reverse := fun x hx => hin x (List.mem_reverse.mp hx)
      have O1 : SOk bs' ss' S (F ++ FL (k + 2) cs) [] := O.mono (fun u hu => List.mem_append_left _ hu) (fun _ h => h) (by rw [List.length_append]; have := FL_len (l := k + 2) (cs := cs) (by omega); omega) (by simp)
      have hF2 : (F ++ FL (k + 2) cs).length ≤ 2 + 6000 * (i + 1) := by rw [List.length_append]; have := FL_len (l := k + 2) (cs := cs) (by omega); omega
      refine ⟨[_], _, .refl _, A, bs', ss', S, F ++ FL (k + 2) cs, [], k + 2, cs.reverse, ⟨rfl, rfl, rfl, rfl, by omega, by omega, ir, by rw [List.length_reverse]; omega, O1, fun u hu => List.mem_append_right _ (List.mem_append_left _ (by rw [mr] at hu; exact hu)), fun j hj => List.mem_append_right _ (List.mem_append_right _ (lE_mem hj))⟩, fun S2 m O2 le2 _ d2 => ?_⟩
      rw [mr] at d2
      walk_at "gx"
      refine ⟨S2, _, kn ++ [(m, cs, k + 2)], _, _, _, _, _, O2, hF2, List.mem_append_left _ hF0, List.mem_append_left _ hF1, by simp [hkn], fun e he => ?_, by rw [List.map_append, List.map_append]; rfl, rfl⟩
      rcases List.mem_append.mp he with he | he
      · exact ⟨(hk e he).1.le le2, (hk e he).2⟩
      · simp at he
        subst he
        exact ⟨⟨d2, hlt, hin⟩, by dsimp only; omega, by dsimp only; omega⟩
    · obtain ⟨S, F, kn, x1, x2, x3, x4, x5, O, hF, hF0, hF1, hkn, hk, rfl, rfl⟩ := hI
      walk_at "gx"
      intro qk
      walk_at "gx"
      have cl : (cutG ns (some 9) (some 17)).length ≤ 8 := by
        unfold cutG
        rw [List.length_take]
        have e1 : HT.sIx ns.length ns.length (some 17) ≤ 17 := by rw [show (17 : Int) = ((17 : Nat) : Int) from rfl, HT.sIx_nat]; omega
        have e2 : HT.sIx ns.length 0 (some 9) = min 9 ns.length := by rw [show (9 : Int) = ((9 : Nat) : Int) from rfl, HT.sIx_nat]
        rw [List.length_drop, e2]
        omega
      have hb1 : ∀ b ∈ bs, 1 ≤ b := fun b hb' => (hb b hb').1
      refine forM (as := cutG ns (some 9) (some 17)) (f := .int) (fun t δ ls' => ∃ (A : SA) (S : SS) (F : List Tr) (G : List (Tr × Nat)) (kn : List Kn) (kw : List ((Nat × Nat) × Nat)) (qs qk : Addr) (x1 x2 x3 x4 x5 x6 x7 x8 x9 x10 x11 : Option J.D), L30 bs' ss' S F G kn kw t ∧
        ls' = ls30 C A bs' ss' S kn kw qs qk ∧ δ = [some (.scr ns), some (.d (.list (bs.map .int))), some (.d (.list (ss.map .int))), some (.a A.p), some (.a qs), x1, x2, x3, x4, x5, some (.a qk), x6, x7, x8, x9, x10, x11, none])
        ⟨A, S, F, [], kn, [], q, qk, _, _, _, _, _, _, _, _, _, _, _, ⟨O, by omega, by simp, by omega, by omega, hk, ⟨List.nodup_nil, fun e he => by cases he⟩, by simp⟩, rfl, rfl⟩ (fun t y δ ls' hy hI => ?_) fun δ ls' hI => ?_
      · have ht := (List.getElem?_eq_some_iff.mp hy).1
        clear O hF hF0 hF1 hkn hk
        obtain ⟨A, S, F, G, kn, kw, qs, qk, x1, x2, x3, x4, x5, x6, x7, x8, x9, x10, x11, I, rfl, rfl⟩ := hI
        have I0 := I.k0
        have I1 := I.k1
        have If := I.fl
        have Ig := I.gl
        have Iw := I.wl
        walk_at "gx"
        generalize hx : (if y < 0 then -y else y) = x
        have hx0 : 0 ≤ x := by rw [← hx]; split <;> omega
        walk_at "gx"
        refine ⟨fun δ ls' => ∃ (S2 : SS) (F2 : List Tr) (kn2 : List Kn), SOk bs' ss' S2 F2 G ∧ F2.length ≤ F.length + 1000 ∧ S.le S2 ∧ 0 < kn2.length ∧ kn2.length ≤ kn.length + 1 ∧ (∀ e ∈ kn2, KnOk S2 e ∧ 2 ≤ e.2.2 ∧ e.2.2 ≤ 5) ∧ ls' = ls30 C A bs' ss' S2 kn2 kw qs qk ∧
          δ = [some (.scr ns), some (.d (.list (bs.map .int))), some (.d (.list (ss.map .int))), some (.a A.p), some (.a qs), x1, some (.d (.int x)), x3, x4, x5, some (.a qk), some (.d (.int y)), x7, x8, x9, x10, x11, none], ?_, fun δ ls2 hI => ?_⟩
        · walk_at "gx"
          refine ifD (fun e1 => ?_) fun e1 => ?_
          · walk_at "gx"
            refine ⟨[_], _, .refl _, A, bs', ss', S, F, G, kn, ⟨rfl, rfl, by omega, I0, by omega, I.O, by omega, I.kn⟩, fun S2 F2 e O2 hF2 hF3 le2 k2 l2 l5 => ?_⟩
            walk_at "gx"
            refine ⟨S2, F2, kn ++ [e], O2, hF3, le2, by simp, by simp, fun e' he' => ?_, by simp only [ls30, List.map_append, List.map_cons, List.map_nil]; rfl, rfl⟩
            rcases List.mem_append.mp he' with he | he
            · exact ⟨(I.kn e' he).1.le le2, (I.kn e' he).2⟩
            · simp at he
              subst he
              exact ⟨k2, l2, l5⟩
          · walk_at "gx"
            exact ⟨S, F, kn, I.O, by omega, S.le_refl, I0, by omega, I.kn, rfl, rfl⟩
        · obtain ⟨S2, F2, kn2, O2, hF2, le2, hk0, hk1, hk2, rfl, rfl⟩ := hI
          have W2 := I.w.le le2
          walk_at "gx"
          refine ⟨fun δ ls' => ∃ (A2 : SA) (S3 : SS) (kn3 : List Kn) (kw3 : List ((Nat × Nat) × Nat)) (qs2 qk2 : Addr) (Z : Ls) (z1 z2 z3 : Option J.D), SOk bs' ss' S3 F2 G ∧ 0 < kn3.length ∧ kn3.length ≤ kn2.length + 1 ∧ (∀ e ∈ kn3, KnOk S3 e ∧ 2 ≤ e.2.2 ∧ e.2.2 ≤ 5) ∧ FwOk bs' ss' S3 kw3 ∧ kw3.length ≤ t ∧ ls'.Perm (Z ++ ls30 C A2 bs' ss' S3 kn3 kw3 qs2 qk2) ∧
            δ = [some (.scr ns), some (.d (.list (bs.map .int))), some (.d (.list (ss.map .int))), some (.a A2.p), some (.a qs2), z1, some (.d (.int x)), x3, x4, x5, some (.a qk2), some (.d (.int y)), z2, z3, x9, x10, x11, none], ?_, fun δ ls2 hI => ?_⟩
          · walk_at "gx"
            refine ifD (fun e1 => ?_) fun e1 => ?_
            · walk_at "gx"
              rw [cutG_map, cutG_map, List.length_map, List.length_map]
              refine newL_d rfl ?_
              walk_at "gx"
              rw [cutG_map, cutG_map]
              refine newL_d rfl ?_
              have l1 := cutG_len kn2 (some (x / 7 % (kn2.length : Int))) none
              have e2 : cutG kn2 none (some 1) = kn2.take 1 := cut_take kn2 1
              have l2 : (cutG kn2 none (some 1)).length = 1 := by rw [e2, List.length_take]; omega
              walk_at "gx"
              refine .inl ?_
              rw [← List.map_append]
              have hks : ∀ e ∈ cutG kn2 (some (x / 7 % (kn2.length : Int))) none ++ cutG kn2 none (some 1), e ∈ kn2 := fun e he => (List.mem_append.mp he).elim cutG_mem cutG_mem
              have hkl : 0 < (cutG kn2 (some (x / 7 % (kn2.length : Int))) none ++ cutG kn2 none (some 1)).length ∧ (cutG kn2 (some (x / 7 % (kn2.length : Int))) none ++ cutG kn2 none (some 1)).length ≤ kn2.length + 1 := by rw [List.length_append]; omega
              generalize cutG kn2 (some (x / 7 % (kn2.length : Int))) none ++ cutG kn2 none (some 1) = ks at hks hkl
              walk_at "gx"
              refine compM (as := ks) (src := kE) (fun e => some (.d (.int (e.1 : Nat)))) trivial (by rw [sizeLine_eq]; omega) (fun j e acc W hx hz k1 k2 => ?_) ?_
              · walk_at "gx"
                exact k1 _ rfl
              · rw [fm_some]
                refine newL_d (ds := ks.map fun e => .int (e.1 : Nat)) (by rw [List.map_map]; rfl) ?_
                walk_at "gx"
                refine ⟨[_, _], _, .refl _, A, bs', ss', S2, F2, G, ks.map fun e => (e.1, bld e.2.2 (mem e.2.1)), ⟨rfl, rfl, by rw [List.map_map]; rfl, by rw [List.length_map]; omega, O2, fun e he => ?_⟩, fun A2 S3 ms O3 ft3 hms hm => ?_⟩
                · obtain ⟨e', he', rfl⟩ := List.mem_map.mp he
                  obtain ⟨k1, k2, k3⟩ := hk2 e' (hks e' he')
                  exact ⟨k1.dn, by rw [bld_lev]; omega⟩
                rw [List.length_map] at hms
                have O3 := O3.mono (F' := F2) (G' := G) (fun u hu => hu) (fun u hu => by cases hu) O2.big O2.bigG
                have hmt : ∀ (i m : Nat) (e : Kn), ms[i]? = some m → ks[i]? = some e → Dnt S3.ks m (bld e.2.2 (mem e.2.1)) := fun i m e h1 h2 => hm i m _ h1 (by rw [List.getElem?_map, h2]; rfl)
                walk_at "gx"
                rw [List.length_map]
                refine compRI (fun i acc ls' => ls' = [(qk, .dct (ftD kw)), (qs, .lst ((kn2.map kE).map .d))] ++ (stC C A2 bs' ss' S3 ++ stC C A bs' ss' S2) ∧ ∃ es : List Kn, acc = (es.map kE).map .d ∧ es.length = i ∧ ∀ e ∈ es, KnOk S3 e ∧ 2 ≤ e.2.2 ∧ e.2.2 ≤ 5) ⟨rfl, [], rfl, rfl, by simp⟩ (fun i acc ls' hi hI => ?_) fun acc ls' hI => ?_
                · obtain ⟨rfl, es, rfl, hes, hek⟩ := hI
                  have hi2 : i < ks.length := by omega
                  obtain ⟨e, he⟩ : ∃ e, ks[i]? = some e := ⟨_, List.getElem?_eq_getElem hi2⟩
                  obtain ⟨m, hm⟩ : ∃ m, ms[i]? = some m := ⟨_, List.getElem?_eq_getElem (by omega)⟩
                  have dm := hmt i m e hm he
                  obtain ⟨k1, k2, k3⟩ := hk2 e (hks e (List.mem_of_getElem? he))
                  have hat : atI (ks.map kE) (0 + (i : Int)) = some (kE e) := by rw [Int.zero_add]; exact atI_nat (by rw [List.getElem?_map, he]; rfl)
                  have hat2 : atI (ms.map fun m : Nat => PyData.int (m : Nat)) (0 + (i : Int)) = some (.int (m : Nat)) := by rw [Int.zero_add]; exact atI_nat (by rw [List.getElem?_map, hm]; rfl)
                  walk_at "gx"
                  refine ⟨_, hat2, ?_⟩
                  walk_at "gx"
                  refine ⟨_, hat, ?_⟩
                  walk_at "gx"
                  refine ⟨_, hat, ?_⟩
                  walk_at "gx"
                  refine ⟨es ++ [(m, e.2.1, e.2.2)], by simp only [List.map_append, List.map_cons, List.map_nil], by simp [hes], fun e' he' => ?_⟩
                  rcases List.mem_append.mp he' with h1 | h1
                  · exact hek e' h1
                  · simp at h1; subst h1; exact ⟨⟨dm, k1.lt, k1.inq⟩, k2, k3⟩
                · obtain ⟨rfl, es, rfl, hes, hek⟩ := hI
                  refine newL_l fun q2 => ?_
                  walk_at "gx"
                  intro qk2
                  walk_at "gx"
                  exact ⟨A2, S3, es, [], q2, qk2, _, _, _, _, O3, by omega, by omega, hek, ⟨List.nodup_nil, fun e he => by cases he⟩, by simp, perm4 _ _ [(qk, .dct (ftD kw)), (qs, .lst ((kn2.map kE).map .d))] (stC C A2 bs' ss' S3) (stC C A bs' ss' S2), rfl⟩
            · walk_at "gx"
              exact ⟨A, S2, kn2, kw, qs, qk, [], _, _, _, O2, hk0, by omega, hk2, W2, Iw, .refl _, rfl⟩
          · obtain ⟨A3, S3, kn3, kw3, qs3, qk3, Z, z1, z2, z3, O3, g0, g1, g2, W3, gw, gp, rfl⟩ := hI
            refine ⟨Z, _, gp, ?_⟩
            walk_at "gx"
            rw [List.length_map, List.length_map]
            obtain ⟨e, he, hat⟩ := at_mod (fun e => D.d (kE e)) g0 (x / 49)
            have hat2 : atI ((kn3.map kE).map D.d) (x / 49 % (kn3.length : Int)) = some (.d (kE e)) := by rw [List.map_map]; exact hat
            refine ⟨_, hat2, ?_⟩
            have ge := g2 e he
            obtain ⟨n, cs, l⟩ := e
            obtain ⟨k1, l2, l5⟩ := ge
            dsimp only at l2 l5
            obtain ⟨k, rfl⟩ : ∃ k, l = k + 2 := ⟨l - 2, by omega⟩
            have hk3 : k ≤ 3 := by omega
            have hlt := k1.lt
            have hin := k1.inq
            have kd := k1.dn
            dsimp only at hlt hin kd
            have epat := mem_pat2 hin hlt
            have h4 : (4 : Nat) ^ (k + 1) ≤ 4 ^ 4 := Nat.pow_le_pow_right (by decide) (by omega)
            have h44 : (4 : Nat) ^ 4 = 256 := by decide
            have h45 : (4 : Nat) ^ (k + 2) = 4 * 4 ^ (k + 1) := by rw [show k + 2 = k + 1 + 1 from rfl, Nat.pow_succ]; omega
            walk_at "gx"
            obtain ⟨j, hj, hjk⟩ : ∃ j : Nat, x / 343 % (((k + 2 : Nat) : Int) - 1) = (j : Int) ∧ j ≤ k := by
              have e1 := Int.emod_nonneg (x / 343) (show ((k + 2 : Nat) : Int) - 1 ≠ 0 by omega)
              have e2 := Int.emod_lt_of_pos (x / 343) (show (0 : Int) < ((k + 2 : Nat) : Int) - 1 by omega)
              exact ⟨(x / 343 % (((k + 2 : Nat) : Int) - 1)).toNat, by omega, by omega⟩
            have cf := cF_mono hk3
            have cg := cG_mono hk3
            rw [cF3] at cf
            rw [cG3] at cg
            have lf := lF_len (bs := bs') (ss := ss') k j (mem cs)
            have lg := lG_len (bs := bs') (ss := ss') k j (mem cs)
            have O4 : SOk bs' ss' S3 (F2 ++ lF bs' ss' k j (mem cs)) (G ++ lG bs' ss' k j (mem cs)) := O3.mono (fun u hu => List.mem_append_left _ hu) (fun u hu => List.mem_append_left _ hu) (by rw [List.length_append]; omega) (by rw [List.length_append]; omega)
            have hF4 : (F2 ++ lF bs' ss' k j (mem cs)).length ≤ 30000 + 10000 * (t + 1) := by rw [List.length_append]; omega
            have hG4 : (G ++ lG bs' ss' k j (mem cs)).length ≤ 10000 * (t + 1) := by rw [List.length_append]; omega
            refine ⟨[_, _], _, .refl _, A3, bs', ss', S3, F2 ++ lF bs' ss' k j (mem cs), G ++ lG bs' ss' k j (mem cs), n, k, j, mem cs, ⟨rfl, rfl, rfl, hj, by omega, hjk, O4, kd, fun u hu => List.mem_append_right _ hu, fun u hu => List.mem_append_right _ hu⟩, fun S5 m5 O5 le5 d5 => ?_⟩
            rw [show (fun (i j : Int) => PyData.int (i % j)) (x / 343) (((k + 2 : Nat) : Int) - 1) = .int (j : Int) from congrArg PyData.int hj]
            have W5 := W3.le le5
            have kd5 := kd.le le5
            have wg : (gV (ftD kw3) [Sum.inl (((n, cs, k + 2) : Kn).1 : Int), Sum.inl (j : Int)]).getD (.d (.int (m5 : Nat))) = .d (.int (m5 : Nat)) := W5.get O5.nd kd5 d5
            walk_at "gx"
            rw [wg]
            walk_at "w"
            refine ifNf (decide_eq_true rfl) ?_
            walk_at "gx"
            refine ⟨[_, _], _, .refl _, A3, bs', ss', S5, _, _, m5, _, ⟨rfl, rfl, rfl, O5, d5⟩, ?_⟩
            walk_at "gx"
            refine ifNf (decide_eq_true (by rw [fu, bld_lev]; dsimp only; omega)) ?_
            walk_at "gx"
            refine ⟨[_, _], _, .refl _, A3, bs', ss', S5, _, _, n, _, ⟨rfl, rfl, rfl, O5, kd5⟩, ?_⟩
            walk_at "gx"
            refine ifNf (decide_eq_true (by rw [bld_lev])) ?_
            obtain ⟨kw6, q1, q2, q3⟩ := W5.set O5.nd kd5 hjk d5
            have q1' : gP (ftD kw3) [Sum.inl (((n, cs, k + 2) : Kn).1 : Int), Sum.inl (j : Int)] (.d (.int (m5 : Nat))) = ftD kw6 := q1
            walk_at "gx"
            refine ⟨by unfold ftD; rw [List.length_map, sizeLine_eq]; omega, ?_⟩
            rw [q1']
            walk_at "gx"
            refine ⟨[_, _], _, .refl _, A3, bs', ss', S5, _, _, m5, _, ⟨rfl, rfl, rfl, by rw [fu, bld_lev]; omega, by rw [fu, bld_lev]; omega, by rw [fu]; have := bld_cnt_le (k + 1) (sh (itP bs' ss' (2 ^ j) (mem cs)) (2 ^ k) (2 ^ k)); omega, O5, d5⟩, ?_⟩
            rw [fu_pat eb es hb1 hlt k j]
            walk_at "gx"
            refine ⟨cs, bs, ss, k, j, ⟨rfl, rfl, rfl, by omega, hjk, rfl, rfl, hlt, hin, hb1⟩, ?_⟩
            walk_at "gx"
            refine ⟨⟨csD_shape _, csD_shape _⟩, ?_⟩
            rw [show PyData.eqv (csD (winC (itL bs ss (2 ^ j) cs) (2 ^ k) (2 ^ k) (2 ^ (k + 1)))) (csD (winC (itL bs ss (2 ^ j) cs) (2 ^ k) (2 ^ k) (2 ^ (k + 1)))) = true from (csD_eqv _ _).trans (decide_eq_true rfl)]
            walk_at "gx"
            refine ⟨[_, _], _, .refl _, A3, bs', ss', S5, _, _, n, _, ⟨rfl, rfl, rfl, by rw [bld_lev]; omega, by rw [bld_lev]; omega, by have := bld_cnt_le (k + 2) (mem cs); omega, O5, kd5⟩, ?_⟩
            rw [epat]
            walk_at "gx"
            refine ⟨⟨csD_shape _, csD_shape _⟩, ?_⟩
            rw [show PyData.eqv (csD cs) (.list (cs.map cD)) = true from (csD_eqv _ _).trans (decide_eq_true rfl)]
            walk_at "gx"
            exact ⟨A3, S5, _, _, kn3, kw6, qs3, qk3, _, _, _, _, _, _, _, _, _, _, _, ⟨O5, hF4, hG4, g0, by omega, fun e' he' => ⟨(g2 e' he').1.le le5, (g2 e' he').2⟩, q2, by omega⟩, rfl, rfl⟩
      · obtain ⟨A, S, F, G, kn, kw, qs, qk, x1, x2, x3, x4, x5, x6, x7, x8, x9, x10, x11, I, rfl, rfl⟩ := hI
        walk_at "gx"
        exact ⟨[], _, by rw [List.append_nil], h⟩
  · exact h.elim

end
theorem fin {l : PySem.W.OpenLaw} {w : World} {K : PySem.W.Frag} {h : Heap} {mg : Str → Option Value} {fa : Addr} {c_Store : Addr} {c_Rule : Addr} {p_AROUND_0 : Addr} {d_AROUND_0 : Option Addr} {n_AROUND_0 : Nat} {s_AROUND_0 : Array (Option Value)} {p_AROUND_1 : Addr} {d_AROUND_1 : Option Addr} {n_AROUND_1 : Nat} {s_AROUND_1 : Array (Option Value)} {t_AROUND_2 : Tok} {t_AROUND_3 : Tok} {p_AROUND_4 : Addr} {d_AROUND_4 : Option Addr} {n_AROUND_4 : Nat} {s_AROUND_4 : Array (Option Value)} {t_AROUND_5 : Tok} {t_AROUND_6 : Tok} {p_AROUND_7 : Addr} {d_AROUND_7 : Option Addr} {n_AROUND_7 : Nat} {s_AROUND_7 : Array (Option Value)} {t_AROUND_8 : Tok} {t_AROUND_9 : Tok} {p_AROUND_10 : Addr} {d_AROUND_10 : Option Addr} {n_AROUND_10 : Nat} {s_AROUND_10 : Array (Option Value)} {t_AROUND_11 : Tok} {t_AROUND_12 : Tok} {p_AROUND_13 : Addr} {d_AROUND_13 : Option Addr} {n_AROUND_13 : Nat} {s_AROUND_13 : Array (Option Value)} {t_AROUND_14 : Tok} {t_AROUND_15 : Tok} {p_AROUND_16 : Addr} {d_AROUND_16 : Option Addr} {n_AROUND_16 : Nat} {s_AROUND_16 : Array (Option Value)} {t_AROUND_17 : Tok} {t_AROUND_18 : Tok} {p_AROUND_19 : Addr} {d_AROUND_19 : Option Addr} {n_AROUND_19 : Nat} {s_AROUND_19 : Array (Option Value)} {t_AROUND_20 : Tok} {t_AROUND_21 : Tok} {p_AROUND_22 : Addr} {d_AROUND_22 : Option Addr} {n_AROUND_22 : Nat} {s_AROUND_22 : Array (Option Value)} {t_AROUND_23 : Tok} {t_AROUND_24 : Tok} {t_DEAD : Tok} {t_ALIVE : Tok} {f0 : Addr} {od0 an0 : Option Addr} {sl0 : Array (Option Value)} {oc0 kV0 dc0 pm0 cd0 ct0 : Value} {f1 : Addr} {od1 an1 : Option Addr} {sl1 : Array (Option Value)} {oc1 kV1 dc1 pm1 cd1 ct1 : Value} {f2 : Addr} {od2 an2 : Option Addr} {sl2 : Array (Option Value)} {oc2 kV2 dc2 pm2 cd2 ct2 : Value} {f3 : Addr} {od3 an3 : Option Addr} {sl3 : Array (Option Value)} {oc3 kV3 dc3 pm3 cd3 ct3 : Value} {f4 : Addr} {od4 an4 : Option Addr} {sl4 : Array (Option Value)} {oc4 kV4 dc4 pm4 cd4 ct4 : Value} {f5 : Addr} {od5 an5 : Option Addr} {sl5 : Array (Option Value)} {oc5 kV5 dc5 pm5 cd5 ct5 : Value} {f6 : Addr} {od6 an6 : Option Addr} {sl6 : Array (Option Value)} {oc6 kV6 dc6 pm6 cd6 ct6 : Value} {f7 : Addr} {od7 an7 : Option Addr} {sl7 : Array (Option Value)} {oc7 kV7 dc7 pm7 cd7 ct7 : Value} {f8 : Addr} {od8 an8 : Option Addr} {sl8 : Array (Option Value)} {oc8 kV8 dc8 pm8 cd8 ct8 : Value} {f9 : Addr} {od9 an9 : Option Addr} {sl9 : Array (Option Value)} {oc9 kV9 dc9 pm9 cd9 ct9 : Value} {f10 : Addr} {od10 an10 : Option Addr} {sl10 : Array (Option Value)} {oc10 kV10 dc10 pm10 cd10 ct10 : Value} {f11 : Addr} {od11 an11 : Option Addr} {sl11 : Array (Option Value)} {oc11 kV11 dc11 pm11 cd11 ct11 : Value} {f12 : Addr} {od12 an12 : Option Addr} {sl12 : Array (Option Value)} {oc12 kV12 dc12 pm12 cd12 ct12 : Value} {f13 : Addr} {od13 an13 : Option Addr} {sl13 : Array (Option Value)} {oc13 kV13 dc13 pm13 cd13 ct13 : Value} {f14 : Addr} {od14 an14 : Option Addr} {sl14 : Array (Option Value)} {oc14 kV14 dc14 pm14 cd14 ct14 : Value} {f15 : Addr} {od15 an15 : Option Addr} {sl15 : Array (Option Value)} {oc15 kV15 dc15 pm15 cd15 ct15 : Value} {f16 : Addr} {od16 an16 : Option Addr} {sl16 : Array (Option Value)} {oc16 kV16 dc16 pm16 cd16 ct16 : Value} {f17 : Addr} {od17 an17 : Option Addr} {sl17 : Array (Option Value)} {oc17 kV17 dc17 pm17 cd17 ct17 : Value} {f18 : Addr} {od18 an18 : Option Addr} {sl18 : Array (Option Value)} {oc18 kV18 dc18 pm18 cd18 ct18 : Value} {f19 : Addr} {od19 an19 : Option Addr} {sl19 : Array (Option Value)} {oc19 kV19 dc19 pm19 cd19 ct19 : Value} {f20 : Addr} {od20 an20 : Option Addr} {sl20 : Array (Option Value)} {oc20 kV20 dc20 pm20 cd20 ct20 : Value} {f21 : Addr} {od21 an21 : Option Addr} {sl21 : Array (Option Value)} {oc21 kV21 dc21 pm21 cd21 ct21 : Value} {f22 : Addr} {od22 an22 : Option Addr} {sl22 : Array (Option Value)} {oc22 kV22 dc22 pm22 cd22 ct22 : Value} {f23 : Addr} {od23 an23 : Option Addr} {sl23 : Array (Option Value)} {oc23 kV23 dc23 pm23 cd23 ct23 : Value} {f24 : Addr} {od24 an24 : Option Addr} {sl24 : Array (Option Value)} {oc24 kV24 dc24 pm24 cd24 ct24 : Value} {f25 : Addr} {od25 an25 : Option Addr} {sl25 : Array (Option Value)} {oc25 kV25 dc25 pm25 cd25 ct25 : Value} (X : K.In h) (G : h.Ns mainGlobals mg) (hfa : mg "law" = some (.ref fa))
    (g_Store : PySem.W.nsIn K mainGlobals "Store" = some (some (.ref c_Store)))
    (pg_Store : PySem.W.plainGet K c_Store Str.empty = true)
    (hd_Store : PySem.W.hasDictIn K c_Store = true)
    (po_Store : PySem.W.plainOver K c_Store = true)
    (sa_Store : PySem.W.findIn K (.ref c_Store) "__setattr__" = some (some (.builtin "object.__setattr__")))
    (g_Rule : PySem.W.nsIn K mainGlobals "Rule" = some (some (.ref c_Rule)))
    (pg_Rule : PySem.W.plainGet K c_Rule Str.empty = true)
    (hd_Rule : PySem.W.hasDictIn K c_Rule = true)
    (po_Rule : PySem.W.plainOver K c_Rule = true)
    (sa_Rule : PySem.W.findIn K (.ref c_Rule) "__setattr__" = some (some (.builtin "object.__setattr__")))
    (z_b_abs : PySem.W.nsIn K mainGlobals "abs" = some none)
    (z_b_int : PySem.W.nsIn K mainGlobals "int" = some none)
    (z_b_len : PySem.W.nsIn K mainGlobals "len" = some none)
    (z_b_range : PySem.W.nsIn K mainGlobals "range" = some none)
    (z_b_set : PySem.W.nsIn K mainGlobals "set" = some none)
    (z_b_sorted : PySem.W.nsIn K mainGlobals "sorted" = some none)
    (z_b_sum : PySem.W.nsIn K mainGlobals "sum" = some none)
    (z_b_tuple : PySem.W.nsIn K mainGlobals "tuple" = some none)
    (k_AROUND : PySem.W.nsIn K mainGlobals "AROUND" = some (some (.ref p_AROUND_0)))
    (q_AROUND_0 : K.lookup p_AROUND_0 = some ⟨.type "tuple", d_AROUND_0, .seq #[(.ref p_AROUND_1), (.ref p_AROUND_4), (.ref p_AROUND_7), (.ref p_AROUND_10), (.ref p_AROUND_13), (.ref p_AROUND_16), (.ref p_AROUND_19), (.ref p_AROUND_22)] n_AROUND_0, s_AROUND_0⟩)
    (q_AROUND_22 : K.lookup p_AROUND_22 = some ⟨.type "tuple", d_AROUND_22, .seq #[(.int (1) t_AROUND_23), (.int (1) t_AROUND_24)] n_AROUND_22, s_AROUND_22⟩)
    (q_AROUND_19 : K.lookup p_AROUND_19 = some ⟨.type "tuple", d_AROUND_19, .seq #[(.int (1) t_AROUND_20), (.int (0) t_AROUND_21)] n_AROUND_19, s_AROUND_19⟩)
    (q_AROUND_16 : K.lookup p_AROUND_16 = some ⟨.type "tuple", d_AROUND_16, .seq #[(.int (1) t_AROUND_17), (.int (-1) t_AROUND_18)] n_AROUND_16, s_AROUND_16⟩)
    (q_AROUND_13 : K.lookup p_AROUND_13 = some ⟨.type "tuple", d_AROUND_13, .seq #[(.int (0) t_AROUND_14), (.int (1) t_AROUND_15)] n_AROUND_13, s_AROUND_13⟩)
    (q_AROUND_10 : K.lookup p_AROUND_10 = some ⟨.type "tuple", d_AROUND_10, .seq #[(.int (0) t_AROUND_11), (.int (-1) t_AROUND_12)] n_AROUND_10, s_AROUND_10⟩)
    (q_AROUND_7 : K.lookup p_AROUND_7 = some ⟨.type "tuple", d_AROUND_7, .seq #[(.int (-1) t_AROUND_8), (.int (1) t_AROUND_9)] n_AROUND_7, s_AROUND_7⟩)
    (q_AROUND_4 : K.lookup p_AROUND_4 = some ⟨.type "tuple", d_AROUND_4, .seq #[(.int (-1) t_AROUND_5), (.int (0) t_AROUND_6)] n_AROUND_4, s_AROUND_4⟩)
    (q_AROUND_1 : K.lookup p_AROUND_1 = some ⟨.type "tuple", d_AROUND_1, .seq #[(.int (-1) t_AROUND_2), (.int (-1) t_AROUND_3)] n_AROUND_1, s_AROUND_1⟩)
    (k_DEAD : PySem.W.nsIn K mainGlobals "DEAD" = some (some (.int 0 t_DEAD)))
    (k_ALIVE : PySem.W.nsIn K mainGlobals "ALIVE" = some (some (.int 1 t_ALIVE)))
    (n_Store_rule : PySem.W.findIn K (.ref c_Store) "rule" = some none)
    (n_Store_kept_parts : PySem.W.findIn K (.ref c_Store) "kept_parts" = some none)
    (n_Store_levels : PySem.W.findIn K (.ref c_Store) "levels" = some none)
    (n_Store_counts : PySem.W.findIn K (.ref c_Store) "counts" = some none)
    (n_Store_numbers : PySem.W.findIn K (.ref c_Store) "numbers" = some none)
    (n_Store_futures : PySem.W.findIn K (.ref c_Store) "futures" = some none)
    (n_Store_empties : PySem.W.findIn K (.ref c_Store) "empties" = some none)
    (n_Rule_births : PySem.W.findIn K (.ref c_Rule) "births" = some none)
    (n_Rule_survival : PySem.W.findIn K (.ref c_Rule) "survival" = some none)
    (a0 : PySem.W.nsIn K mainGlobals "pattern" = some (some (.ref f0)))
    (l0 : K.lookup f0 = some ⟨oc0, od0, .func (PySem.W.fnOf "pattern" "pattern" (defArgs s_pattern) (defBody s_pattern) (defScope s_pattern) .none kV0 dc0 pm0 an0 cd0 ct0), sl0⟩)
    (c0 : PySem.W.codeIn K cd0 "pattern" = true)
    (k0 : PySem.W.keepIn K (.ref f0) = true)
    (a1 : PySem.W.findIn K (.ref c_Rule) "__init__" = some (some (.ref f1)))
    (i1 : PySem.W.isFn K (.ref f1) = true)
    (l1 : K.lookup f1 = some ⟨oc1, od1, .func (PySem.W.fnOf "__init__" "Rule.__init__" (defArgs s_Rule___init__) (defBody s_Rule___init__) (defScope s_Rule___init__) .none kV1 dc1 pm1 an1 cd1 ct1), sl1⟩)
    (c1 : PySem.W.codeIn K cd1 "Rule.__init__" = true)
    (k1 : PySem.W.keepIn K (.ref f1) = true)
    (mk_Rule : PySem.W.makesIn K c_Rule = true)
    (kc_Rule : PySem.W.keepIn K (.ref c_Rule) = true)
    (a2 : PySem.W.findIn K (.ref c_Rule) "lives" = some (some (.ref f2)))
    (i2 : PySem.W.isFn K (.ref f2) = true)
    (l2 : K.lookup f2 = some ⟨oc2, od2, .func (PySem.W.fnOf "lives" "Rule.lives" (defArgs s_Rule_lives) (defBody s_Rule_lives) (defScope s_Rule_lives) .none kV2 dc2 pm2 an2 cd2 ct2), sl2⟩)
    (c2 : PySem.W.codeIn K cd2 "Rule.lives" = true)
    (k2 : PySem.W.keepIn K (.ref f2) = true)
    (a3 : PySem.W.findIn K (.ref c_Store) "__init__" = some (some (.ref f3)))
    (i3 : PySem.W.isFn K (.ref f3) = true)
    (l3 : K.lookup f3 = some ⟨oc3, od3, .func (PySem.W.fnOf "__init__" "Store.__init__" (defArgs s_Store___init__) (defBody s_Store___init__) (defScope s_Store___init__) .none kV3 dc3 pm3 an3 cd3 ct3), sl3⟩)
    (c3 : PySem.W.codeIn K cd3 "Store.__init__" = true)
    (k3 : PySem.W.keepIn K (.ref f3) = true)
    (mk_Store : PySem.W.makesIn K c_Store = true)
    (kc_Store : PySem.W.keepIn K (.ref c_Store) = true)
    (a4 : PySem.W.findIn K (.ref c_Store) "joined" = some (some (.ref f4)))
    (i4 : PySem.W.isFn K (.ref f4) = true)
    (l4 : K.lookup f4 = some ⟨oc4, od4, .func (PySem.W.fnOf "joined" "Store.joined" (defArgs s_Store_joined) (defBody s_Store_joined) (defScope s_Store_joined) .none kV4 dc4 pm4 an4 cd4 ct4), sl4⟩)
    (c4 : PySem.W.codeIn K cd4 "Store.joined" = true)
    (k4 : PySem.W.keepIn K (.ref f4) = true)
    (a5 : PySem.W.findIn K (.ref c_Store) "level" = some (some (.ref f5)))
    (i5 : PySem.W.isFn K (.ref f5) = true)
    (l5 : K.lookup f5 = some ⟨oc5, od5, .func (PySem.W.fnOf "level" "Store.level" (defArgs s_Store_level) (defBody s_Store_level) (defScope s_Store_level) .none kV5 dc5 pm5 an5 cd5 ct5), sl5⟩)
    (c5 : PySem.W.codeIn K cd5 "Store.level" = true)
    (k5 : PySem.W.keepIn K (.ref f5) = true)
    (a6 : PySem.W.findIn K (.ref c_Store) "parts" = some (some (.ref f6)))
    (i6 : PySem.W.isFn K (.ref f6) = true)
    (l6 : K.lookup f6 = some ⟨oc6, od6, .func (PySem.W.fnOf "parts" "Store.parts" (defArgs s_Store_parts) (defBody s_Store_parts) (defScope s_Store_parts) .none kV6 dc6 pm6 an6 cd6 ct6), sl6⟩)
    (c6 : PySem.W.codeIn K cd6 "Store.parts" = true)
    (k6 : PySem.W.keepIn K (.ref f6) = true)
    (a7 : PySem.W.findIn K (.ref c_Store) "empty" = some (some (.ref f7)))
    (i7 : PySem.W.isFn K (.ref f7) = true)
    (l7 : K.lookup f7 = some ⟨oc7, od7, .func (PySem.W.fnOf "empty" "Store.empty" (defArgs s_Store_empty) (defBody s_Store_empty) (defScope s_Store_empty) .none kV7 dc7 pm7 an7 cd7 ct7), sl7⟩)
    (c7 : PySem.W.codeIn K cd7 "Store.empty" = true)
    (k7 : PySem.W.keepIn K (.ref f7) = true)
    (a8 : PySem.W.findIn K (.ref c_Store) "built" = some (some (.ref f8)))
    (i8 : PySem.W.isFn K (.ref f8) = true)
    (l8 : K.lookup f8 = some ⟨oc8, od8, .func (PySem.W.fnOf "built" "Store.built" (defArgs s_Store_built) (defBody s_Store_built) (defScope s_Store_built) .none kV8 dc8 pm8 an8 cd8 ct8), sl8⟩)
    (c8 : PySem.W.codeIn K cd8 "Store.built" = true)
    (k8 : PySem.W.keepIn K (.ref f8) = true)
    (a9 : PySem.W.findIn K (.ref c_Store) "collect_cells" = some (some (.ref f9)))
    (i9 : PySem.W.isFn K (.ref f9) = true)
    (l9 : K.lookup f9 = some ⟨oc9, od9, .func (PySem.W.fnOf "collect_cells" "Store.collect_cells" (defArgs s_Store_collect_cells) (defBody s_Store_collect_cells) (defScope s_Store_collect_cells) .none kV9 dc9 pm9 an9 cd9 ct9), sl9⟩)
    (c9 : PySem.W.codeIn K cd9 "Store.collect_cells" = true)
    (k9 : PySem.W.keepIn K (.ref f9) = true)
    (a10 : PySem.W.findIn K (.ref c_Store) "cells" = some (some (.ref f10)))
    (i10 : PySem.W.isFn K (.ref f10) = true)
    (l10 : K.lookup f10 = some ⟨oc10, od10, .func (PySem.W.fnOf "cells" "Store.cells" (defArgs s_Store_cells) (defBody s_Store_cells) (defScope s_Store_cells) .none kV10 dc10 pm10 an10 cd10 ct10), sl10⟩)
    (c10 : PySem.W.codeIn K cd10 "Store.cells" = true)
    (k10 : PySem.W.keepIn K (.ref f10) = true)
    (a11 : PySem.W.findIn K (.ref c_Store) "middle" = some (some (.ref f11)))
    (i11 : PySem.W.isFn K (.ref f11) = true)
    (l11 : K.lookup f11 = some ⟨oc11, od11, .func (PySem.W.fnOf "middle" "Store.middle" (defArgs s_Store_middle) (defBody s_Store_middle) (defScope s_Store_middle) .none kV11 dc11 pm11 an11 cd11 ct11), sl11⟩)
    (c11 : PySem.W.codeIn K cd11 "Store.middle" = true)
    (k11 : PySem.W.keepIn K (.ref f11) = true)
    (a12 : PySem.W.findIn K (.ref c_Store) "small_future" = some (some (.ref f12)))
    (i12 : PySem.W.isFn K (.ref f12) = true)
    (l12 : K.lookup f12 = some ⟨oc12, od12, .func (PySem.W.fnOf "small_future" "Store.small_future" (defArgs s_Store_small_future) (defBody s_Store_small_future) (defScope s_Store_small_future) .none kV12 dc12 pm12 an12 cd12 ct12), sl12⟩)
    (c12 : PySem.W.codeIn K cd12 "Store.small_future" = true)
    (k12 : PySem.W.keepIn K (.ref f12) = true)
    (a13 : PySem.W.findIn K (.ref c_Store) "nine" = some (some (.ref f13)))
    (i13 : PySem.W.isFn K (.ref f13) = true)
    (l13 : K.lookup f13 = some ⟨oc13, od13, .func (PySem.W.fnOf "nine" "Store.nine" (defArgs s_Store_nine) (defBody s_Store_nine) (defScope s_Store_nine) .none kV13 dc13 pm13 an13 cd13 ct13), sl13⟩)
    (c13 : PySem.W.codeIn K cd13 "Store.nine" = true)
    (k13 : PySem.W.keepIn K (.ref f13) = true)
    (a14 : PySem.W.findIn K (.ref c_Store) "new_future" = some (some (.ref f14)))
    (i14 : PySem.W.isFn K (.ref f14) = true)
    (l14 : K.lookup f14 = some ⟨oc14, od14, .func (PySem.W.fnOf "new_future" "Store.new_future" (defArgs s_Store_new_future) (defBody s_Store_new_future) (defScope s_Store_new_future) .none kV14 dc14 pm14 an14 cd14 ct14), sl14⟩)
    (c14 : PySem.W.codeIn K cd14 "Store.new_future" = true)
    (k14 : PySem.W.keepIn K (.ref f14) = true)
    (a15 : PySem.W.findIn K (.ref c_Store) "future" = some (some (.ref f15)))
    (i15 : PySem.W.isFn K (.ref f15) = true)
    (l15 : K.lookup f15 = some ⟨oc15, od15, .func (PySem.W.fnOf "future" "Store.future" (defArgs s_Store_future) (defBody s_Store_future) (defScope s_Store_future) .none kV15 dc15 pm15 an15 cd15 ct15), sl15⟩)
    (c15 : PySem.W.codeIn K cd15 "Store.future" = true)
    (k15 : PySem.W.keepIn K (.ref f15) = true)
    (a16 : PySem.W.findIn K (.ref c_Store) "copied" = some (some (.ref f16)))
    (i16 : PySem.W.isFn K (.ref f16) = true)
    (l16 : K.lookup f16 = some ⟨oc16, od16, .func (PySem.W.fnOf "copied" "Store.copied" (defArgs s_Store_copied) (defBody s_Store_copied) (defScope s_Store_copied) .none kV16 dc16 pm16 an16 cd16 ct16), sl16⟩)
    (c16 : PySem.W.codeIn K cd16 "Store.copied" = true)
    (k16 : PySem.W.keepIn K (.ref f16) = true)
    (a17 : PySem.W.findIn K (.ref c_Store) "collected" = some (some (.ref f17)))
    (i17 : PySem.W.isFn K (.ref f17) = true)
    (l17 : K.lookup f17 = some ⟨oc17, od17, .func (PySem.W.fnOf "collected" "Store.collected" (defArgs s_Store_collected) (defBody s_Store_collected) (defScope s_Store_collected) .none kV17 dc17 pm17 an17 cd17 ct17), sl17⟩)
    (c17 : PySem.W.codeIn K cd17 "Store.collected" = true)
    (k17 : PySem.W.keepIn K (.ref f17) = true)
    (a18 : PySem.W.nsIn K mainGlobals "_law_cell" = some (some (.ref f18)))
    (l18 : K.lookup f18 = some ⟨oc18, od18, .func (PySem.W.fnOf "_law_cell" "_law_cell" (defArgs s__law_cell) (defBody s__law_cell) (defScope s__law_cell) .none kV18 dc18 pm18 an18 cd18 ct18), sl18⟩)
    (c18 : PySem.W.codeIn K cd18 "_law_cell" = true)
    (k18 : PySem.W.keepIn K (.ref f18) = true)
    (a19 : PySem.W.nsIn K mainGlobals "_law_row" = some (some (.ref f19)))
    (l19 : K.lookup f19 = some ⟨oc19, od19, .func (PySem.W.fnOf "_law_row" "_law_row" (defArgs s__law_row) (defBody s__law_row) (defScope s__law_row) .none kV19 dc19 pm19 an19 cd19 ct19), sl19⟩)
    (c19 : PySem.W.codeIn K cd19 "_law_row" = true)
    (k19 : PySem.W.keepIn K (.ref f19) = true)
    (a20 : PySem.W.nsIn K mainGlobals "_law_numbers" = some (some (.ref f20)))
    (l20 : K.lookup f20 = some ⟨oc20, od20, .func (PySem.W.fnOf "_law_numbers" "_law_numbers" (defArgs s__law_numbers) (defBody s__law_numbers) (defScope s__law_numbers) .none kV20 dc20 pm20 an20 cd20 ct20), sl20⟩)
    (c20 : PySem.W.codeIn K cd20 "_law_numbers" = true)
    (k20 : PySem.W.keepIn K (.ref f20) = true)
    (a21 : PySem.W.nsIn K mainGlobals "_law_some" = some (some (.ref f21)))
    (l21 : K.lookup f21 = some ⟨oc21, od21, .func (PySem.W.fnOf "_law_some" "_law_some" (defArgs s__law_some) (defBody s__law_some) (defScope s__law_some) .none kV21 dc21 pm21 an21 cd21 ct21), sl21⟩)
    (c21 : PySem.W.codeIn K cd21 "_law_some" = true)
    (k21 : PySem.W.keepIn K (.ref f21) = true)
    (a22 : PySem.W.nsIn K mainGlobals "_law_next" = some (some (.ref f22)))
    (l22 : K.lookup f22 = some ⟨oc22, od22, .func (PySem.W.fnOf "_law_next" "_law_next" (defArgs s__law_next) (defBody s__law_next) (defScope s__law_next) .none kV22 dc22 pm22 an22 cd22 ct22), sl22⟩)
    (c22 : PySem.W.codeIn K cd22 "_law_next" = true)
    (k22 : PySem.W.keepIn K (.ref f22) = true)
    (a23 : PySem.W.nsIn K mainGlobals "_law_due" = some (some (.ref f23)))
    (l23 : K.lookup f23 = some ⟨oc23, od23, .func (PySem.W.fnOf "_law_due" "_law_due" (defArgs s__law_due) (defBody s__law_due) (defScope s__law_due) .none kV23 dc23 pm23 an23 cd23 ct23), sl23⟩)
    (c23 : PySem.W.codeIn K cd23 "_law_due" = true)
    (k23 : PySem.W.keepIn K (.ref f23) = true)
    (a24 : PySem.W.nsIn K mainGlobals "_law_joined" = some (some (.ref f24)))
    (l24 : K.lookup f24 = some ⟨oc24, od24, .func (PySem.W.fnOf "_law_joined" "_law_joined" (defArgs s__law_joined) (defBody s__law_joined) (defScope s__law_joined) .none kV24 dc24 pm24 an24 cd24 ct24), sl24⟩)
    (c24 : PySem.W.codeIn K cd24 "_law_joined" = true)
    (k24 : PySem.W.keepIn K (.ref f24) = true)
    (a25 : PySem.W.nsIn K mainGlobals "law" = some (some (.ref f25)))
    (l25 : K.lookup f25 = some ⟨oc25, od25, .func (PySem.W.fnOf "law" "law" (defArgs s_law) (defBody s_law) (defScope s_law) .none kV25 dc25 pm25 an25 cd25 ct25), sl25⟩)
    (c25 : PySem.W.codeIn K cd25 "law" = true)
    (k25 : PySem.W.keepIn K (.ref f25) = true) :
    ∃ fd : FuncData, (∀ (s : Shared) (u : Value), BindsTo s fd ⟨[u], []⟩ [("script", u)]) ∧ ∀ base : Heap, K.In base → base.Ns mainGlobals mg → FnOk l.prog w K mg base CX0 17 fa fd ["script"] (spJ K js_law) := by
  have T : Tx K mg (Cs.mk c_Store c_Rule) := ⟨PySem.W.mg_none_of X G z_b_abs, PySem.W.mg_none_of X G z_b_int, PySem.W.mg_none_of X G z_b_len, PySem.W.mg_none_of X G z_b_range, PySem.W.mg_none_of X G z_b_set, PySem.W.mg_none_of X G z_b_sorted, PySem.W.mg_none_of X G z_b_sum, PySem.W.mg_none_of X G z_b_tuple, kon_val X G k_AROUND (kval_tup q_AROUND_0 (show 8 ≤ sizeLine by decide) (.cons (kval_tup q_AROUND_1 (show 2 ≤ sizeLine by decide) (.cons kval_int (.cons kval_int .nil))) (.cons (kval_tup q_AROUND_4 (show 2 ≤ sizeLine by decide) (.cons kval_int (.cons kval_int .nil))) (.cons (kval_tup q_AROUND_7 (show 2 ≤ sizeLine by decide) (.cons kval_int (.cons kval_int .nil))) (.cons (kval_tup q_AROUND_10 (show 2 ≤ sizeLine by decide) (.cons kval_int (.cons kval_int .nil))) (.cons (kval_tup q_AROUND_13 (show 2 ≤ sizeLine by decide) (.cons kval_int (.cons kval_int .nil))) (.cons (kval_tup q_AROUND_16 (show 2 ≤ sizeLine by decide) (.cons kval_int (.cons kval_int .nil))) (.cons (kval_tup q_AROUND_19 (show 2 ≤ sizeLine by decide) (.cons kval_int (.cons kval_int .nil))) (.cons (kval_tup q_AROUND_22 (show 2 ≤ sizeLine by decide) (.cons kval_int (.cons kval_int .nil))) .nil))))))))), kon_int X G k_DEAD, kon_int X G k_ALIVE, ⟨pg_Store, hd_Store, po_Store, sa_Store⟩, n_Store_rule, n_Store_kept_parts, n_Store_levels, n_Store_counts, n_Store_numbers, n_Store_futures, n_Store_empties, ⟨pg_Rule, hd_Rule, po_Rule, sa_Rule⟩, n_Rule_births, n_Rule_survival⟩
  have D0 : Df K mg "pattern" s_pattern := df_mk X G a0 l0 c0 k0
  have D1 : Dk K mg "Rule" (Cs.mk c_Store c_Rule).Rule "Rule.__init__" s_Rule___init__ := dk_mk X G g_Rule mk_Rule kc_Rule a1 i1 l1 c1 k1
  have D2 : Dm K (Cs.mk c_Store c_Rule).Rule "lives" "Rule.lives" s_Rule_lives := dm_mk a2 i2 l2 c2 k2
  have D3 : Dk K mg "Store" (Cs.mk c_Store c_Rule).Store "Store.__init__" s_Store___init__ := dk_mk X G g_Store mk_Store kc_Store a3 i3 l3 c3 k3
  have D4 : Dm K (Cs.mk c_Store c_Rule).Store "joined" "Store.joined" s_Store_joined := dm_mk a4 i4 l4 c4 k4
  have D5 : Dm K (Cs.mk c_Store c_Rule).Store "level" "Store.level" s_Store_level := dm_mk a5 i5 l5 c5 k5
  have D6 : Dm K (Cs.mk c_Store c_Rule).Store "parts" "Store.parts" s_Store_parts := dm_mk a6 i6 l6 c6 k6
  have D7 : Dm K (Cs.mk c_Store c_Rule).Store "empty" "Store.empty" s_Store_empty := dm_mk a7 i7 l7 c7 k7
  have D8 : Dm K (Cs.mk c_Store c_Rule).Store "built" "Store.built" s_Store_built := dm_mk a8 i8 l8 c8 k8
  have D9 : Dm K (Cs.mk c_Store c_Rule).Store "collect_cells" "Store.collect_cells" s_Store_collect_cells := dm_mk a9 i9 l9 c9 k9
  have D10 : Dm K (Cs.mk c_Store c_Rule).Store "cells" "Store.cells" s_Store_cells := dm_mk a10 i10 l10 c10 k10
  have D11 : Dm K (Cs.mk c_Store c_Rule).Store "middle" "Store.middle" s_Store_middle := dm_mk a11 i11 l11 c11 k11
  have D12 : Dm K (Cs.mk c_Store c_Rule).Store "small_future" "Store.small_future" s_Store_small_future := dm_mk a12 i12 l12 c12 k12
  have D13 : Dm K (Cs.mk c_Store c_Rule).Store "nine" "Store.nine" s_Store_nine := dm_mk a13 i13 l13 c13 k13
  have D14 : Dm K (Cs.mk c_Store c_Rule).Store "new_future" "Store.new_future" s_Store_new_future := dm_mk a14 i14 l14 c14 k14
  have D15 : Dm K (Cs.mk c_Store c_Rule).Store "future" "Store.future" s_Store_future := dm_mk a15 i15 l15 c15 k15
  have D16 : Dm K (Cs.mk c_Store c_Rule).Store "copied" "Store.copied" s_Store_copied := dm_mk a16 i16 l16 c16 k16
  have D17 : Dm K (Cs.mk c_Store c_Rule).Store "collected" "Store.collected" s_Store_collected := dm_mk a17 i17 l17 c17 k17
  have D18 : Df K mg "_law_cell" s__law_cell := df_mk X G a18 l18 c18 k18
  have D19 : Df K mg "_law_row" s__law_row := df_mk X G a19 l19 c19 k19
  have D20 : Df K mg "_law_numbers" s__law_numbers := df_mk X G a20 l20 c20 k20
  have D21 : Df K mg "_law_some" s__law_some := df_mk X G a21 l21 c21 k21
  have D22 : Df K mg "_law_next" s__law_next := df_mk X G a22 l22 c22 k22
  have D23 : Df K mg "_law_due" s__law_due := df_mk X G a23 l23 c23 k23
  have D24 : Df K mg "_law_joined" s__law_joined := df_mk X G a24 l24 c24 k24
  refine law_mkF X G hfa a25 l25 c25 k25 sc_law (fun s v => .of_eq rfl) fun base kb gb => ?_
  have c1 := cal_law_cell (P := l.prog) (w := w) (base := base) T D18
  have c2 := cal_law_row (P := l.prog) (w := w) (base := base) T D19
  have c3 := cal_law_numbers (P := l.prog) (w := w) (base := base) T D20
  have c4 := cak_Rule (P := l.prog) (w := w) (base := base) T D1
  have c5 := cak_Store (P := l.prog) (w := w) (base := base) T D3
  have c6 := cam_joined (P := l.prog) (w := w) (base := base) T D4
  have c7 := cam_level (P := l.prog) (w := w) (base := base) T D5
  have c9 := cam_parts (P := l.prog) (w := w) (base := base) T D6
  have c10 := cam_empty (P := l.prog) (w := w) (base := base) T D7 c6
  have c11 := cam_built (P := l.prog) (w := w) (base := base) T D8 c6 c10 7
  have c12 := cal_pattern (P := l.prog) (w := w) (base := base) T D0
  have c13 := cam_collect (P := l.prog) (w := w) (base := base) T D9 7
  have c14 := cam_cells (P := l.prog) (w := w) (base := base) T D10 7 c13 c12
  have c15 := cal_law_some (P := l.prog) (w := w) (base := base) T D21 c2
  have c16 := cam_lives (P := l.prog) (w := w) (base := base) T D2
  have c17 := cam_middle (P := l.prog) (w := w) (base := base) T D11 c6 c9
  have c18 := cam_small (P := l.prog) (w := w) (base := base) T D12 c6 c16
  have c19 := cam_nine (P := l.prog) (w := w) (base := base) T D13 c6
  have c20 := cam_future (P := l.prog) (w := w) (base := base) T D15 D14 c18 c19 c17 c6 5
  have c23 := cam_copied (P := l.prog) (w := w) (base := base) T D16 c6 c9 7
  have c24 := cam_collected (P := l.prog) (w := w) (base := base) T D17 7 c5 c23
  have c21 := cal_law_next (P := l.prog) (w := w) (base := base) T D22
  have c25 := cal_law_due (P := l.prog) (w := w) (base := base) T D23 c21
  have c26 := cal_law_joined (P := l.prog) (w := w) (base := base) T D24 c10 c17 c6
  exact body_law T c1 c3 c4 c5 c15 c25 c26 c11 c14 c7 c20 c24
end My
open PySem PySem.W PyProof.Rows
set_option maxRecDepth 100000 in
set_option maxHeartbeats 0 in
theorem PySem.Challenge.cw_longlife_k30_many_futures_of_one_store_holds : PySem.Challenge.rw_longlife_k30_many_futures_of_one_store.Holds := by
  w_on; o_law; k_head; (case hw => w_witness2)
  k_fill
  refine J.law_walk (l := PySem.Challenge.rw_longlife_k30_many_futures_of_one_store) (k := 17) rfl rfl ⟨rfl, by decide, by decide⟩ (fun w h Y => PySem.W.kIn_of Y) ?F
  case F =>
    intro w mg fa h KX G hmg
    refine' My.fin KX G hmg ?g_Store ?pg_Store ?hd_Store ?po_Store ?sa_Store ?g_Rule ?pg_Rule ?hd_Rule ?po_Rule ?sa_Rule ?z_b_abs ?z_b_int ?z_b_len ?z_b_range ?z_b_set ?z_b_sorted ?z_b_sum ?z_b_tuple ?k_AROUND ?q_AROUND_0 ?q_AROUND_22 ?q_AROUND_19 ?q_AROUND_16 ?q_AROUND_13 ?q_AROUND_10 ?q_AROUND_7 ?q_AROUND_4 ?q_AROUND_1 ?k_DEAD ?k_ALIVE ?n_Store_rule ?n_Store_kept_parts ?n_Store_levels ?n_Store_counts ?n_Store_numbers ?n_Store_futures ?n_Store_empties ?n_Rule_births ?n_Rule_survival ?a0 ?l0 ?c0 ?k0 ?a1 ?i1 ?l1 ?c1 ?k1 ?mk_Rule ?kc_Rule ?a2 ?i2 ?l2 ?c2 ?k2 ?a3 ?i3 ?l3 ?c3 ?k3 ?mk_Store ?kc_Store ?a4 ?i4 ?l4 ?c4 ?k4 ?a5 ?i5 ?l5 ?c5 ?k5 ?a6 ?i6 ?l6 ?c6 ?k6 ?a7 ?i7 ?l7 ?c7 ?k7 ?a8 ?i8 ?l8 ?c8 ?k8 ?a9 ?i9 ?l9 ?c9 ?k9 ?a10 ?i10 ?l10 ?c10 ?k10 ?a11 ?i11 ?l11 ?c11 ?k11 ?a12 ?i12 ?l12 ?c12 ?k12 ?a13 ?i13 ?l13 ?c13 ?k13 ?a14 ?i14 ?l14 ?c14 ?k14 ?a15 ?i15 ?l15 ?c15 ?k15 ?a16 ?i16 ?l16 ?c16 ?k16 ?a17 ?i17 ?l17 ?c17 ?k17 ?a18 ?l18 ?c18 ?k18 ?a19 ?l19 ?c19 ?k19 ?a20 ?l20 ?c20 ?k20 ?a21 ?l21 ?c21 ?k21 ?a22 ?l22 ?c22 ?k22 ?a23 ?l23 ?c23 ?k23 ?a24 ?l24 ?c24 ?k24 ?a25 ?l25 ?c25 ?k25
    (case g_Store => k_is)
    (case pg_Store => k_is)
    (case hd_Store => k_is)
    (case po_Store => k_is)
    (case sa_Store => k_is)
    (case g_Rule => k_is)
    (case pg_Rule => k_is)
    (case hd_Rule => k_is)
    (case po_Rule => k_is)
    (case sa_Rule => k_is)
    (case z_b_abs => k_is)
    (case z_b_int => k_is)
    (case z_b_len => k_is)
    (case z_b_range => k_is)
    (case z_b_set => k_is)
    (case z_b_sorted => k_is)
    (case z_b_sum => k_is)
    (case z_b_tuple => k_is)
    (case k_AROUND => k_is)
    (case q_AROUND_0 => k_is)
    (case q_AROUND_22 => k_is)
    (case q_AROUND_19 => k_is)
    (case q_AROUND_16 => k_is)
    (case q_AROUND_13 => k_is)
    (case q_AROUND_10 => k_is)
    (case q_AROUND_7 => k_is)
    (case q_AROUND_4 => k_is)
    (case q_AROUND_1 => k_is)
    (case k_DEAD => k_is)
    (case k_ALIVE => k_is)
    (case n_Store_rule => k_is)
    (case n_Store_kept_parts => k_is)
    (case n_Store_levels => k_is)
    (case n_Store_counts => k_is)
    (case n_Store_numbers => k_is)
    (case n_Store_futures => k_is)
    (case n_Store_empties => k_is)
    (case n_Rule_births => k_is)
    (case n_Rule_survival => k_is)
    (case a0 => k_is)
    (case l0 => k_is)
    (case c0 => k_is)
    (case k0 => k_is)
    (case a1 => k_is)
    (case i1 => k_is)
    (case l1 => k_is)
    (case c1 => k_is)
    (case k1 => k_is)
    (case mk_Rule => k_is)
    (case kc_Rule => k_is)
    (case a2 => k_is)
    (case i2 => k_is)
    (case l2 => k_is)
    (case c2 => k_is)
    (case k2 => k_is)
    (case a3 => k_is)
    (case i3 => k_is)
    (case l3 => k_is)
    (case c3 => k_is)
    (case k3 => k_is)
    (case mk_Store => k_is)
    (case kc_Store => k_is)
    (case a4 => k_is)
    (case i4 => k_is)
    (case l4 => k_is)
    (case c4 => k_is)
    (case k4 => k_is)
    (case a5 => k_is)
    (case i5 => k_is)
    (case l5 => k_is)
    (case c5 => k_is)
    (case k5 => k_is)
    (case a6 => k_is)
    (case i6 => k_is)
    (case l6 => k_is)
    (case c6 => k_is)
    (case k6 => k_is)
    (case a7 => k_is)
    (case i7 => k_is)
    (case l7 => k_is)
    (case c7 => k_is)
    (case k7 => k_is)
    (case a8 => k_is)
    (case i8 => k_is)
    (case l8 => k_is)
    (case c8 => k_is)
    (case k8 => k_is)
    (case a9 => k_is)
    (case i9 => k_is)
    (case l9 => k_is)
    (case c9 => k_is)
    (case k9 => k_is)
    (case a10 => k_is)
    (case i10 => k_is)
    (case l10 => k_is)
    (case c10 => k_is)
    (case k10 => k_is)
    (case a11 => k_is)
    (case i11 => k_is)
    (case l11 => k_is)
    (case c11 => k_is)
    (case k11 => k_is)
    (case a12 => k_is)
    (case i12 => k_is)
    (case l12 => k_is)
    (case c12 => k_is)
    (case k12 => k_is)
    (case a13 => k_is)
    (case i13 => k_is)
    (case l13 => k_is)
    (case c13 => k_is)
    (case k13 => k_is)
    (case a14 => k_is)
    (case i14 => k_is)
    (case l14 => k_is)
    (case c14 => k_is)
    (case k14 => k_is)
    (case a15 => k_is)
    (case i15 => k_is)
    (case l15 => k_is)
    (case c15 => k_is)
    (case k15 => k_is)
    (case a16 => k_is)
    (case i16 => k_is)
    (case l16 => k_is)
    (case c16 => k_is)
    (case k16 => k_is)
    (case a17 => k_is)
    (case i17 => k_is)
    (case l17 => k_is)
    (case c17 => k_is)
    (case k17 => k_is)
    (case a18 => k_is)
    (case l18 => k_is)
    (case c18 => k_is)
    (case k18 => k_is)
    (case a19 => k_is)
    (case l19 => k_is)
    (case c19 => k_is)
    (case k19 => k_is)
    (case a20 => k_is)
    (case l20 => k_is)
    (case c20 => k_is)
    (case k20 => k_is)
    (case a21 => k_is)
    (case l21 => k_is)
    (case c21 => k_is)
    (case k21 => k_is)
    (case a22 => k_is)
    (case l22 => k_is)
    (case c22 => k_is)
    (case k22 => k_is)
    (case a23 => k_is)
    (case l23 => k_is)
    (case c23 => k_is)
    (case k23 => k_is)
    (case a24 => k_is)
    (case l24 => k_is)
    (case c24 => k_is)
    (case k24 => k_is)
    (case a25 => k_is)
    (case l25 => k_is)
    (case c25 => k_is)
    (case k25 => k_is)
