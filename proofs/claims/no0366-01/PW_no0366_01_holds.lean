import PyProof.Rows.All
import Wide.All
import OpenK.AllK
import Wide.FinOn
import PySem.Challenge.RW_no0366_01
open PySem PySem.W PyProof.Rows PySem.Spec PySem.Calls PyProof.V
set_option Elab.async false
set_option maxRecDepth 100000
set_option maxHeartbeats 8000000
namespace Mine
noncomputable section
def topView : Program := view PySem.Challenge.rw_no0366_01.row.prog [0, 2, 3, 5, 6, 7, 8, 9, 10, 11, 12, 13, 14, 15, 16, 17, 18, 19, 20, 21, 22, 23, 24, 26, 27, 28, 29, 30, 31, 32, 33]
theorem left_quick {p q : Program} {loose : List Str} {Xt : Shared → Bool} {α : Type} {Yf : Shared → α} {Ya : World → α} {N m : Nat} {ann : Option Value}
    (e : opening p = plainProg p.main.scope.names) (hN : Nat.ble 600 N = true) (f : ∀ s, fenceModules? p s = some s)
    (size : ∀ w : World, ((boot_heap w.params).isNs mainGlobals, (boot_heap w.params).objs.size, (boot_heap w.params).nsMap mainGlobals "__annotations__") = (true, m, ann))
    (hK : ∀ (w : World) (os : OsState), (PySem.W.Fast.tw14082659384304107361 PySem.W.Fast.tw14364793385576792824 p w m ann N ⟨boot_heap w.params, Array.mk [], boot_drawn, boot_toks, os⟩ (topStub p)).map (fun s =>
      ((staticsOk (importedModules p.main.body) (boot_heap w.params) s.heap && namesBound p s.heap && gensDone s && laidKept (boot_heap w.params) s.heap), Yf s)) = some (true, Ya w))
    (hS : ∀ (w : World) (os : OsState), (PySem.W.Fast.tw14082659384304107361 PySem.W.Fast.tw14364793385576792824 p w m ann N ⟨boot_heap w.params, Array.mk [], boot_drawn, boot_toks, os⟩ (topStub p)).map (fun s =>
      PySem.W.Fast.tw4187177175401517315 q loose (importedModules p.main.body) Xt true s) = some (openGood q loose)) :
    LeftO p q loose Xt Yf Ya N := fun w => by
  have hb := boot_open e hN f w
  have hz := size w
  have hk := hK w
  have hs := hS w
  rw [← PySem.W.Fast.te14082659384304107361, ← PySem.W.Fast.te14364793385576792824] at hk hs
  rw [← PySem.W.Fast.te4187177175401517315] at hs
  clear size hK hS
  generalize boot_heap w.params = H at *
  generalize boot_drawn = D at *
  generalize boot_toks = T at *
  have z1 : H.isNs mainGlobals = true := congrArg Prod.fst hz
  have z2 : H.objs.size = m := congrArg (fun x => x.2.1) hz
  have z3 : H.nsMap mainGlobals "__annotations__" = ann := congrArg (fun x => x.2.2) hz
  unfold openEnds
  cases eo : fencedOpening treeTable p w N with
  | none => rw [eo] at hb; cases hb
  | some s₀ =>
    rw [eo] at hb
    cases s₀ with
    | mk hp gs d k os =>
      cases hb
      have a := hk os
      have b := hs os
      show (topFrom treeTable p w N _).map _ = _
      unfold topFrom
      dsimp only
      rw [z1, z2, z3]
      cases er : topRun treeTable p w m ann N ⟨hp, Array.mk [], d, k, os⟩ (topStub p) with
      | none => rw [er] at a; cases a
      | some s₁ =>
        rw [er] at a b
        have c := Option.some.inj a
        have c1 : (staticsOk (importedModules p.main.body) hp s₁.heap && namesBound p s₁.heap && gensDone s₁ && laidKept hp s₁.heap) = true := congrArg Prod.fst c
        show Option.map _ (match staticsOk (importedModules p.main.body) hp s₁.heap && namesBound p s₁.heap && gensDone s₁ && laidKept hp s₁.heap with | true => some s₁ | false => none) = _
        have c2 : Yf s₁ = Ya w := congrArg Prod.snd c
        rw [c1]
        exact congrArg some (Prod.ext (Option.some.inj b) c2)
theorem openE : opening PySem.Challenge.rw_no0366_01.row.prog = plainProg PySem.Challenge.rw_no0366_01.row.prog.main.scope.names := by kernel_rfl
theorem fenceE : ∀ s, fenceModules? PySem.Challenge.rw_no0366_01.row.prog s = some s := fun s => by kernel_rfl
theorem sizeE : ∀ (w : World), ((boot_heap w.params).isNs mainGlobals, (boot_heap w.params).objs.size, (boot_heap w.params).nsMap mainGlobals "__annotations__") = (true, 11, some (.ref 6)) := fun w => by kernel_rfl
theorem seenE : ∀ (w : World) (os : OsState), (PySem.W.Fast.tw14082659384304107361 PySem.W.Fast.tw14364793385576792824 PySem.Challenge.rw_no0366_01.row.prog w 11 (some (.ref 6)) 2740 ⟨boot_heap w.params, Array.mk [], boot_drawn, boot_toks, os⟩ (topStub PySem.Challenge.rw_no0366_01.row.prog)).map (fun s =>
      PySem.W.Fast.tw4187177175401517315 topView [Str.ofString "PostError"] (importedModules PySem.Challenge.rw_no0366_01.row.prog.main.body) (fun s => xlAt topView [] s && recOk (RowW.records (OpenRow.toRowW (OpenLaw.row PySem.Challenge.rw_no0366_01))) s) true s) = some (openGood topView [Str.ofString "PostError"]) := fun w os => by kernel_rfl
end
local macro_rules | `(tactic| o_head (kHook $K $as $e)) => `(tactic| (
  apply holds_open (q := topView) (loose := [Str.ofString "PostError"]) (Xt := fun s => xlAt topView [] s && recOk (RowW.records (OpenRow.toRowW (OpenLaw.row PySem.Challenge.rw_no0366_01))) s) (XP := XL topView []) (Yf := Hook.obs (kHook $K $as $e)) (Ya := Hook.val (kHook $K $as $e)) (YP := Hook.says (kHook $K $as $e)) (N := 2740)
    (hY := Hook.of (kHook $K $as $e)) (hYk := Hook.keeps (kHook $K $as $e)) (hX := fun s e => xl_of s (Bool.and_eq_true_iff.mp e).1) (hXk := XL.keeps) (hdef := by rfl) (hp := by rfl) (hk := by rfl) (hRf := fun s e => recFacts_of (Bool.and_eq_true_iff.mp e).2) (hwr := by rfl) (k1 := by first | assumption | decide +kernel) (ok := by decide +kernel) (hb := ⟨rfl, rfl, rfl, rfl, rfl, by decide +kernel⟩)
  case left => exact left_quick openE rfl fenceE sizeE (fun w os => by kernel_rfl) seenE))
open_top top0 for PySem.Challenge.rw_no0366_01

end Mine
namespace Mine
noncomputable section
open Builtin
section
abbrev P0 : Program := PySem.Challenge.rw_no0366_01.row.prog

theorem enter {prog : Program} {w : World} {A : Around} {E : Value → Shared → Prop} {s : Shared} {K : Frag} {p : Program} {loose : List Str} {mean : ExcName → Option Value} {mg mb : Str → Option Value} {Q : Value → Shared → Prop}
    {name qual : Str} {params : Arguments} {body : List Stmt} {scope : Scope} {dV kV doc pm cdv ct oc : Value} {an od : Option Addr} {osl : Array (Option Value)} {f : Addr} {vals : List Value} (binds : List (Str × Value))
    (X : K.In s.heap) (T : Top p loose mean mg mb s.heap)
    (ho : K.lookup f = some ⟨oc, od, .func (fnOf name qual params body scope dV kV doc pm an cdv ct), osl⟩) (hcd : codeIn K cdv qual = true) (hroom : A.depth < recursionLimit)
    (hbind : bindArgs (fnOf name qual params body scope dV kV doc pm an cdv ct) ⟨vals, []⟩ = pure binds) (hloc : ∀ y ∈ binds, scope.names.lookup y.1 = some .local)
    (h : ∀ L h₁, Fr s.heap L h₁ (fun y => binds.reverse.lookup y) → News s.heap L h₁ [] →
      wpAny (model prog w) (A.deeper (envOf qual scope L f cdv)) (execs body (envOf qual scope L f cdv))
        (fun fl s' => Q (match fl with | .ret v => v | _ => .none) s')
        (fun e s' => wpAny (model prog w) (A.deeper (envOf qual scope L f cdv)) (leaving (envOf qual scope L f cdv) e) (fun _ s'' => E e s'') (fun e' s'' => E e' s'') s')
        { s with heap := h₁, toks := s.toks + binds.length })
    (hco : scope.isCoroutine = false) (hgen : scope.isGenerator = false) (hk : scope.kind = .function)
    (hcell : ∀ x ∈ scope.names, x.2 ≠ .cell) : wpAny (model prog w) A (call (.ref f) vals) Q E s := by
  refine wpAny_call ?_
  refine codeAny_call_def (fd := fnOf name qual params body scope dV kV doc pm an cdv ct) (body := body) (binds := binds) hroom (X _ _ ho) rfl T.nolimit (codeRec_of X hcd) rfl (BindsTo.of_eq hbind) hcell hloc (fun h₁ hns hk₁ => ?_) hco hgen hk
  exact h _ h₁ ⟨hns, hk₁, Nat.le_refl _⟩ News.nil


end
section
section
variable {prog : Program} {w : World} {A : Around} {E : Value → Shared → Prop} {s : Shared} {value slice : PySem.Expr} {d : List UInt8} {t : Tok} {h₀ : Heap} {L : Addr} {m : PySem.Str → Option Value} {news : List (Addr × Obj)} {lo hi : Int} {tl th : Tok} {Q : Value → Shared → Prop}
theorem clipAt_pos {n : Nat} {k : Int} (h : 0 ≤ k) : clipAt n k = min k.toNat n := by
  obtain ⟨j, rfl⟩ := Int.eq_ofNat_of_zero_le h
  exact clipAt_nat n j
/-- the bytes between two places -/
def cut (d : List UInt8) (lo hi : Int) : List UInt8 := (d.drop lo.toNat).take (hi.toNat - lo.toNat)
theorem slice_B (hF : Fr h₀ L s.heap m) (hN : News h₀ L s.heap news) (h0 : 0 ≤ lo) (h1 : lo ≤ hi) (hz : d.length ≤ 16777216)
    (h : ∀ h' t' k, Fr h₀ L h' m → News h₀ L h' news → Q (.bytes (cut d lo hi).toArray t') { s with heap := h', toks := k })
    (hs : subscripted slice false (.bytes d.toArray t) (.ref s.heap.objs.size) = operate [.ref s.heap.objs.size, .bytes d.toArray t] (getItem (.bytes d.toArray t) (.ref s.heap.objs.size)) := by with_unfolding_all rfl)
    (ht : ∀ r, letTemporaryGo value (.bytes d.toArray t) r = pure () := by intro _; with_unfolding_all rfl) :
    wpAny (model prog w) A (subscriptTail value slice (.bytes d.toArray t) (.ref s.heap.objs.size)) Q E { s with heap := s.heap.push { cls := .type "slice", data := .fields #[.int lo tl, .int hi th, .none] } } := by
  have e : KBy.picked d.toArray (some lo) (some hi) = (cut d lo hi).toArray := by
    rw [KBc.picked_eq]
    simp only [Option.elim, clipAt_pos h0, clipAt_pos (Int.le_trans h0 h1), List.size_toArray, cut]
    congr 1
    by_cases hl : lo.toNat ≤ d.length
    · rw [Nat.min_eq_left hl]
      by_cases hh : hi.toNat ≤ d.length
      · rw [Nat.min_eq_left hh]
      · rw [Nat.min_eq_right (by omega), List.take_of_length_le (by simp), List.take_of_length_le (by simp; omega)]
    · have e1 : Min.min lo.toNat d.length = d.length := by omega
      rw [e1, List.drop_of_length_le (Nat.le_refl _), List.drop_of_length_le (by omega)]
      simp
  refine KBc.slice_K hF hN rfl (.int lo tl) (.int hi th) (by rw [KBw.ints_length, List.size_toArray]; exact hz) ?_ hs ht
  intro h' t' k F' N' _
  rw [e]
  exact h h' t' k F' N'
end

end
section
theorem gives_in_int {b : Array UInt8} {i : Int} {t u : Tok} (h0 : 0 ≤ i) (h1 : i < 256) : Gives («bytes.__contains__» ⟨[.bytes b t, .int i u], []⟩) (.val (.bool (b.contains i.toNat.toUInt8))) := by
  refine .of_wp fun M A E s Q hq => ?_
  show wpAny M A (Bytes.containsIn "bytes.__contains__" (.bytes b t) (.int i u) >>= fun r => _) _ E s
  refine wpAny_bind ?_
  unfold Bytes.containsIn
  refine wpAny_bind (wpAny_of_eq (a := .ok i) rfl ?_)
  refine wpAny_bind (wpAny_of_eq KBy.buffer_eq ?_)
  show wpAny M A (if (decide (i < 0) || decide (i ≥ 256)) = true then _ else _) _ E s
  rw [if_neg (by simp; omega)]
  exact wpAny_pure (wpAny_pure ⟨_, rfl, hq⟩)
section
variable {prog : Program} {w : World} {A : Around} {E : Value → Shared → Prop} {s : Shared} {d x : List UInt8} {t u : Tok} {i : Int} {Q : Value → Shared → Prop} {L : Addr} {h₀ : Heap} {m : PySem.Str → Option Value} {news : List (Addr × Obj)}
theorem in_int_B (h0 : 0 ≤ i) (h1 : i < 256) (h : Q (.bool (d.contains i.toNat.toUInt8)) s) : wpAny (model prog w) A (compareOp .In (.int i u) (.bytes d.toArray t)) Q E s :=
  in_gives (typeIs_bytes s _ t) FB.slot_bytes_contains FB.entry_bytes_contains (FB.args_bytes_contains_2 _ _) (gives_in_int h0 h1) (by simpa using h)
theorem notin_int_B (h0 : 0 ≤ i) (h1 : i < 256) (h : Q (.bool (!d.contains i.toNat.toUInt8)) s) : wpAny (model prog w) A (compareOp .NotIn (.int i u) (.bytes d.toArray t)) Q E s :=
  notIn_gives (typeIs_bytes s _ t) FB.slot_bytes_contains FB.entry_bytes_contains (FB.args_bytes_contains_2 _ _) (gives_in_int h0 h1) (by simpa using h)
end
theorem no_index_bytes : typeLookup (.type "bytes") "__index__" = pure none := by rw [typeLookup_type, builtinLookup_eq_fast]; kernel_rfl
theorem meets_in_bytes {b c : Array UInt8} {t u : Tok} : Meets («bytes.__contains__» ⟨[.bytes b t, .bytes c u], []⟩) (fun A R s => A.handled = none ∧ ∀ h' k, s.heap.StaysIn h' → R (.ok (.ret (.bool (Bytes.find? b c 0 b.size).isSome))) { s with heap := h', toks := k }) := by
  refine .of_wp fun prog w A R s hS => ?_
  obtain ⟨hh, h⟩ := hS
  show wpAny _ _ (Bytes.containsIn "bytes.__contains__" (.bytes b t) (.bytes c u) >>= fun r => _) _ _ s
  refine wpAny_bind ?_
  unfold Bytes.containsIn
  refine wpAny_bind (wpAny_attempt ?_)
  unfold asIndex
  refine wpAny_bind (wpAny_of_eq (a := none) rfl ?_)
  refine wpAny_bind (wpAny_callSpecial?_none (typeIs_bytes s c u) no_index_bytes ?_)
  refine wpAny_bind ?_
  unfold typeNameOfCut shownTypeOf
  refine wpAny_bind (wpAny_bind (wpAny_typeOf (typeIs_bytes s c u) ?_))
  simp only [show (Value.type "bytes" == Value.type "builtin_function_or_method") = false by decide, Bool.false_eq_true, if_false]
  refine wpAny_pure ?_
  rw [show typeNameCut 200 (.type "bytes") = pure "bytes" from by kernel_rfl]
  refine wpAny_pure ?_
  refine wpAny_raiseErrorMade plainExc_TypeError hh (fun h₁ tk e hx => ?_) ?_
  · refine wpAny_bind (wpAny_of_eq KBy.buffer_eq ?_)
    dsimp only
    refine wpAny_bind (wpAny_of_eq KBy.buffer_eq ?_)
    refine wpAny_bind (wpAny_rule ?_)
    exact wpAny_pure (wpAny_pure ⟨_, rfl, h _ _ hx.keeps⟩)
  · decide +kernel
section
variable {prog : Program} {w : World} {A : Around} {E : Value → Shared → Prop} {s : Shared} {d x : List UInt8} {t u : Tok} {i : Int} {Q : Value → Shared → Prop}
/-- in_meets -/
theorem in_bytes_B (hh : A.handled = none) (h : ∀ h' k, s.heap.StaysIn h' → Q (.bool (Bytes.find? d.toArray x.toArray 0 d.toArray.size).isSome) { s with heap := h', toks := k }) : wpAny (model prog w) A (compareOp .In (.bytes x.toArray u) (.bytes d.toArray t)) Q E s := by
  show wpAny _ _ (do return .bool (← contains (.bytes d.toArray t) (.bytes x.toArray u))) Q E s
  refine wpAny_bind (wpAny_contains_slot (typeIs_bytes s _ t) FB.slot_bytes_contains ?_)
  refine call_meets FB.slot_bytes_contains (typeIs_bytes s _ t) FB.entry_bytes_contains (FB.args_bytes_contains_2 _ _) meets_in_bytes ?_
  exact ⟨hh, fun h' k hk => wpAny_pure (wpAny_pure (h h' k hk))⟩
theorem slot_join : Slot "bytes" "join" "bytes.join" :=
  .of (owner := "bytes") (n := "join") (by rw [typeLookup_type, builtinLookup_eq_fast]; kernel_rfl) (by decide +kernel) (by decide +kernel) (by decide +kernel)
    (by first | exact .inl (by decide +kernel) | exact .inr (by decide +kernel)) (by rw [isSubtype_type]; kernel_rfl)
theorem type_join : typeOf (.builtin "bytes.join") = pure (.type "method_descriptor") := by show builtinType _ = _; rw [builtinType_eq_fast]; kernel_rfl
theorem entry_join : entryFor table "bytes.join" = some Builtin.«bytes.join» := entryFor_of_tree (by kernel_rfl)
theorem args_join (a b : Value) : argsOk "bytes.join" ⟨[a, b], []⟩ := by
  unfold argsOk; rw [signature?_of (id := "bytes.join") (n := ['n', 'i', 'o', 'j']) (o := ['s', 'e', 't', 'y', 'b']) (by kernel_rfl) FB.owner_bytes]; kernel_rfl
theorem take_eq {id : String} {b : Array UInt8} : Bytes.takeBufferQuiet? id (.bytes b t) 0 = pure (some (b, none)) := by
  unfold Bytes.takeBufferQuiet? Bytes.takeBuffer?
  rw [KBy.special_eq KBy.look_buffer, KBy.own_buffer, show ((0 : Int) == Bytes.fullReadOnly) = false from rfl, KBy.buffer_eq]
  kernel_rfl
def bvals (l : List (List UInt8 × Tok)) : List Value := l.map fun p => .bytes p.1.toArray p.2
theorem forRange {β : Type} {M : Model} {A : Around} {E : Value → Shared → Prop} {s : Shared} {n : Nat} {f : Nat → β → Sem (ForInStep β)} (g : Nat → β) {Q : β → Shared → Prop}
    (step : ∀ i, i < n → ∀ Q' : ForInStep β → Shared → Prop, Q' (.yield (g (i + 1))) s → wpAny M A (f i (g i)) Q' E s) (h : Q (g n) s) : wpAny M A (forIn [:n] (g 0) f) Q E s := by
  rw [Std.Legacy.Range.forIn_eq_forIn_range']
  have hs : ([:n] : Std.Legacy.Range).size = n := by simp [Std.Legacy.Range.size]
  rw [hs]
  show wpAny M A (forIn (List.range' 0 n 1) (g 0) f) Q E s
  suffices H : ∀ k j, j + k = n → wpAny M A (forIn (List.range' j k 1) (g j) f) Q E s from H n 0 (by omega)
  intro k
  induction k with
  | zero => intro j hj; have : j = n := by omega
            subst this; exact wpAny_pure h
  | succ k ih =>
    intro j hj
    rw [List.range'_succ, List.forIn_cons]
    exact wpAny_bind (step j (by omega) _ (ih (j + 1) (by omega)))
theorem bvals_get {l : List (List UInt8 × Tok)} {i : Nat} (h : i < l.length) : (bvals l).toArray.getD i Value.none = .bytes (l[i].1.toArray) l[i].2 := by
  simp [bvals, h]
theorem join_letGo {M : Model} {A : Around} {E : Value → Shared → Prop} {s : Shared} {Q : Unit → Shared → Prop} : ∀ (l : List (Value × Option Value)) (keep : List Value), (∀ p ∈ l, p.2 = none) → Q () s → wpAny M A (Bytes.joinLetGo l keep) Q E s
  | [], _, _, h => wpAny_pure h
  | (x, w) :: r, keep, hn, h => by
    have hw : w = none := hn (x, w) (.head _)
    subst hw
    unfold Bytes.joinLetGo
    exact wpAny_bind (wpAny_letGo (join_letGo r keep (fun p hp => hn p (.tail _ hp)) h))
theorem joined_nil (parts : List (List UInt8)) : Bytes.joined #[] (parts.map List.toArray) = parts.flatten.toArray := by
  unfold Bytes.joined
  have H : ∀ (ps : List (List UInt8)) (k : Nat) (acc : List UInt8), ((ps.map List.toArray).zipIdx k).foldl (fun out (p : Array UInt8 × Nat) => (if p.2 > 0 then out ++ #[] else out) ++ p.1) acc.toArray = (acc ++ ps.flatten).toArray := by
    intro ps
    induction ps with
    | nil => intro k acc; simp
    | cons p ps ih =>
      intro k acc
      simp only [List.map_cons, List.zipIdx_cons, List.foldl_cons, List.flatten_cons, Array.append_empty, ite_self, List.append_toArray]
      simp only [Array.append_empty, ite_self] at ih
      rw [ih, List.append_assoc]
  simpa using H parts 0 []
theorem match1_no {α : Type} (items : Array Value) (h : items.size ≠ 1) (f : Value → α) (g : Array Value → α) : Bytes.joinM.match_1 (fun _ => α) items f g = g items := by
  unfold Bytes.joinM.match_1
  rw [dif_neg h]
theorem match1_one {α : Type} (x : Value) (f : Value → α) (g : Array Value → α) : Bytes.joinM.match_1 (fun _ => α) #[x] f g = f x := rfl
theorem meets_join (t : Tok) (D : Addr) (l : List (List UInt8 × Tok)) : Meets («bytes.join» ⟨[.bytes #[] t, .ref D], []⟩) (fun A R s => s.heap.IsList D (bvals l).toArray ∧ ((l.map (·.1)).flatten.length ≤ 16777216) ∧ ∀ t' k, R (.ok (.ret (.bytes (l.map (·.1)).flatten.toArray t'))) { s with toks := k }) := by
  refine .of_wp fun prog w A R s hS => ?_
  obtain ⟨hl, hz, h⟩ := hS
  obtain ⟨o, ho, hc, n, hd⟩ := id hl
  have hT : s.TypeIs (.ref D) "list" := hl.typeIs
  unfold «bytes.join» Bytes.joinM
  refine wpAny_bind (wpAny_of_eq (a := (.bytes #[] t, .ref D)) rfl ?_)
  dsimp only
  refine wpAny_bind ?_
  show wpAny _ _ (Bytes.joinItems (.ref D)) _ _ _
  unfold Bytes.joinItems
  refine wpAny_bind (wpAny_typeOf hT ?_)
  refine wpAny_pure ?_
  refine wpAny_bind (wpAny_seqItems ho hd ?_)
  dsimp only
  rw [if_pos (show (Bytes.Kind.bytes == Bytes.Kind.bytes) = true from rfl)]
  by_cases h1 : l.length = 1
  · have : ∃ p, l = [p] := by
      match l, h1 with
      | [p], _ => exact ⟨p, rfl⟩
    obtain ⟨p, rfl⟩ := this
    rw [show (bvals [p]).toArray = #[.bytes p.1.toArray p.2] from rfl, match1_one]
    refine wpAny_bind (wpAny_typeOf (typeIs_bytes s _ _) ?_)
    refine wpAny_bind (wpAny_rule (wpAny_pure ?_))
    have := h p.2 s.toks
    simpa using this
  · rw [match1_no _ (by simpa [bvals] using h1)]
    refine wpAny_bind (forRange (fun i => (((l.take i).map (fun p => p.1.toArray)).toArray, (bvals (l.take i)).map fun v => (v, (none : Option Value)))) (fun i hi Q' hq => ?_) ?_)
    · have hi' : i < l.length := by simpa [bvals] using hi
      refine wpAny_bind (wpAny_seqItems ho hd ?_)
      dsimp only
      rw [bvals_get hi']
      have hno : (Bytes.Kind.bytes == Bytes.Kind.bytearray || (List.map (fun v => (v, (none : Option Value))) (bvals (List.take i l))).any fun x => x.1.onHeap) = false := by
        rw [Bool.or_eq_false_iff]
        refine ⟨rfl, ?_⟩
        rw [List.any_eq_false]
        intro x hx
        obtain ⟨v, hv, rfl⟩ := List.mem_map.mp hx
        obtain ⟨p, _, rfl⟩ := List.mem_map.mp hv
        exact Bool.false_ne_true
      rw [if_neg (by rw [hno]; exact Bool.false_ne_true)]
      refine wpAny_bind (wpAny_holding (wpAny_of_eq take_eq ?_))
      dsimp only
      refine wpAny_bind (wpAny_seqItems ho hd ?_)
      dsimp only
      rw [if_neg (by simp)]
      refine wpAny_pure ?_
      have e1 : (l.take (i + 1)) = l.take i ++ [l[i]] := by rw [List.take_add_one, List.getElem?_eq_getElem hi']; rfl
      have e2 : (((l.take (i + 1)).map (fun p => p.1.toArray)).toArray, (bvals (l.take (i + 1))).map fun v => (v, (none : Option Value))) = (((l.take i).map (fun p => p.1.toArray)).toArray.push l[i].1.toArray, ((bvals (l.take i)).map fun v => (v, (none : Option Value))) ++ [(Value.bytes l[i].1.toArray l[i].2, none)]) := by
        rw [e1]; simp only [bvals, List.map_append, List.map_cons, List.map_nil]; rw [List.push_toArray]
      rw [e2] at hq
      exact hq
    · have hsz : (bvals l).toArray.size = l.length := by simp [bvals]
      rw [hsz, List.take_length]
      dsimp only
      refine wpAny_bind (wpAny_of_eq (a := #[]) rfl ?_)
      have ej : Bytes.joined #[] (l.map (fun p => p.1.toArray)) = (l.map (·.1)).flatten.toArray := by
        have := joined_nil (l.map (·.1))
        rw [List.map_map] at this
        exact this
      have hf : ∀ (q : List (List UInt8 × Tok)) (k : Nat), (q.map (fun p => p.1.toArray)).foldl (fun a (b : Array UInt8) => a + b.size) k = k + (q.map (·.1)).flatten.length := by
        intro q
        induction q with
        | nil => intro k; simp
        | cons p q ih => intro k; simp only [List.map_cons, List.foldl_cons, List.flatten_cons, List.length_append]; rw [ih, List.size_toArray]; omega
      have hlen : Bytes.tooLong (((l.map (fun p => p.1.toArray)).toArray).foldl (fun a (b : Array UInt8) => a + b.size) ((#[] : Array UInt8).size * (((l.map (fun p => p.1.toArray)).toArray).size - 1))) = false := by
        rw [List.foldl_toArray, hf]
        refine KBy.tooLong_not ?_
        simpa using hz
      rw [if_neg (by rw [hlen]; exact Bool.false_ne_true), ej]
      refine wpAny_bind (wpAny_mkBytes ?_ (by rw [sizeLine_eq, List.size_toArray]; exact hz))
      refine wpAny_bind (wpAny_holding (wpAny_point ?_))
      refine wpAny_bind (join_letGo _ _ (fun p hp => ?_) (wpAny_pure ⟨_, rfl, h _ _⟩))
      obtain ⟨v, _, rfl⟩ := List.mem_map.mp hp
      rfl
theorem join_B {D : Addr} {l : List (List UInt8 × Tok)} (hl : s.heap.IsList D (bvals l).toArray) (hz : (l.map (·.1)).flatten.length ≤ 16777216)
    (h : ∀ t' k, Q (.bytes (l.map (·.1)).flatten.toArray t') { s with toks := k }) : wpAny (model prog w) A (call (.builtin "bytes.join") [.bytes #[] t, .ref D]) Q E s :=
  call_meets slot_join (typeIs_bytes _ _ _) entry_join (args_join _ _) (meets_join t D l) ⟨hl, hz, h⟩
theorem method_join {M : Model} {b : Array UInt8} {pl : Sem Bool} {Q : Value × List Value → Shared → Prop} (h : Q (.builtin "bytes.join", [.bytes b t]) s) : wpAny M A (getMethod (.bytes b t) "join" pl) Q E s := by
  with_reducible exact KBd.method_of (.bytes b t) (typeIs_bytes _ _ _) slot_join type_join KBd.noRef h
end

end
section
section
variable {prog : Program} {w : World} {A : Around} {E : Value → Shared → Prop} {s : Shared} {value slice : PySem.Expr} {d : List UInt8} {t : Tok} {Q : Value → Shared → Prop}
/-- the byte at a place -/
def at_ (d : List UInt8) (i : Int) : Int := ((d.getD i.toNat 0).toNat : Int)
theorem at_lo (d : List UInt8) (i : Int) : 0 ≤ at_ d i := by unfold at_; omega
theorem at_hi (d : List UInt8) (i : Int) : at_ d i < 256 := by
  unfold at_
  have := (d.getD i.toNat 0).toNat_lt
  omega
theorem item_B {i : Int} {ui : Tok} (hfit : d.length ≤ 16777216) (h0 : 0 ≤ i) (h1 : i < (d.length : Int)) (h : ∀ t' k, 0 ≤ at_ d i → at_ d i < 256 → Q (.int (at_ d i) t') { s with toks := k })
    (hs : subscripted slice false (.bytes d.toArray t) (.int i ui) = operate [.bytes d.toArray t, .int i ui] (getItem (.bytes d.toArray t) (.int i ui)) := by with_unfolding_all rfl)
    (ht : ∀ r, letTemporaryGo value (.bytes d.toArray t) r = pure () := by intro _; with_unfolding_all rfl) :
    wpAny (model prog w) A (subscriptTail value slice (.bytes d.toArray t) (.int i ui)) Q E s :=
  KBy.item_N (by omega) h0 h1 (h _ _ (at_lo d i) (at_hi d i)) hs ht
theorem len_B (hfit : d.length ≤ 16777216) (h : ∀ t' k, Q (.int (d.length : Nat) t') { s with toks := k }) : wpAny (model prog w) A (call (.builtin "len") [.bytes d.toArray t]) Q E s := by
  have := len_bytes (prog := prog) (w := w) (A := A) (E := E) (s := s) (b := d.toArray) (t := t) (Q := Q) (by rw [List.size_toArray]; omega) (by simpa using h _ _)
  exact this
theorem add_B {b c : List UInt8} {t u : Tok} (hsz : b.length + c.length ≤ 16777216) (h : ∀ t' k, Q (.bytes (b ++ c).toArray t') { s with toks := k }) : wpAny (model prog w) A (binaryOp .Add (.bytes b.toArray t) (.bytes c.toArray u)) Q E s :=
  KBy.add_bytes (by simpa using hsz) fun t' k => by simpa using h t' k
theorem eq_B {b c : List UInt8} {t u : Tok} (h : Q (.bool (b == c)) s) : wpAny (model prog w) A (compareOp .Eq (.bytes b.toArray t) (.bytes c.toArray u)) Q E s := eq_bytes (by simpa using h)
theorem ne_B {b c : List UInt8} {t u : Tok} (h : Q (.bool (b != c)) s) : wpAny (model prog w) A (compareOp .NotEq (.bytes b.toArray t) (.bytes c.toArray u)) Q E s := ne_bytes (by simpa using h)
end
theorem cut1 {d : List UInt8} {i : Int} (h0 : 0 ≤ i) (h : i < d.length) : cut d i (i + 1) = [d.getD i.toNat 0] := by
  unfold cut
  have h1 : (i + 1).toNat - i.toNat = 1 := by omega
  have h2 : i.toNat < d.length := by omega
  rw [h1, List.drop_eq_getElem_cons h2, List.take_succ_cons, List.take_zero, List.getD_eq_getElem?_getD, List.getElem?_eq_getElem h2]
  rfl
theorem cut1_end {d : List UInt8} {i : Int} (h : (d.length : Int) ≤ i) : cut d i (i + 1) = [] := by
  unfold cut
  rw [List.drop_of_length_le (by omega)]
  simp

end
section
theorem frStay {h₀ h h' : Heap} {L : Addr} {m : Str → Option Value} (F : Fr h₀ L h m) (k : h.StaysIn h') : Fr h₀ L h' m := ⟨F.ns.keeps k, fun b o e => k b o (F.keep b o e), F.above⟩
theorem newsStay {h₀ h h' : Heap} {L : Addr} {news : List (Addr × Obj)} (N : News h₀ L h news) (k : h.StaysIn h') : News h₀ L h' news := fun p hp => ⟨k _ _ (N p hp).1, (N p hp).2⟩
theorem newsAdd {h₀ h h' : Heap} {L a : Addr} {o : Obj} {m : Str → Option Value} {news : List (Addr × Obj)} (F : Fr h₀ L h m) (N : News h₀ L h' news) (hn : h.get? a = none) (ho : h'.get? a = some o) : News h₀ L h' ((a, o) :: news) := by
  intro p hp
  rcases List.mem_cons.mp hp with rfl | hp
  · refine ⟨ho, fun e => ?_, ?_⟩
    · obtain ⟨oL, _, _, hL, _⟩ := F.ns
      have e' : a = L := e
      rw [e', hL] at hn; cases hn
    · cases q : h₀.get? a with
      | none => rfl
      | some o' => have := F.keep a o' q; rw [hn] at this; cases this
  · exact N p hp
/-- what every contract asks -/
structure Ok (w : World) (A : Around) (h : Heap) (mean : ExcName → Option Value) (mg mb : Str → Option Value) (n : Nat) : Prop where
  X : (top0.heap_39 w.params).In h
  T : Top topView (looseW topView [Str.ofString "PostError"]) mean mg mb h
  hh : A.handled = none
  hd : A.depth + n < recursionLimit
  hu : A.units + 8 * n < cLine
theorem Ok.callee {w : World} {A : Around} {h₀ h : Heap} {L : Addr} {m : Str → Option Value} {mean : ExcName → Option Value} {mg mb : Str → Option Value} {n k : Nat} {env : Env} (O : Ok w A h₀ mean mg mb n) (F : Fr h₀ L h m) (hk : k + 1 ≤ n) : Ok w (A.deeper env) h mean mg mb k where
  X := O.X.keeps F.keep
  T := O.T.keeps F.keep
  hh := O.hh
  hd := by have := O.hd; show A.depth + 1 + k < _; omega
  hu := by have := O.hu; show A.units + 3 + 8 * k < _; omega
theorem enterOk {w : World} {A : Around} {E : Value → Shared → Prop} {s : Shared} {mean : ExcName → Option Value} {mg mb : Str → Option Value} {Q : Value → Shared → Prop} {n : Nat}
    {name qual : Str} {params : Arguments} {body : List Stmt} {scope : Scope} {dV kV doc pm cdv ct oc : Value} {an od : Option Addr} {osl : Array (Option Value)} {f : Addr} {vals : List Value} (binds : List (Str × Value))
    (O : Ok w A s.heap mean mg mb n) (hn : 1 ≤ n)
    (ho : (top0.heap_39 w.params).lookup f = some ⟨oc, od, .func (fnOf name qual params body scope dV kV doc pm an cdv ct), osl⟩) (hcd : codeIn (top0.heap_39 w.params) cdv qual = true)
    (hbind : bindArgs (fnOf name qual params body scope dV kV doc pm an cdv ct) ⟨vals, []⟩ = pure binds.reverse) (hloc : ∀ y ∈ binds.reverse, scope.names.lookup y.1 = some .local)
    (hco : scope.isCoroutine = false) (hgen : scope.isGenerator = false) (hk : scope.kind = .function)
    (hcell : ∀ x ∈ scope.names, x.2 ≠ .cell)
    (h : ∀ L h₁ tk, Fr s.heap L h₁ (fun y => binds.lookup y) → News s.heap L h₁ [] → (top0.heap_39 w.params).In s.heap → Top topView (looseW topView [Str.ofString "PostError"]) mean mg mb s.heap → A.handled = none →
      wpAny (model PySem.Challenge.rw_no0366_01.row.prog w) (A.deeper (envOf qual scope L f cdv)) (execs body (envOf qual scope L f cdv))
        (fun fl s' => Q (match fl with | .ret v => v | _ => .none) s')
        (fun e s' => wpAny (model PySem.Challenge.rw_no0366_01.row.prog w) (A.deeper (envOf qual scope L f cdv)) (leaving (envOf qual scope L f cdv) e) (fun _ s'' => E e s'') (fun e' s'' => E e' s'') s')
        { s with heap := h₁, toks := tk }) : wpAny (model PySem.Challenge.rw_no0366_01.row.prog w) A (call (.ref f) vals) Q E s := by
  refine enter binds.reverse O.X O.T ho hcd (by have := O.hd; omega) hbind hloc (fun L h₁ F N => ?_) hco hgen hk hcell
  refine h L h₁ _ ?_ N O.X O.T O.hh
  simpa only [List.reverse_reverse] using F
/-- the kinds of answers -/
def IsInt (x : Int) (r : Value) : Prop := ∃ t, r = .int x t
def IsBytes (b : List UInt8) (r : Value) : Prop := ∃ t, r = .bytes b.toArray t
abbrev tupO (vs : List Value) : Obj := { cls := .type "tuple", data := .seq vs.toArray }
theorem isInt {x y : Int} {t : Tok} (e : x = y) : IsInt x (.int y t) := ⟨t, by rw [e]⟩
theorem isBytes {x y : List UInt8} {t : Tok} (e : x = y) : IsBytes x (.bytes y.toArray t) := ⟨t, by rw [e]⟩
/-- a new pair of bytes and a place -/
def IsPair (h h' : Heap) (b : List UInt8) (x : Int) (r : Value) : Prop := ∃ a t u, r = .ref a ∧ h.get? a = none ∧ h'.get? a = some (tupO [.bytes b.toArray t, .int x u])
theorem isPair_N {h₀ h' : Heap} {L D : Addr} {news : List (Addr × Obj)} {b b' : List UInt8} {x x' : Int} {t u : Tok} (N : News h₀ L h' news) (hm : (D, tupO [.bytes b.toArray t, .int x u]) ∈ news) (eb : b' = b) (ex : x' = x) : IsPair h₀ h' b' x' (.ref D) := by
  subst eb ex
  exact ⟨D, t, u, rfl, N.fresh hm, N.get hm⟩
def never (c : Int) : Bool := ([0, 10, 13] : List Int).any (· == c)
/-- a stop of the walk -/
def Hold (P : Prop) : Prop := P
theorem hold {P : Prop} (h : Hold P) : P := h
theorem newsNe {h₀ h : Heap} {L a : Addr} {news : List (Addr × Obj)} (N : News h₀ L h news) (hn : h.get? a = none) : ∀ p ∈ news, @Ne Nat p.1 a := by
  intro p hp e
  have := (N p hp).1
  rw [e, hn] at this; cases this
theorem bvals_len (l : List (List UInt8 × Tok)) : (bvals l).length = l.length := by simp [bvals]
theorem bvals_push (l : List (List UInt8 × Tok)) (b : List UInt8) (t : Tok) : (bvals l).toArray.push (.bytes b.toArray t) = (bvals (l ++ [(b, t)])).toArray := by simp [bvals]
section
variable {prog : Program} {w : World} {A : Around} {E : Value → Shared → Prop} {s : Shared} {h₀ : Heap} {L l : Addr} {m : Str → Option Value} {news : List (Addr × Obj)} {value slice : PySem.Expr} {vs : List Value} {t : Tok} {Q : Value → Shared → Prop}
theorem slice_but (F : Fr h₀ L s.heap m) (N : News h₀ L s.heap news) (hl : s.heap.IsList l vs.toArray) (hz : vs.length ≤ 16777216)
    (h : ∀ D h', Fr h₀ L h' m → News h₀ L h' ((D, PySem.W.listOf (vs.take (vs.length - 1)).toArray 0) :: news) → Q (.ref D) { s with heap := h' })
    (hs : subscripted slice false (.ref l) (.ref s.heap.objs.size) = operate [.ref s.heap.objs.size, .ref l] (getItem (.ref l) (.ref s.heap.objs.size)) := by with_unfolding_all rfl) (ht : ∀ r, letTemporaryGo value (.ref l) r = pure () := by intro _; with_unfolding_all rfl) :
    wpAny (model prog w) A (subscriptTail value slice (.ref l) (.ref s.heap.objs.size)) Q E { s with heap := s.heap.push { cls := .type "slice", data := .fields #[.none, .int (-1) t, .none] } } := by
  refine kmk_slice F N hl .none (.int (-1) t) (fun D h' F' N' _ => h D h' F' ?_) hs ht (by rw [sizeLine_eq]; simpa using hz)
  have e : slicePick vs.toArray none (some (-1)) none = (vs.take (vs.length - 1)).toArray := by
    have := slicePick_butLast vs.toArray 1 (Nat.le_refl _)
    simpa using this
  rw [e] at N'
  exact N'
end
theorem bvals_but (l : List (List UInt8 × Tok)) (p : List UInt8 × Tok) : (bvals (l ++ [p])).take ((bvals (l ++ [p])).length - 1) = bvals l := by simp [bvals]

end
local macro_rules | `(tactic| walk_at "subscriptTail") => `(tactic| (k_here; (with_reducible show wpAny _ _ (subscriptTail _ (Expr.Slice _ _ none _) (Value.bytes _ _) (Value.ref _)) _ _ _); (with_reducible rename Fr _ _ _ _ => F'); (with_reducible rename News _ _ _ _ => N'); (refine slice_B (s := ⟨_, _, _, _, _⟩) F' N' (by omega) (by omega) (by omega) ?_); intro _ _ _ _ _; (try k_sweep)))
local macro_rules | `(tactic| walk_at "subscriptTail") => `(tactic| (k_here; (with_reducible show wpAny _ _ (subscriptTail _ _ (Value.bytes _ _) (Value.int _ _)) _ _ _); (refine item_B (by omega) (by omega) (by omega) ?_); intro _ _ at0 at1))
local macro_rules | `(tactic| walk_at "call builtin:len") => `(tactic| (k_here; (with_reducible show wpAny _ _ (call (Value.builtin "len") [Value.bytes _ _]) _ _ _); (refine len_B (by omega) ?_); intro _ _))
local macro_rules | `(tactic| walk_at "binaryOp Add bytes bytes") => `(tactic| (refine add_B (by simp only [List.length_append, List.length_cons, List.length_nil] at *; omega) ?_; intro _ _))
local macro_rules | `(tactic| walk_at "compareOp Eq bytes bytes") => `(tactic| (refine eq_B ?_))
local macro_rules | `(tactic| walk_at "compareOp NotEq bytes bytes") => `(tactic| (refine ne_B ?_))
local macro_rules | `(tactic| walk_at "compareOp In int bytes") => `(tactic| (refine in_int_B (by omega) (by omega) ?_))
local macro_rules | `(tactic| walk_at "compareOp NotIn int bytes") => `(tactic| (refine notin_int_B (by omega) (by omega) ?_))
local macro_rules | `(tactic| walk_at "getMethod bytes") => `(tactic| (with_reducible refine method_join ?_))
local macro_rules | `(tactic| walk_at "mine fill") => `(tactic| (have hfill : (∀ w, top0.heap_39 w = top0.heap_39 w) ∧ PySem.Challenge.rw_no0366_01.row.prog = PySem.Challenge.rw_no0366_01.row.prog := by (k_fill; exact ⟨fun _ => rfl, rfl⟩)); clear hfill)
local macro_rules | `(tactic| walk_at "mine enter") => `(tactic| ((case k1 => assumption); (case kn => omega); (case k3 => k_is); (case k4 => k_is); (case k6 => exact rfl); (case k7 => exact locs rfl); (case c1 => exact rfl); (case c2 => exact rfl); (case c3 => exact rfl); (case c4 => decide); k_whole; intro L₁ h₁ tk₁ F₁ N₁ X₁ T₁ hh₁; (try k_fold)))
local macro_rules | `(tactic| walk_at "compareOp In int ref") => `(tactic| first
  | (refine' in_tuple_ints (News.isTup ?a ?b) ?i ?_; (case a => k_asm); (case b => k_mem); (case i => repeat constructor))
  | (refine' in_tuple_ints (kun_topT ?a ?b ?l) ?i ?_; (case a => k_asm); (case b => k_asm); (case l => k_is); (case i => repeat constructor)))
local macro_rules | `(tactic| walk_at "exec Raise some none") => `(tactic| (exfalso; first | omega | (simp_all [never]; done) | (simp_all [never]; omega)))
local macro_rules | `(tactic| walk_at "exec While Compare cons nil") => `(tactic| (refine hold ?_))
local macro_rules | `(tactic| walk_at "exec While BoolOp cons nil") => `(tactic| (refine hold ?_))
local macro_rules | `(tactic| walk_at "exec For Name Call cons nil") => `(tactic| (refine hold ?_))
local macro_rules | `(tactic| walk_at "exec For Tuple Call cons nil") => `(tactic| (refine hold ?_))
local macro_rules | `(tactic| walk_at "exec For Name Name cons nil") => `(tactic| (refine hold ?_))
local macro_rules | `(tactic| walk_at "eval Name") => `(tactic| (k_here; k_dflt (refine' ld ?k1 ?k2 ?_; (case k1 => k_asm); (case k2 => first | exact rfl | assumption); k_whole)))
local macro_rules | `(tactic| walk_at "ite") => `(tactic| first | refine ite_isFalse (by with_reducible assumption) ?_ | refine kdb_pos (by with_reducible assumption) ?_)
local macro_rules | `(tactic| walk_at "call builtin:bytes.join") => `(tactic| ((refine' join_B (News.isList ?a ?b) ?c ?_; (case a => k_asm); (case b => k_mem); (case c => omega)); intro _ _))
local macro_rules | `(tactic| walk_at "assign Tuple") => `(tactic| ((with_reducible show wpAny _ _ (assign (Expr.Tuple _ _ _) _ (Value.ref _)) _ _ _); (refine' unpackN_ ?F ?N (News.isTup ?N2 ?m) ?hh ?l ?st ?_; (case F => k_asm); (case N => k_asm); (case N2 => k_asm); (case m => k_mem); (case hh => assumption); (case l => exact rfl); (case st => exact rfl)); intro h' F' N'; (try k_sweep)))
local macro_rules | `(tactic| walk_at "call builtin:list.append") => `(tactic| ((with_reducible show wpAny _ _ (call (Value.builtin _) [Value.ref _, _]) _ _ _); k_dflt (refine' append_K ?k1 ?k2 ?k3 ?_ ?z; (case k1 => k_asm); (case k2 => k_asm); (case k3 => k_upd); (case z => (rw [sizeLine_eq]; (try simp only [List.size_toArray, List.length_map, List.length_nil, bvals_len]); omega))); intro h' F' N'; (try simp only [bvals_push] at N'); (try k_sweep)))
local macro_rules | `(tactic| walk_at "subscriptTail Name Slice ref ref") => `(tactic| (k_here; (with_reducible show wpAny _ _ (subscriptTail _ (Expr.Slice none (some (Expr.UnaryOp _ _ _)) none _) (Value.ref _) (Value.ref _)) _ _ _); (with_reducible rename Fr _ _ _ _ => F'); (with_reducible rename News _ _ _ _ => N'); (refine' slice_but (s := ⟨_, _, _, _, _⟩) F' N' (News.isList N' ?m) ?z ?_; (case m => k_mem); (case z => (simp only [bvals_len, List.length_append, List.length_cons, List.length_nil] at *; omega))); intro _ _ _ N'; (try simp only [bvals_but] at N'); (try k_sweep)))
local macro_rules | `(tactic| k_steps) => `(tactic| repeat' (first | (k_unfold; (try dsimp only)) | (k_end; kc_close) | walk1 | (dsimp only [List.cons_append, List.nil_append]; walk1) | (leave1; walk_say "STEP leave1"; (try dsimp only)) | fail "no step"))

section
section
variable {w : World} {A : Around} {E Q : Value → Shared → Prop} {s : Shared} {mean : ExcName → Option Value} {mg mb : Str → Option Value} {n : Nat}
def lineEnd (d : List UInt8) (i : Int) : Int := if cut d i (i + 1) == [10] then i + 1 else if cut d i (i + 2) == [13, 10] then i + 2 else -1
theorem line_end_spec {d : List UInt8} {td ti : Tok} {i : Int} (O : Ok w A s.heap mean mg mb n) (hn : 1 ≤ n) (hd : d.length ≤ 1000) (hi : 0 ≤ i)
    (hret : ∀ r h' tk', s.heap.StaysIn h' → IsInt (lineEnd d i) r → Q r { s with heap := h', toks := tk' }) :
    wpAny (model PySem.Challenge.rw_no0366_01.row.prog w) A (call (.ref 76) [.bytes d.toArray td, .int i ti]) Q E s := by
  walk_at "mine fill"
  refine' enterOk [(Str.ofString "at", .int i ti), (Str.ofString "data", .bytes d.toArray td)] ?k1 ?kn ?k3 ?k4 ?k6 ?k7 ?c1 ?c2 ?c3 ?c4 ?_
  walk_at "mine enter"
  k_steps
  all_goals (rename Fr _ _ _ _ => F; refine hret _ _ _ F.keep (isInt ?_); simp_all [lineEnd])
def atomCode (c : Int) : Bool := (48 ≤ c && c ≤ 57) || (65 ≤ c && c ≤ 90) || (97 ≤ c && c ≤ 122) || (c > 127) || ([33, 35, 36, 37, 38, 39, 42, 43, 45, 47, 61, 63, 94, 95, 96, 123, 124, 125, 126] : List UInt8).contains c.toNat.toUInt8
theorem is_atom_code_spec {tc : Tok} {c : Int} (O : Ok w A s.heap mean mg mb n) (hn : 1 ≤ n) (h0 : 0 ≤ c) (h1 : c < 256)
    (hret : ∀ r h' tk', s.heap.StaysIn h' → r = .bool (atomCode c) → Q r { s with heap := h', toks := tk' }) :
    wpAny (model PySem.Challenge.rw_no0366_01.row.prog w) A (call (.ref 69) [.int c tc]) Q E s := by
  walk_at "mine fill"
  refine' enterOk [(Str.ofString "code", .int c tc)] ?k1 ?kn ?k3 ?k4 ?k6 ?k7 ?c1 ?c2 ?c3 ?c4 ?_
  walk_at "mine enter"
  k_steps
  all_goals (rename Fr _ _ _ _ => F; refine hret _ _ _ F.keep (congrArg Value.bool ?_); clear hret O F; (try clear qk ek); unfold atomCode; first | (simp_all; done) | (simp_all; omega) | skip)
end
section
variable {w : World} {A : Around} {E : Value → Shared → Prop} {Q : Value → Shared → Prop} {s : Shared} {mean : ExcName → Option Value} {mg mb : Str → Option Value} {n : Nat} {h₀ : Heap} {L : Addr} {m : Str → Option Value} {news : List (Addr × Obj)} {env : Env}
theorem line_end_K {d : List UInt8} {td ti : Tok} {i : Int} (O : Ok w A h₀ mean mg mb n) (hn : 2 ≤ n) (F : Fr h₀ L s.heap m) (N : News h₀ L s.heap news) (hd : d.length ≤ 1000) (hi : 0 ≤ i)
    (hret : ∀ t h' tk', Fr h₀ L h' m → News h₀ L h' news → Q (.int (lineEnd d i) t) { s with heap := h', toks := tk' }) : wpAny (model PySem.Challenge.rw_no0366_01.row.prog w) (A.deeper env) (call (.ref 76) [.bytes d.toArray td, .int i ti]) Q E s :=
  line_end_spec (O.callee (k := 1) F (by omega)) (Nat.le_refl _) hd hi fun r h' tk' st out => by
    obtain ⟨t, rfl⟩ := out
    exact hret t h' tk' (frStay F st) (newsStay N st)
theorem is_atom_code_K {tc : Tok} {c : Int} (O : Ok w A h₀ mean mg mb n) (hn : 2 ≤ n) (F : Fr h₀ L s.heap m) (N : News h₀ L s.heap news) (h0 : 0 ≤ c) (h1 : c < 256)
    (hret : ∀ h' tk', Fr h₀ L h' m → News h₀ L h' news → Q (.bool (atomCode c)) { s with heap := h', toks := tk' }) : wpAny (model PySem.Challenge.rw_no0366_01.row.prog w) (A.deeper env) (call (.ref 69) [.int c tc]) Q E s :=
  is_atom_code_spec (O.callee (k := 1) F (by omega)) (Nat.le_refl _) h0 h1 fun r h' tk' st out => by
    subst out
    exact hret h' tk' (frStay F st) (newsStay N st)
/-- a new pair, as the frame below sees it -/
theorem pair_back {s' : Heap} {h' : Heap} {b : List UInt8} {x : Int} {r : Value} {C : Prop} (F : Fr h₀ L s' m) (N : News h₀ L s' news) (st : s'.StaysIn h') (out : IsPair s' h' b x r)
    (k : ∀ (a : Addr) t u, r = .ref a → Fr h₀ L h' m → News h₀ L h' ((a, tupO [.bytes b.toArray t, .int x u]) :: news) → (∀ p ∈ news, @Ne Nat p.1 a) → C) : C := by
  obtain ⟨a, t, u, e, na, oa⟩ := out
  exact k a t u e (frStay F st) (newsAdd F (newsStay N st) na oa) (newsNe N na)
end

end
local macro_rules | `(tactic| walk_at "call ref") => `(tactic| ((with_reducible refine line_end_K (by assumption) (by omega) (by k_asm) (by k_asm) (by omega) (by omega) ?_); intro _ _ _ F' N'; (try dsimp only)))
local macro_rules | `(tactic| walk_at "call ref") => `(tactic| ((with_reducible refine is_atom_code_K (by assumption) (by omega) (by k_asm) (by k_asm) (by omega) (by omega) ?_); intro _ _ F' N'; (try dsimp only)))

section
section
variable {w : World} {A : Around} {E Q : Value → Shared → Prop} {s : Shared} {mean : ExcName → Option Value} {mg mb : Str → Option Value} {n : Nat}
def insideB (d : List UInt8) (i : Int) : List UInt8 := if at_ d i = 92 then cut d (i + 1) (i + 2) else if 0 ≤ lineEnd d i then [] else cut d i (i + 1)
def insideN (d : List UInt8) (i : Int) : Int := if at_ d i = 92 then i + 2 else if 0 ≤ lineEnd d i then lineEnd d i else i + 1
structure InsideOk (d : List UInt8) (i : Int) : Prop where
  lo : 0 ≤ i
  hi : i < d.length
  esc : at_ d i = 92 → i + 1 < d.length ∧ never (at_ d (i + 1)) = false
  own : at_ d i ≠ 92 → lineEnd d i < 0 → never (at_ d i) = false
theorem inside_at_spec {d : List UInt8} {td ti tb : Tok} {i b : Int} (O : Ok w A s.heap mean mg mb n) (hn : 2 ≤ n) (hd : d.length ≤ 1000) (hi : InsideOk d i)
    (hret : ∀ r h' tk', s.heap.StaysIn h' → IsPair s.heap h' (insideB d i) (insideN d i) r → Q r { s with heap := h', toks := tk' }) :
    wpAny (model PySem.Challenge.rw_no0366_01.row.prog w) A (call (.ref 83) [.bytes d.toArray td, .int i ti, .int b tb]) Q E s := by
  walk_at "mine fill"
  obtain ⟨hlo, hhi, hesc, hown⟩ := hi
  refine' enterOk [(Str.ofString "begun", .int b tb), (Str.ofString "at", .int i ti), (Str.ofString "data", .bytes d.toArray td)] ?k1 ?kn ?k3 ?k4 ?k6 ?k7 ?c1 ?c2 ?c3 ?c4 ?_
  walk_at "mine enter"
  k_steps
  all_goals (rename Fr _ _ _ _ => F; rename News _ _ _ _ => N; refine hret _ _ _ F.keep (isPair_N N (List.Mem.head _) ?_ ?_) <;> simp_all [insideB, insideN] <;> (intros; omega))
end
section
variable {w : World} {A : Around} {E : Value → Shared → Prop} {Q : Value → Shared → Prop} {s : Shared} {mean : ExcName → Option Value} {mg mb : Str → Option Value} {n : Nat} {h₀ : Heap} {L : Addr} {m : Str → Option Value} {news : List (Addr × Obj)} {env : Env}
theorem inside_K {d : List UInt8} {td ti tb : Tok} {i b : Int} (O : Ok w A h₀ mean mg mb n) (hn : 3 ≤ n) (F : Fr h₀ L s.heap m) (N : News h₀ L s.heap news) (hd : d.length ≤ 1000) (hi : InsideOk d i)
    (hret : ∀ (a : Addr) t u h' tk', Fr h₀ L h' m → News h₀ L h' ((a, tupO [.bytes (insideB d i).toArray t, .int (insideN d i) u]) :: news) → (∀ p ∈ news, @Ne Nat p.1 a) → Q (.ref a) { s with heap := h', toks := tk' }) : wpAny (model PySem.Challenge.rw_no0366_01.row.prog w) (A.deeper env) (call (.ref 83) [.bytes d.toArray td, .int i ti, .int b tb]) Q E s :=
  inside_at_spec (O.callee (k := 2) F (by omega)) (Nat.le_refl _) hd hi fun r h' tk' st out =>
    pair_back F N st out fun a t u e F' N' ne => by subst e; exact hret a t u h' tk' F' N' ne
end

end
local macro_rules | `(tactic| walk_at "call ref") => `(tactic| ((with_reducible refine inside_K (by assumption) (by omega) (by k_asm) (by k_asm) (by omega) (by assumption) ?_); intro _ _ _ _ _ F' N' ne9; (try simp only [List.forall_mem_cons, List.not_mem_nil, false_implies, implies_true, and_true] at ne9); (try dsimp only)))

section
section
variable {w : World} {A : Around} {E Q : Value → Shared → Prop} {s : Shared} {mean : ExcName → Option Value} {mg mb : Str → Option Value} {n : Nat}
inductive Closed (d : List UInt8) (cl : UInt8) (bar : List UInt8) : Int → List UInt8 → Int → Prop
  | done {i : Int} : 0 ≤ i → i < d.length → at_ d i = cl.toNat → Closed d cl bar i [] (i + 1)
  | step {i e : Int} {x : List UInt8} : InsideOk d i → at_ d i ≠ cl.toNat → bar.contains (at_ d i).toNat.toUInt8 = false → Closed d cl bar (insideN d i) x e → Closed d cl bar i (insideB d i ++ x) e
theorem lineEnd_le {d : List UInt8} {i : Int} : lineEnd d i = -1 ∨ lineEnd d i = i + 1 ∨ lineEnd d i = i + 2 := by
  unfold lineEnd; split <;> (try split) <;> simp
theorem insideN_gt {d : List UInt8} {i : Int} (h : 0 ≤ i) : i < insideN d i ∧ insideN d i ≤ i + 2 := by
  unfold insideN
  rcases lineEnd_le (d := d) (i := i) with e | e | e <;> (split <;> (try split) <;> omega)
theorem insideB_len {d : List UInt8} {i : Int} : (insideB d i).length ≤ 1 := by
  unfold insideB cut
  split
  · simp only [List.length_take]; omega
  · split
    · simp
    · simp only [List.length_take]; omega
inductive InvC (d : List UInt8) (cl : UInt8) (bar : List UInt8) (td ti tc tb : Tok) (i e : Int) (W : List UInt8) (m : Nat) (μ : Str → Option Value) (nx : List (Addr × Obj)) : Prop
  | mk (P : Addr) (j : Int) (t : Tok) (l : List (List UInt8 × Tok)) (k : Nat) (x : List UInt8) : nx = [(P, PySem.W.listOf (bvals l).toArray k)] → m = (d.length + 2 - j).toNat →
      Closed d cl bar j x e → 0 ≤ j → (l.map (·.1)).flatten ++ x = W → (l.length : Int) ≤ j → (l.map (·.1)).flatten.length ≤ l.length →
      μ (Str.ofString "data") = some (.bytes d.toArray td) → μ (Str.ofString "closing") = some (.bytes [cl].toArray tc) → μ (Str.ofString "barred") = some (.bytes bar.toArray tb) → μ (Str.ofString "begun") = some (.int i ti) →
      μ (Str.ofString "parts") = some (.ref P) → μ (Str.ofString "at") = some (.int j t) → InvC d cl bar td ti tc tb i e W m μ nx
theorem closed_at_spec {d : List UInt8} {cl : UInt8} {bar : List UInt8} {td ti tc tb : Tok} {i e : Int} {W : List UInt8} (O : Ok w A s.heap mean mg mb n) (hn : 3 ≤ n) (hd : d.length ≤ 1000) (hi : 0 ≤ i) (hC : Closed d cl bar (i + 1) W e)
    (hret : ∀ r h' tk', s.heap.StaysIn h' → IsPair s.heap h' W e r → Q r { s with heap := h', toks := tk' }) :
    wpAny (model PySem.Challenge.rw_no0366_01.row.prog w) A (call (.ref 90) [.bytes d.toArray td, .int i ti, .bytes [cl].toArray tc, .bytes bar.toArray tb]) Q E s := by
  walk_at "mine fill"
  refine' enterOk [(Str.ofString "barred", .bytes bar.toArray tb), (Str.ofString "closing", .bytes [cl].toArray tc), (Str.ofString "begun", .int i ti), (Str.ofString "data", .bytes d.toArray td)] ?k1 ?kn ?k3 ?k4 ?k6 ?k7 ?c1 ?c2 ?c3 ?c4 ?_
  walk_at "mine enter"
  k_steps
  rename Fr _ _ _ _ => F₂
  rename News _ _ _ _ => N₂
  refine While_inv2 (n₀ := (d.length + 2 - (i + 1)).toNat) (InvC d cl bar td ti tc tb i e W) F₂ N₂ ?_ ?_
  · exact ⟨_, i + 1, _, [], 0, W, rfl, rfl, hC, by omega, rfl, by simp; omega, Nat.le_refl _, rfl, rfl, rfl, rfl, rfl, rfl⟩
  · rintro m μ nx h tk F N ⟨P, j, t, l, k, x, rfl, rfl, hC', hi0, hW, hl1, hl2, m1, m2, m3, m4, m5, m6⟩
    clear F₂ N₂
    have hcut : j < d.length → cut d j (j + 1) = [d.getD j.toNat 0] := cut1 hi0
    cases hC' with
    | done a b c =>
      have hc : (cut d j (j + 1) != [cl]) = false := by
        rw [hcut b]
        have : d.getD j.toNat 0 = cl := by
          unfold at_ at c
          exact UInt8.toNat.inj (by omega)
        rw [this]; simp
      k_steps
      rename Fr _ _ _ _ => F
      rename News _ _ _ _ => N
      exact hret _ _ _ F.keep (isPair_N N (List.Mem.head _) (by simpa using hW.symm) rfl)
    | step ok ne nb rest =>
      have hc : (cut d j (j + 1) != [cl]) = true := by
        rw [hcut ok.hi]
        have : d.getD j.toNat 0 ≠ cl := by
          intro q
          apply ne
          unfold at_
          rw [q]
        simpa using this
      have hj := ok.hi
      k_steps
      rename Fr _ _ _ _ => F
      rename News _ _ _ _ => N
      have g1 := insideN_gt (d := d) hi0
      have g2 := insideB_len (d := d) (i := j)
      refine ⟨_, _, _, [(P, PySem.W.listOf (bvals (l ++ [(insideB d j, _)])).toArray (k + 1))], _, rfl, F, fun p hp => N p (.tail _ hp), ?_, P, insideN d j, _, l ++ [(insideB d j, _)], k + 1, _, rfl, rfl, rest, ?_, ?_, ?_, ?_, m1, m2, m3, m4, m5, rfl⟩
      · omega
      · omega
      · simpa using hW
      · simp only [List.length_append, List.length_cons, List.length_nil]; omega
      · simp only [List.map_append, List.map_cons, List.map_nil, List.flatten_append, List.flatten_cons, List.flatten_nil, List.append_nil, List.length_append, List.length_cons, List.length_nil]; omega
end
section
variable {w : World} {A : Around} {E : Value → Shared → Prop} {Q : Value → Shared → Prop} {s : Shared} {mean : ExcName → Option Value} {mg mb : Str → Option Value} {n : Nat} {h₀ : Heap} {L : Addr} {m : Str → Option Value} {news : List (Addr × Obj)} {env : Env}
theorem closed_K {d : List UInt8} {cl : UInt8} {bar : List UInt8} {td ti tc tb : Tok} {i e : Int} {W : List UInt8} (O : Ok w A h₀ mean mg mb n) (hn : 4 ≤ n) (F : Fr h₀ L s.heap m) (N : News h₀ L s.heap news) (hd : d.length ≤ 1000) (hi : 0 ≤ i) (hC : Closed d cl bar (i + 1) W e)
    (hret : ∀ (a : Addr) t u h' tk', Fr h₀ L h' m → News h₀ L h' ((a, tupO [.bytes (W).toArray t, .int (e) u]) :: news) → (∀ p ∈ news, @Ne Nat p.1 a) → Q (.ref a) { s with heap := h', toks := tk' }) : wpAny (model PySem.Challenge.rw_no0366_01.row.prog w) (A.deeper env) (call (.ref 90) [.bytes d.toArray td, .int i ti, .bytes [cl].toArray tc, .bytes bar.toArray tb]) Q E s :=
  closed_at_spec (O.callee (k := 3) F (by omega)) (Nat.le_refl _) hd hi hC fun r h' tk' st out =>
    pair_back F N st out fun a t u e F' N' ne => by subst e; exact hret a t u h' tk' F' N' ne
end

end
local macro_rules | `(tactic| walk_at "call ref") => `(tactic| ((with_reducible refine closed_K (by assumption) (by omega) (by k_asm) (by k_asm) (by omega) (by omega) (by assumption) ?_); intro _ _ _ _ _ F' N' ne9; (try simp only [List.forall_mem_cons, List.not_mem_nil, false_implies, implies_true, and_true] at ne9); (try dsimp only)))

section
section
variable {w : World} {A : Around} {E Q : Value → Shared → Prop} {s : Shared} {mean : ExcName → Option Value} {mg mb : Str → Option Value} {n : Nat}
theorem plain_inside {d : List UInt8} {i : Int} (h0 : 0 ≤ i) (h1 : i < d.length) (c1 : at_ d i ≠ 10) (c2 : at_ d i ≠ 13) : lineEnd d i = -1 := by
  have e1 := cut1 h0 h1
  have g : (d.getD i.toNat 0).toNat = at_ d i := rfl
  unfold lineEnd
  rw [if_neg, if_neg]
  · intro q
    have q' := beq_iff_eq.mp q
    have e2 : cut d i (i + 2) = d.getD i.toNat 0 :: (d.drop (i.toNat + 1)).take 1 := by
      unfold cut
      have h2 : i.toNat < d.length := by omega
      rw [show (i + 2).toNat - i.toNat = 2 by omega, List.drop_eq_getElem_cons h2, List.take_succ_cons, List.getD_eq_getElem?_getD, List.getElem?_eq_getElem h2]
      rfl
    rw [e2] at q'
    have := (List.cons.inj q').1
    rw [this] at g
    apply c2
    rw [← g]; rfl
  · intro q
    have q' := beq_iff_eq.mp q
    rw [e1] at q'
    have := (List.cons.inj q').1
    rw [this] at g
    apply c1
    rw [← g]; rfl
theorem insideOk_plain {d : List UInt8} {i : Int} (h0 : 0 ≤ i) (h1 : i < d.length) (c0 : at_ d i ≠ 92) (c : never (at_ d i) = false) : InsideOk d i := ⟨h0, h1, fun q => absurd q c0, fun _ _ => c⟩
theorem inside_close {d : List UInt8} {i : Int} (h0 : 0 ≤ i) (h1 : i < d.length) (c : at_ d i = 41) : InsideOk d i ∧ insideN d i = i + 1 ∧ (insideB d i).length = 1 := by
  have hl := plain_inside h0 h1 (by omega) (by omega)
  refine ⟨insideOk_plain h0 h1 (by omega) (by rw [c]; rfl), ?_, ?_⟩
  · unfold insideN; rw [if_neg (by omega), if_neg (by omega)]
  · unfold insideB; rw [if_neg (by omega), if_neg (by omega), cut1 h0 h1]; rfl
inductive InvM (d : List UInt8) (td ti : Tok) (i e : Int) (W : List UInt8) (m : Nat) (μ : Str → Option Value) (nx : List (Addr × Obj)) : Prop
  | mk (P : Addr) (j : Int) (t dt : Tok) (l : List (List UInt8 × Tok)) (k : Nat) (dep : Int) : nx = [(P, PySem.W.listOf (bvals l).toArray k)] → m = (d.length + 3 - j).toNat →
      ((dep = 1 ∧ ∃ x, Closed d 41 [40] j x e ∧ (l.map (·.1)).flatten ++ x = W) ∨ (dep = 0 ∧ j = e ∧ ∃ l' p, l = l' ++ [p] ∧ (l'.map (·.1)).flatten = W)) → 0 ≤ j → (l.length : Int) ≤ j → (l.length : Int) ≤ 1002 → (l.map (·.1)).flatten.length ≤ l.length →
      μ (Str.ofString "data") = some (.bytes d.toArray td) → μ (Str.ofString "begun") = some (.int i ti) →
      μ (Str.ofString "parts") = some (.ref P) → μ (Str.ofString "at") = some (.int j t) → μ (Str.ofString "depth") = some (.int dep dt) → InvM d td ti i e W m μ nx
theorem comment_at_spec {d : List UInt8} {td ti : Tok} {i e : Int} {W : List UInt8} (O : Ok w A s.heap mean mg mb n) (hn : 3 ≤ n) (hd : d.length ≤ 1000) (hi : 0 ≤ i) (hC : Closed d 41 [40] (i + 1) W e)
    (hret : ∀ r h' tk', s.heap.StaysIn h' → IsPair s.heap h' W e r → Q r { s with heap := h', toks := tk' }) :
    wpAny (model PySem.Challenge.rw_no0366_01.row.prog w) A (call (.ref 97) [.bytes d.toArray td, .int i ti]) Q E s := by
  walk_at "mine fill"
  refine' enterOk [(Str.ofString "begun", .int i ti), (Str.ofString "data", .bytes d.toArray td)] ?k1 ?kn ?k3 ?k4 ?k6 ?k7 ?c1 ?c2 ?c3 ?c4 ?_
  walk_at "mine enter"
  k_steps
  rename Fr _ _ _ _ => F₂
  rename News _ _ _ _ => N₂
  refine While_inv2 (n₀ := (d.length + 3 - (i + 1)).toNat) (InvM d td ti i e W) F₂ N₂ ?_ ?_
  · exact ⟨_, i + 1, _, _, [], 0, 1, rfl, rfl, .inl ⟨rfl, W, hC, rfl⟩, by omega, by simp; omega, by simp, Nat.le_refl _, rfl, rfl, rfl, rfl, rfl⟩
  · rintro m μ nx h tk F N ⟨P, j, t, dt, l, k, dep, rfl, rfl, hD, hi0, hl1, hl3, hl2, m1, m2, m3, m4, m5⟩
    clear F₂ N₂
    have hcut : j < d.length → cut d j (j + 1) = [d.getD j.toNat 0] := cut1 hi0
    rcases hD with ⟨rfl, x, hC', hW⟩ | ⟨rfl, rfl, l', p, rfl, hW⟩
    · cases hC' with
      | done a b c =>
        obtain ⟨ok, eN, eB⟩ := inside_close a b c
        have h40 : (cut d j (j + 1) == [40]) = false := by
          rw [hcut b]; unfold at_ at c
          refine beq_eq_false_iff_ne.mpr fun q => ?_
          have := (List.cons.inj q).1
          rw [this] at c; exact absurd c (by decide)
        have h41 : (cut d j (j + 1) == [41]) = true := by
          rw [hcut b]; unfold at_ at c
          refine beq_iff_eq.mpr ?_
          rw [show d.getD j.toNat 0 = 41 from UInt8.toNat.inj (by have : (((d.getD j.toNat 0).toNat : Nat) : Int) = 41 := c; show (d.getD j.toNat 0).toNat = 41; omega)]
        k_steps
        rename Fr _ _ _ _ => F
        rename News _ _ _ _ => N
        have g1 := insideN_gt (d := d) hi0
        have g2 := insideB_len (d := d) (i := j)
        refine ⟨_, _, _, [(P, PySem.W.listOf (bvals (l ++ [(insideB d j, _)])).toArray (k + 1))], _, rfl, F, fun p hp => N p (.tail _ hp), ?_, P, insideN d j, _, _, l ++ [(insideB d j, _)], k + 1, 1 - 1, rfl, rfl, .inr ⟨rfl, ?_, l, _, rfl, ?_⟩, ?_, ?_, ?_, ?_, m1, m2, m3, rfl, rfl⟩
        · omega
        · rw [eN]
        · simpa using hW
        · omega
        · simp only [List.length_append, List.length_cons, List.length_nil]; omega
        · simp only [List.length_append, List.length_cons, List.length_nil]; omega
        · simp only [List.map_append, List.map_cons, List.map_nil, List.flatten_append, List.flatten_cons, List.flatten_nil, List.append_nil, List.length_append, List.length_cons, List.length_nil]; omega
      | step ok ne nb rest =>
        have hj := ok.hi
        have h40 : (cut d j (j + 1) == [40]) = false := by
          rw [hcut ok.hi]
          refine beq_eq_false_iff_ne.mpr fun q => ?_
          have q' := (List.cons.inj q).1
          have : (at_ d j).toNat.toUInt8 = 40 := by unfold at_; rw [q']; rfl
          rw [this] at nb
          exact absurd nb (by decide)
        have h41 : (cut d j (j + 1) == [41]) = false := by
          rw [hcut ok.hi]
          refine beq_eq_false_iff_ne.mpr fun q => ne ?_
          have q' := (List.cons.inj q).1
          unfold at_; rw [q']
        k_steps
        rename Fr _ _ _ _ => F
        rename News _ _ _ _ => N
        have g1 := insideN_gt (d := d) hi0
        have g2 := insideB_len (d := d) (i := j)
        refine ⟨_, _, _, [(P, PySem.W.listOf (bvals (l ++ [(insideB d j, _)])).toArray (k + 1))], _, rfl, F, fun p hp => N p (.tail _ hp), ?_, P, insideN d j, _, _, l ++ [(insideB d j, _)], k + 1, 1, rfl, rfl, .inl ⟨rfl, _, rest, ?_⟩, ?_, ?_, ?_, ?_, m1, m2, m3, rfl, m5⟩
        · omega
        · simpa using hW
        · omega
        · simp only [List.length_append, List.length_cons, List.length_nil]; omega
        · simp only [List.length_append, List.length_cons, List.length_nil]; omega
        · simp only [List.map_append, List.map_cons, List.map_nil, List.flatten_append, List.flatten_cons, List.flatten_nil, List.append_nil, List.length_append, List.length_cons, List.length_nil]; omega
    · have hl4 : (l'.map (·.1)).flatten.length ≤ 2000 := by
        simp only [List.map_append, List.flatten_append, List.length_append] at hl2 hl3
        omega
      k_steps
      rename Fr _ _ _ _ => F
      rename News _ _ _ _ => N
      exact hret _ _ _ F.keep (isPair_N N (List.Mem.head _) hW.symm rfl)
end
section
variable {w : World} {A : Around} {E : Value → Shared → Prop} {Q : Value → Shared → Prop} {s : Shared} {mean : ExcName → Option Value} {mg mb : Str → Option Value} {n : Nat} {h₀ : Heap} {L : Addr} {m : Str → Option Value} {news : List (Addr × Obj)} {env : Env}
theorem comment_K {d : List UInt8} {td ti : Tok} {i e : Int} {W : List UInt8} (O : Ok w A h₀ mean mg mb n) (hn : 4 ≤ n) (F : Fr h₀ L s.heap m) (N : News h₀ L s.heap news) (hd : d.length ≤ 1000) (hi : 0 ≤ i) (hC : Closed d 41 [40] (i + 1) W e)
    (hret : ∀ (a : Addr) t u h' tk', Fr h₀ L h' m → News h₀ L h' ((a, tupO [.bytes (W).toArray t, .int (e) u]) :: news) → (∀ p ∈ news, @Ne Nat p.1 a) → Q (.ref a) { s with heap := h', toks := tk' }) : wpAny (model PySem.Challenge.rw_no0366_01.row.prog w) (A.deeper env) (call (.ref 97) [.bytes d.toArray td, .int i ti]) Q E s :=
  comment_at_spec (O.callee (k := 3) F (by omega)) (Nat.le_refl _) hd hi hC fun r h' tk' st out =>
    pair_back F N st out fun a t u e F' N' ne => by subst e; exact hret a t u h' tk' F' N' ne
end

end
local macro_rules | `(tactic| walk_at "call ref") => `(tactic| ((with_reducible refine comment_K (by assumption) (by omega) (by k_asm) (by k_asm) (by omega) (by omega) (by assumption) ?_); intro _ _ _ _ _ F' N' ne9; (try simp only [List.forall_mem_cons, List.not_mem_nil, false_implies, implies_true, and_true] at ne9); (try dsimp only)))

section
section
variable {w : World} {A : Around} {E Q : Value → Shared → Prop} {s : Shared} {mean : ExcName → Option Value} {mg mb : Str → Option Value} {n : Nat}
def atomB (c : UInt8) : Bool := atomCode (c.toNat : Int)
def atomRun (d : List UInt8) (i : Int) : List UInt8 := (d.drop i.toNat).takeWhile atomB
theorem takeWhile_get {p : UInt8 → Bool} : ∀ (l : List UInt8) (k : Nat), k < (l.takeWhile p).length → p (l.getD k 0) = true
  | [], k, h => by simp at h
  | a :: l, k, h => by
    rw [List.takeWhile_cons] at h
    split at h
    · rename_i ha
      cases k with
      | zero => simpa using ha
      | succ k => simpa using takeWhile_get l k (by simpa using h)
    · simp at h
theorem takeWhile_end {p : UInt8 → Bool} : ∀ (l : List UInt8), (l.takeWhile p).length < l.length → p (l.getD (l.takeWhile p).length 0) = false
  | [], h => by simp at h
  | a :: l, h => by
    rw [List.takeWhile_cons] at h ⊢
    split
    · rename_i ha
      rw [if_pos ha] at h
      have := takeWhile_end l (by simpa using h)
      simpa using this
    · rename_i ha
      simpa using ha
theorem takeWhile_take {p : UInt8 → Bool} : ∀ (l : List UInt8), l.take (l.takeWhile p).length = l.takeWhile p
  | [] => rfl
  | a :: l => by
    rw [List.takeWhile_cons]
    split
    · simp [takeWhile_take l]
    · rfl
theorem takeWhile_len {p : UInt8 → Bool} (l : List UInt8) : (l.takeWhile p).length ≤ l.length := (List.takeWhile_sublist p).length_le
theorem getD_drop (d : List UInt8) (i k : Nat) : (d.drop i).getD k 0 = d.getD (i + k) 0 := by simp [List.getD_eq_getElem?_getD]
theorem atomRun_facts {d : List UInt8} {i : Int} (h0 : 0 ≤ i) (h1 : i ≤ d.length) : i + (atomRun d i).length ≤ d.length ∧ (∀ j : Int, i ≤ j → j < i + (atomRun d i).length → atomCode (at_ d j) = true) ∧
    (i + (atomRun d i).length < d.length → atomCode (at_ d (i + (atomRun d i).length)) = false) ∧ cut d i (i + (atomRun d i).length) = atomRun d i := by
  have hl := takeWhile_len (p := atomB) (d.drop i.toNat)
  have hl2 : (d.drop i.toNat).length = d.length - i.toNat := List.length_drop
  refine ⟨by unfold atomRun; omega, fun j a b => ?_, fun a => ?_, ?_⟩
  · have := takeWhile_get (p := atomB) (d.drop i.toNat) (j.toNat - i.toNat) (by unfold atomRun at b; omega)
    rw [getD_drop, show i.toNat + (j.toNat - i.toNat) = j.toNat by omega] at this
    exact this
  · have := takeWhile_end (p := atomB) (d.drop i.toNat) (by unfold atomRun at a; omega)
    rw [getD_drop] at this
    unfold at_
    rw [show (i + ((atomRun d i).length : Int)).toNat = i.toNat + (atomRun d i).length by omega]
    exact this
  · unfold cut
    rw [show (i + ((atomRun d i).length : Int)).toNat - i.toNat = (atomRun d i).length by omega]
    exact takeWhile_take _
inductive InvA (d r : List UInt8) (td ti : Tok) (i : Int) (m : Nat) (μ : Str → Option Value) (nx : List (Addr × Obj)) : Prop
  | mk (j : Int) (t : Tok) : nx = [] → m = (d.length + 1 - j).toNat → i ≤ j → j ≤ i + r.length →
      μ (Str.ofString "data") = some (.bytes d.toArray td) → μ (Str.ofString "at") = some (.int i ti) → μ (Str.ofString "end") = some (.int j t) → InvA d r td ti i m μ nx
theorem atom_at_spec {d : List UInt8} {td ti : Tok} {i : Int} (O : Ok w A s.heap mean mg mb n) (hn : 2 ≤ n) (hd : d.length ≤ 1000) (hi : 0 ≤ i) (hi2 : i ≤ d.length)
    (hret : ∀ r h' tk', s.heap.StaysIn h' → IsPair s.heap h' (atomRun d i) (i + (atomRun d i).length) r → Q r { s with heap := h', toks := tk' }) :
    wpAny (model PySem.Challenge.rw_no0366_01.row.prog w) A (call (.ref 104) [.bytes d.toArray td, .int i ti]) Q E s := by
  walk_at "mine fill"
  obtain ⟨f1, f2, f3, f4⟩ := atomRun_facts hi hi2
  generalize hr : atomRun d i = r at *
  refine' enterOk [(Str.ofString "at", .int i ti), (Str.ofString "data", .bytes d.toArray td)] ?k1 ?kn ?k3 ?k4 ?k6 ?k7 ?c1 ?c2 ?c3 ?c4 ?_
  walk_at "mine enter"
  k_steps
  rename Fr _ _ _ _ => F₂
  rename News _ _ _ _ => N₂
  refine While_inv2 (n₀ := (d.length + 1 - i).toNat) (InvA d r td ti i) F₂ N₂ ?_ ?_
  · exact ⟨i, _, rfl, rfl, Int.le_refl _, by omega, rfl, rfl, rfl⟩
  · rintro m μ nx h tk F N ⟨j, t, rfl, rfl, hj1, hj2, m1, m2, m3⟩
    clear F₂ N₂
    by_cases hlt : j < i + r.length
    · have ha := f2 j hj1 hlt
      k_steps
      rename Fr _ _ _ _ => F
      rename News _ _ _ _ => N
      exact ⟨_, _, _, [], _, rfl, F, N, by omega, j + 1, _, rfl, rfl, by omega, by omega, m1, m2, rfl⟩
    · have hje : j = i + r.length := by omega
      subst hje
      by_cases hend : i + r.length < (d.length : Int)
      · have ha := f3 hend
        k_steps
        rename Fr _ _ _ _ => F
        rename News _ _ _ _ => N
        exact hret _ _ _ F.keep (isPair_N N (List.Mem.head _) f4.symm rfl)
      · k_steps
        rename Fr _ _ _ _ => F
        rename News _ _ _ _ => N
        exact hret _ _ _ F.keep (isPair_N N (List.Mem.head _) f4.symm rfl)
inductive White (d : List UInt8) : Int → Int → Prop
  | stop {i : Int} : i < d.length → at_ d i ≠ 9 → at_ d i ≠ 32 → lineEnd d i < 0 → White d i i
  | fin {i : Int} : (d.length : Int) ≤ i → White d i i
  | blank {i e : Int} : i < d.length → (at_ d i = 9 ∨ at_ d i = 32) → White d (i + 1) e → White d i e
  | line {i e : Int} : i < d.length → at_ d i ≠ 9 → at_ d i ≠ 32 → 0 ≤ lineEnd d i → White d (lineEnd d i) e → White d i e
inductive InvW (d : List UInt8) (td : Tok) (e : Int) (m : Nat) (μ : Str → Option Value) (nx : List (Addr × Obj)) : Prop
  | mk (j : Int) (t : Tok) : nx = [] → m = (d.length + 3 - j).toNat → 0 ≤ j → White d j e →
      μ (Str.ofString "data") = some (.bytes d.toArray td) → μ (Str.ofString "at") = some (.int j t) → InvW d td e m μ nx
theorem past_white_spec {d : List UInt8} {td ti : Tok} {i e : Int} (O : Ok w A s.heap mean mg mb n) (hn : 2 ≤ n) (hd : d.length ≤ 1000) (hi : 0 ≤ i) (hW : White d i e)
    (hret : ∀ r h' tk', s.heap.StaysIn h' → IsInt e r → Q r { s with heap := h', toks := tk' }) :
    wpAny (model PySem.Challenge.rw_no0366_01.row.prog w) A (call (.ref 118) [.bytes d.toArray td, .int i ti]) Q E s := by
  walk_at "mine fill"
  refine' enterOk [(Str.ofString "at", .int i ti), (Str.ofString "data", .bytes d.toArray td)] ?k1 ?kn ?k3 ?k4 ?k6 ?k7 ?c1 ?c2 ?c3 ?c4 ?_
  walk_at "mine enter"
  k_steps
  rename Fr _ _ _ _ => F₂
  rename News _ _ _ _ => N₂
  refine While_inv2 (n₀ := (d.length + 3 - i).toNat) (InvW d td e) F₂ N₂ ?_ ?_
  · exact ⟨i, _, rfl, rfl, by omega, hW, rfl, rfl⟩
  · rintro m μ nx h tk F N ⟨j, t, rfl, rfl, hj0, hW', m1, m2⟩
    clear F₂ N₂
    have hle := lineEnd_le (d := d) (i := j)
    cases hW' with
    | stop a b c f =>
      have hw : (([9, 32] : List Int).any fun x => x == at_ d e) = false := by simp [Ne.symm b, Ne.symm c]
      k_steps
      rename Fr _ _ _ _ => F
      exact hret _ _ _ F.keep (isInt rfl)
    | fin a =>
      k_steps
      rename Fr _ _ _ _ => F
      exact hret _ _ _ F.keep (isInt rfl)
    | blank a b rest =>
      have hw : (([9, 32] : List Int).any fun x => x == at_ d j) = true := by rcases b with b | b <;> simp [b]
      k_steps
      rename Fr _ _ _ _ => F
      rename News _ _ _ _ => N
      exact ⟨_, _, _, [], _, rfl, F, News.nil, by omega, j + 1, _, rfl, rfl, by omega, rest, m1, rfl⟩
    | line a b c f rest =>
      have hw : (([9, 32] : List Int).any fun x => x == at_ d j) = false := by simp [Ne.symm b, Ne.symm c]
      k_steps
      rename Fr _ _ _ _ => F
      rename News _ _ _ _ => N
      exact ⟨_, _, _, [], _, rfl, F, News.nil, by omega, lineEnd d j, _, rfl, rfl, by omega, rest, m1, rfl⟩
end
section
variable {w : World} {A : Around} {E : Value → Shared → Prop} {Q : Value → Shared → Prop} {s : Shared} {mean : ExcName → Option Value} {mg mb : Str → Option Value} {n : Nat} {h₀ : Heap} {L : Addr} {m : Str → Option Value} {news : List (Addr × Obj)} {env : Env}
theorem atom_K {d : List UInt8} {td ti : Tok} {i : Int} (O : Ok w A h₀ mean mg mb n) (hn : 3 ≤ n) (F : Fr h₀ L s.heap m) (N : News h₀ L s.heap news) (hd : d.length ≤ 1000) (hi : 0 ≤ i) (hi2 : i ≤ d.length)
    (hret : ∀ (a : Addr) t u h' tk', Fr h₀ L h' m → News h₀ L h' ((a, tupO [.bytes (atomRun d i).toArray t, .int (i + (atomRun d i).length) u]) :: news) → (∀ p ∈ news, @Ne Nat p.1 a) → Q (.ref a) { s with heap := h', toks := tk' }) : wpAny (model PySem.Challenge.rw_no0366_01.row.prog w) (A.deeper env) (call (.ref 104) [.bytes d.toArray td, .int i ti]) Q E s :=
  atom_at_spec (O.callee (k := 2) F (by omega)) (Nat.le_refl _) hd hi hi2 fun r h' tk' st out =>
    pair_back F N st out fun a t u e F' N' ne => by subst e; exact hret a t u h' tk' F' N' ne
theorem white_K {d : List UInt8} {td ti : Tok} {i e : Int} (O : Ok w A h₀ mean mg mb n) (hn : 3 ≤ n) (F : Fr h₀ L s.heap m) (N : News h₀ L s.heap news) (hd : d.length ≤ 1000) (hi : 0 ≤ i) (hW : White d i e)
    (hret : ∀ t h' tk', Fr h₀ L h' m → News h₀ L h' news → Q (.int e t) { s with heap := h', toks := tk' }) : wpAny (model PySem.Challenge.rw_no0366_01.row.prog w) (A.deeper env) (call (.ref 118) [.bytes d.toArray td, .int i ti]) Q E s :=
  past_white_spec (O.callee (k := 2) F (by omega)) (Nat.le_refl _) hd hi hW fun r h' tk' st out => by
    obtain ⟨t, rfl⟩ := out
    exact hret t h' tk' (frStay F st) (newsStay N st)
end

end
local macro_rules | `(tactic| walk_at "call ref") => `(tactic| ((with_reducible refine atom_K (by assumption) (by omega) (by k_asm) (by k_asm) (by omega) (by omega) (by omega) ?_); intro _ _ _ _ _ F' N' ne9; (try simp only [List.forall_mem_cons, List.not_mem_nil, false_implies, implies_true, and_true] at ne9); (try dsimp only)))
local macro_rules | `(tactic| walk_at "call ref") => `(tactic| ((with_reducible refine white_K (by assumption) (by omega) (by k_asm) (by k_asm) (by omega) (by omega) (by assumption) ?_); intro _ _ _ F' N'; (try dsimp only)))

section
section
variable {prog : Program} {w : World} {A : Around} {E : Value → Shared → Prop} {s : Shared} {t u : Tok} {Q : Value → Shared → Prop} {h₀ : Heap} {L : Addr} {m : PySem.Str → Option Value} {news : List (Addr × Obj)}
theorem find_one (d : List UInt8) (c : UInt8) : (Bytes.find? d.toArray [c].toArray 0 d.toArray.size).isSome = d.contains c := by
  unfold Bytes.find?
  rw [Bool.eq_iff_iff, List.find?_isSome, List.contains_iff_mem]
  constructor
  · rintro ⟨i, hi, hx⟩
    have hx' := beq_iff_eq.mp hx
    have e := congrArg Array.toList hx'
    simp only [List.size_toArray, List.length_cons, List.length_nil, Array.toList_extract, List.extract_eq_drop_take] at e
    have hm : c ∈ (d.drop i).take (i + (0 + 1) - i) := by rw [e]; exact List.mem_singleton.mpr rfl
    exact List.mem_of_mem_drop (List.mem_of_mem_take hm)
  · intro hc
    obtain ⟨i, hi, e⟩ := List.mem_iff_getElem.mp hc
    refine ⟨i, ?_, ?_⟩
    · simp only [List.size_toArray, List.length_cons, List.length_nil, List.mem_map, List.mem_range]
      exact ⟨i, by omega, by omega⟩
    · refine beq_iff_eq.mpr ?_
      apply Array.toList_inj.mp
      simp only [List.size_toArray, List.length_cons, List.length_nil, Array.toList_extract, List.extract_eq_drop_take]
      rw [show i + (0 + 1) - i = 1 by omega, List.drop_eq_getElem_cons hi, List.take_succ_cons, List.take_zero, e]
theorem in_one_B {d x : List UInt8} {c : UInt8} (F : Fr h₀ L s.heap m) (N : News h₀ L s.heap news) (hh : A.handled = none) (hx : x = [c]) (h : ∀ h' k, Fr h₀ L h' m → News h₀ L h' news → Q (.bool (d.contains c)) { s with heap := h', toks := k }) : wpAny (model prog w) A (compareOp .In (.bytes x.toArray u) (.bytes d.toArray t)) Q E s := by
  subst hx
  refine in_bytes_B hh fun h' k hk => ?_
  rw [find_one]
  exact h h' k (frStay F hk) (newsStay N hk)
end
structure Tk where
  kind : Str
  worth : List UInt8
  spot : Int
abbrev SIGNS : List UInt8 := [60, 62, 64, 44, 59, 58, 46, 92]
theorem sign_not : ∀ n : Fin 256, SIGNS.contains (UInt8.ofNat n.1) = true → UInt8.ofNat n.1 ≠ 34 ∧ UInt8.ofNat n.1 ≠ 91 ∧ UInt8.ofNat n.1 ≠ 40 := by decide +kernel
theorem atom_not : ∀ n : Fin 256, atomB (UInt8.ofNat n.1) = true → UInt8.ofNat n.1 ≠ 34 ∧ UInt8.ofNat n.1 ≠ 91 ∧ UInt8.ofNat n.1 ≠ 40 ∧ SIGNS.contains (UInt8.ofNat n.1) = false := by decide +kernel
theorem sign_not' {c : UInt8} (h : SIGNS.contains c = true) : c ≠ 34 ∧ c ≠ 91 ∧ c ≠ 40 := by
  have := sign_not ⟨c.toNat, c.toNat_lt⟩
  simp only [UInt8.ofNat_toNat] at this
  exact this h
theorem atom_not' {c : UInt8} (h : atomB c = true) : c ≠ 34 ∧ c ≠ 91 ∧ c ≠ 40 ∧ SIGNS.contains c = false := by
  have := atom_not ⟨c.toNat, c.toNat_lt⟩
  simp only [UInt8.ofNat_toNat] at this
  exact this h
inductive TokenAt (d : List UInt8) (i : Int) : Tk → Int → Prop
  | quoted {x : List UInt8} {e : Int} : d.getD i.toNat 0 = 34 → Closed d 34 [] (i + 1) x e → TokenAt d i ⟨"quoted", x, i⟩ e
  | literal {x : List UInt8} {e : Int} : d.getD i.toNat 0 = 91 → Closed d 93 [91] (i + 1) x e → TokenAt d i ⟨"literal", x, i⟩ e
  | comment {x : List UInt8} {e : Int} : d.getD i.toNat 0 = 40 → Closed d 41 [40] (i + 1) x e → TokenAt d i ⟨"comment", x, i⟩ e
  | sign : SIGNS.contains (d.getD i.toNat 0) = true → TokenAt d i ⟨"sign", [d.getD i.toNat 0], i⟩ (i + 1)
  | atom : atomB (d.getD i.toNat 0) = true → TokenAt d i ⟨"atom", atomRun d i, i⟩ (i + (atomRun d i).length)
abbrev tkO (k : Tk) (t1 t2 t3 : Tok) : Obj := tupO [.str k.kind t1, .bytes k.worth.toArray t2, .int k.spot t3]
/-- a new pair of a token and a place -/
def IsTokPair (h h' : Heap) (k : Tk) (x : Int) (r : Value) : Prop := ∃ b a t1 t2 t3 u, r = .ref b ∧ h.get? b = none ∧ h'.get? b = some (tupO [.ref a, .int x u]) ∧ h.get? a = none ∧ h'.get? a = some (tkO k t1 t2 t3)
theorem isTokPair_N {h₀ h' : Heap} {L b a : Addr} {news : List (Addr × Obj)} {k : Tk} {x x' : Int} {t1 t2 t3 u : Tok} (N : News h₀ L h' news) (h1 : (b, tupO [.ref a, .int x u]) ∈ news) (h2 : (a, tkO k t1 t2 t3) ∈ news) (ex : x' = x) : IsTokPair h₀ h' k x' (.ref b) := by
  subst ex
  exact ⟨b, a, t1, t2, t3, u, rfl, N.fresh h1, N.get h1, N.fresh h2, N.get h2⟩
local macro_rules | `(tactic| walk_at "compareOp In bytes bytes") => `(tactic| ((with_reducible rename Fr _ _ _ _ => F'); (with_reducible rename News _ _ _ _ => N'); (refine' in_one_B F' N' ?hh ?hx ?_; (case hh => assumption); (case hx => assumption)); intro _ _ _ _; (try k_sweep)))
section
variable {w : World} {A : Around} {E Q : Value → Shared → Prop} {s : Shared} {mean : ExcName → Option Value} {mg mb : Str → Option Value} {n : Nat}
theorem token_at_spec {d : List UInt8} {td ti : Tok} {i e : Int} {k : Tk} (O : Ok w A s.heap mean mg mb n) (hn : 4 ≤ n) (hd : d.length ≤ 1000) (hi : 0 ≤ i) (hi2 : i < d.length) (hT : TokenAt d i k e)
    (hret : ∀ r h' tk', s.heap.StaysIn h' → IsTokPair s.heap h' k e r → Q r { s with heap := h', toks := tk' }) :
    wpAny (model PySem.Challenge.rw_no0366_01.row.prog w) A (call (.ref 111) [.bytes d.toArray td, .int i ti]) Q E s := by
  walk_at "mine fill"
  have hcut : cut d i (i + 1) = [d.getD i.toNat 0] := cut1 hi hi2
  have hne : ∀ c : UInt8, d.getD i.toNat 0 ≠ c → (cut d i (i + 1) == [c]) = false := fun c q => by
    rw [hcut]
    exact beq_eq_false_iff_ne.mpr fun z => q (List.cons.inj z).1
  have heq : ∀ c : UInt8, d.getD i.toNat 0 = c → (cut d i (i + 1) == [c]) = true := fun c q => by
    rw [hcut, q]; exact beq_iff_eq.mpr rfl
  refine' enterOk [(Str.ofString "at", .int i ti), (Str.ofString "data", .bytes d.toArray td)] ?k1 ?kn ?k3 ?k4 ?k6 ?k7 ?c1 ?c2 ?c3 ?c4 ?_
  walk_at "mine enter"
  cases hT with
  | quoted a b =>
    have h1 := heq 34 a
    k_steps
    rename Fr _ _ _ _ => F
    rename News _ _ _ _ => N
    exact hret _ _ _ F.keep (isTokPair_N N (List.Mem.head _) (List.Mem.tail _ (List.Mem.head _)) rfl)
  | literal a b =>
    have h1 := hne 34 (by rw [a]; decide)
    have h2 := heq 91 a
    k_steps
    rename Fr _ _ _ _ => F
    rename News _ _ _ _ => N
    exact hret _ _ _ F.keep (isTokPair_N N (List.Mem.head _) (List.Mem.tail _ (List.Mem.head _)) rfl)
  | comment a b =>
    have h1 := hne 34 (by rw [a]; decide)
    have h2 := hne 91 (by rw [a]; decide)
    have h3 := heq 40 a
    k_steps
    rename Fr _ _ _ _ => F
    rename News _ _ _ _ => N
    exact hret _ _ _ F.keep (isTokPair_N N (List.Mem.head _) (List.Mem.tail _ (List.Mem.head _)) rfl)
  | sign a =>
    obtain ⟨g1, g2, g3⟩ := sign_not' a
    have h1 := hne 34 g1
    have h2 := hne 91 g2
    have h3 := hne 40 g3
    k_steps
    rename Fr _ _ _ _ => F
    rename News _ _ _ _ => N
    rw [hcut] at N
    exact hret _ _ _ F.keep (isTokPair_N N (List.Mem.head _) (List.Mem.tail _ (List.Mem.head _)) rfl)
  | atom a =>
    obtain ⟨g1, g2, g3, g4⟩ := atom_not' a
    have ha : atomCode (at_ d i) = true := a
    have h1 := hne 34 g1
    have h2 := hne 91 g2
    have h3 := hne 40 g3
    k_steps
    rename Fr _ _ _ _ => F
    rename News _ _ _ _ => N
    exact hret _ _ _ F.keep (isTokPair_N N (List.Mem.head _) (List.Mem.tail _ (List.Mem.head _)) rfl)
end
section
variable {w : World} {A : Around} {E : Value → Shared → Prop} {Q : Value → Shared → Prop} {s : Shared} {mean : ExcName → Option Value} {mg mb : Str → Option Value} {n : Nat} {h₀ : Heap} {L : Addr} {m : Str → Option Value} {news : List (Addr × Obj)} {env : Env}
theorem token_K {d : List UInt8} {td ti : Tok} {i e : Int} {k : Tk} (O : Ok w A h₀ mean mg mb n) (hn : 5 ≤ n) (F : Fr h₀ L s.heap m) (N : News h₀ L s.heap news) (hd : d.length ≤ 1000) (hi : 0 ≤ i) (hi2 : i < d.length) (hT : TokenAt d i k e)
    (hret : ∀ (b a : Addr) t1 t2 t3 u h' tk', Fr h₀ L h' m → News h₀ L h' ((b, tupO [.ref a, .int e u]) :: (a, tkO k t1 t2 t3) :: news) → (∀ p ∈ news, @Ne Nat p.1 b) → (∀ p ∈ news, @Ne Nat p.1 a) → Q (.ref b) { s with heap := h', toks := tk' }) : wpAny (model PySem.Challenge.rw_no0366_01.row.prog w) (A.deeper env) (call (.ref 111) [.bytes d.toArray td, .int i ti]) Q E s :=
  token_at_spec (O.callee (k := 4) F (by omega)) (Nat.le_refl _) hd hi hi2 hT fun r h' tk' st out => by
    obtain ⟨b, a, t1, t2, t3, u, rfl, nb, ob, na, oa⟩ := out
    exact hret b a t1 t2 t3 u h' tk' (frStay F st) (newsAdd F (newsAdd F (newsStay N st) na oa) nb ob) (newsNe N nb) (newsNe N na)
end

end
local macro_rules | `(tactic| walk_at "call ref") => `(tactic| ((with_reducible refine token_K (by assumption) (by omega) (by k_asm) (by k_asm) (by omega) (by omega) (by omega) (by assumption) ?_); intro _ _ _ _ _ _ _ _ F' N' ne9 ne8; (try simp only [List.forall_mem_cons, List.not_mem_nil, false_implies, implies_true, and_true] at ne9 ne8); (try dsimp only)))
local macro_rules | `(tactic| k_all) => `(tactic| assumption)

section
structure TkAt where
  a : Addr
  k : Tk
  t1 : Tok
  t2 : Tok
  t3 : Tok
def refs (q : List TkAt) : List Value := q.map fun p => .ref p.a
def led (q : List TkAt) : List (Addr × Obj) := q.map fun p => (p.a, tkO p.k p.t1 p.t2 p.t3)
theorem refs_len (q : List TkAt) : (refs q).length = q.length := by simp [refs]
theorem refs_push (q : List TkAt) (p : TkAt) : (refs q).toArray.push (.ref p.a) = (refs (q ++ [p])).toArray := by simp [refs]
/-- a new list of new tokens -/
def IsToks (h h' : Heap) (ks : List Tk) (r : Value) : Prop := ∃ (P : Addr) (q : List TkAt) (k : Nat), r = .ref P ∧ q.map (·.k) = ks ∧ (∀ p ∈ led q, @Ne Nat p.1 P) ∧ ∀ p ∈ (P, PySem.W.listOf (refs q).toArray k) :: led q, h'.get? p.1 = some p.2 ∧ h.get? p.1 = none
theorem toks_step {h₀ h : Heap} {L P b a : Addr} {o : Obj} {q : List TkAt} {k : Nat} {kk : Tk} {t1 t2 t3 : Tok} (N : News h₀ L h ((b, o) :: (a, tkO kk t1 t2 t3) :: (P, PySem.W.listOf ((refs q).toArray.push (.ref a)) k) :: led q)) :
    News h₀ L h ((P, PySem.W.listOf (refs (q ++ [⟨a, kk, t1, t2, t3⟩])).toArray k) :: led (q ++ [⟨a, kk, t1, t2, t3⟩])) := by
  intro p hp
  rcases List.mem_cons.mp hp with rfl | hp
  · rw [← refs_push]
    exact N _ (.tail _ (.tail _ (.head _)))
  · simp only [led, List.map_append, List.map_cons, List.map_nil, List.mem_append, List.mem_singleton] at hp
    rcases hp with hp | rfl
    · exact N _ (.tail _ (.tail _ (.tail _ hp)))
    · exact N _ (.tail _ (.head _))
theorem led_ne {q : List TkAt} {P : Addr} {p : TkAt} (hq : ∀ p ∈ led q, @Ne Nat p.1 P) (hn : @Ne Nat P p.a) : ∀ x ∈ led (q ++ [p]), @Ne Nat x.1 P := by
  intro x hx
  simp only [led, List.map_append, List.map_cons, List.map_nil, List.mem_append, List.mem_singleton] at hx
  rcases hx with hx | rfl
  · exact hq x hx
  · exact Ne.symm hn
local macro_rules | `(tactic| walk_at "call builtin:list.append") => `(tactic| ((with_reducible show wpAny _ _ (call (Value.builtin _) [Value.ref _, Value.ref _]) _ _ _); k_dflt (refine' append_K ?k1 ?k2 ?k3 ?_ ?z; (case k1 => k_asm); (case k2 => k_asm); (case k3 => k_upd); (case z => (rw [sizeLine_eq]; (try simp only [List.size_toArray, refs_len]); omega))); intro h' F' N'; (try k_sweep)))
inductive Toks (d : List UInt8) : Int → List Tk → Prop
  | nil {i : Int} : (d.length : Int) ≤ i → Toks d i []
  | cons {i e j : Int} {k : Tk} {ks : List Tk} : i < d.length → TokenAt d i k e → i < e → White d e j → e ≤ j → Toks d j ks → Toks d i (k :: ks)
section
variable {w : World} {A : Around} {E Q : Value → Shared → Prop} {s : Shared} {mean : ExcName → Option Value} {mg mb : Str → Option Value} {n : Nat}
inductive InvT (d : List UInt8) (td : Tok) (all : List Tk) (m : Nat) (μ : Str → Option Value) (nx : List (Addr × Obj)) : Prop
  | mk (P : Addr) (q : List TkAt) (k : Nat) (j : Int) (t : Tok) (ks : List Tk) : nx = (P, PySem.W.listOf (refs q).toArray k) :: led q → (∀ p ∈ led q, @Ne Nat p.1 P) → m = (d.length + 3 - j).toNat → 0 ≤ j → Toks d j ks → q.map (·.k) ++ ks = all → (q.length : Int) ≤ j → (q.length : Int) ≤ d.length →
      μ (Str.ofString "octets") = some (.bytes d.toArray td) → μ (Str.ofString "found") = some (.ref P) → μ (Str.ofString "at") = some (.int j t) → InvT d td all m μ nx
theorem tokens_of_spec {d : List UInt8} {td : Tok} {i : Int} {all : List Tk} (O : Ok w A s.heap mean mg mb n) (hn : 5 ≤ n) (hd : d.length ≤ 1000) (hi : 0 ≤ i) (hW : White d 0 i) (hT : Toks d i all)
    (hret : ∀ r h' tk', s.heap.StaysIn h' → IsToks s.heap h' all r → Q r { s with heap := h', toks := tk' }) :
    wpAny (model PySem.Challenge.rw_no0366_01.row.prog w) A (call (.ref 125) [.bytes d.toArray td]) Q E s := by
  walk_at "mine fill"
  refine' enterOk [(Str.ofString "octets", .bytes d.toArray td)] ?k1 ?kn ?k3 ?k4 ?k6 ?k7 ?c1 ?c2 ?c3 ?c4 ?_
  walk_at "mine enter"
  k_steps
  rename Fr _ _ _ _ => F₂
  rename News _ _ _ _ => N₂
  refine While_inv2 (n₀ := (d.length + 3 - i).toNat) (InvT d td all) F₂ N₂ ?_ ?_
  · exact ⟨_, [], 0, i, _, all, rfl, (by intro p hp; cases hp), rfl, hi, hT, rfl, hi, Int.natCast_nonneg _, rfl, rfl, rfl⟩
  · rintro m μ nx h tk F N ⟨P, q, k, j, t, ks, rfl, hq, rfl, hj0, hT', hall, hl1, hl2, m1, m2, m3⟩
    clear F₂ N₂
    cases hT' with
    | nil a =>
      k_steps
      rename Fr _ _ _ _ => F
      rename News _ _ _ _ => N
      exact hret _ _ _ F.keep ⟨P, q, k, rfl, by simpa using hall, hq, fun p hp => ⟨(N p hp).1, (N p hp).2.2⟩⟩
    | cons a b c f g rest =>
      have hf : 0 ≤ j := hj0
      k_steps
      rename Fr _ _ _ _ => F
      rename News _ _ _ _ => N
      rename _ ∧ _ => ne8
      refine ⟨_, _, _, _, _, rfl, F, toks_step N, ?_, P, _, _, _, _, _, rfl, led_ne hq ne8.1, rfl, ?_, rest, ?_, ?_, ?_, m1, m2, rfl⟩
      · omega
      · omega
      · simpa using hall
      · simp only [List.length_append, List.length_cons, List.length_nil]; omega
      · simp only [List.length_append, List.length_cons, List.length_nil]; omega
end

end
section
theorem newsApp {h₀ h h' : Heap} {L : Addr} {m : Str → Option Value} {news l : List (Addr × Obj)} (F : Fr h₀ L h m) (N : News h₀ L h' news) (hl : ∀ p ∈ l, h'.get? p.1 = some p.2 ∧ h.get? p.1 = none) : News h₀ L h' (l ++ news) := by
  induction l with
  | nil => exact N
  | cons p l ih => exact newsAdd F (ih fun q hq => hl q (.tail _ hq)) (hl p (.head _)).2 (hl p (.head _)).1
/-- the kind that a token bears -/
def kindAt (h : Heap) : Value → Str
  | .ref a => match h.get? a with
    | some ⟨_, _, .seq xs _, _⟩ => match (xs[0]? : Option Value) with
      | some (Value.str k _) => k
      | _ => ""
    | _ => ""
  | _ => ""
theorem kindAt_of {h : Heap} {p : TkAt} (e : h.get? p.a = some (tkO p.k p.t1 p.t2 p.t3)) : kindAt h (.ref p.a) = p.k.kind := by
  unfold kindAt
  simp only [e]
  rfl
def noComment (k : Tk) : Bool := k.kind != "comment"
theorem filter_refs {h : Heap} : ∀ (q : List TkAt), (∀ p ∈ led q, h.get? p.1 = some p.2) → (refs q).filter (fun v => kindAt h v != "comment") = refs (q.filter fun p => noComment p.k)
  | [], _ => rfl
  | p :: q, hq => by
    have ih := filter_refs q fun x hx => hq x (.tail _ hx)
    have e := kindAt_of (hq _ (.head _))
    simp only [refs, List.map_cons, List.filter_cons, e] at ih ⊢
    have e2 : noComment p.k = (p.k.kind != "comment") := rfl
    rw [e2]
    split
    · simp only [List.map_cons]; rw [ih]
    · exact ih
theorem paired_eq {α : Type} {F : α → α → Prop} (hF : ∀ a b, F a b → b = a) : ∀ {l₁ l₂ : List α}, Paired F l₁ l₂ → l₂ = l₁
  | _, _, .nil => rfl
  | _, _, .cons h r => by rw [hF _ _ h, paired_eq hF r]
section
variable {w : World} {A : Around} {E : Value → Shared → Prop} {s : Shared} {env : Env}
/-- a comprehension that keeps the tokens that are no comments: the tests -/
theorem quiet_comments {q : List TkAt} {x : Str} {px pos pos2 cpos ipos kpos : Pos} {scope : Scope} {wr : List Addr} (hk : scope.kind = .function) (hx : scope.names.lookup x = some .local) (hxd : (x == ("__debug__" : Str)) = false) {h₀ : Heap} {s₂ : Shared} (hwr : ∀ b ∈ wr, h₀.get? b = none) (hs₂ : h₀.StaysIn s₂.heap) (hq : ∀ p ∈ led q, h₀.get? p.1 = some p.2) :
    QuietOn PySem.Challenge.rw_no0366_01.row.prog w A env scope x [.Compare (.Subscript (.Name x pos) (.Constant (.int 0) 0 ipos) cpos) [.NotEq] [.Constant (.str "comment") 0 kpos] px] (.Name x pos2) wr (fun i v => (refs q).toArray[i]? = some v) (fun v => kindAt h₀ v != "comment") (fun v y => v = y) s₂ := by
  have name : ∀ (pos : Pos) C (s₃ : Shared) (m₃ : Str → Option Value) (v : Value) (E' : Value → Shared → Prop) (Q' : Value → Shared → Prop), s₃.heap.Ns C m₃ → m₃ x = some v → Q' v s₃ → wpAny (model PySem.Challenge.rw_no0366_01.row.prog w) A (eval (.Name x pos) (compEnv scope C env)) Q' E' s₃ := by
    intro pos C s₃ m₃ v E' Q' hn hm hQ
    exact wpAny_Name (wpAny_loadName_local (env := compEnv scope C env) hk hx hn hm hQ) hxd
  constructor
  · intro C i v s₃ m₃ E' hv hn hm hst htk
    have hmem : v ∈ refs q := List.mem_of_getElem? (by simpa using hv)
    obtain ⟨p, hp, rfl⟩ := List.mem_map.mp hmem
    have ho := hq _ (List.mem_map.mpr ⟨p, hp, rfl⟩)
    have ho₃ : s₃.heap.get? p.a = some (tkO p.k p.t1 p.t2 p.t3) := hst _ _ (fun hb => by rw [hwr _ hb] at ho; cases ho) (hs₂ _ _ ho)
    rw [List.forIn_cons]
    refine wpAny_bind ?_
    rw [if_pos rfl]
    refine wpAny_bind (wpAny_isTrue_Compare1 ?_)
    refine Subscript_ (name pos C s₃ m₃ _ _ _ hn hm ?_)
    refine wpAny_Constant_int ?_
    refine item_tupleT (j := 0) (x := .str p.k.kind p.t1) ⟨_, ho₃, rfl, _, rfl⟩ (by decide) (by decide) rfl rfl ?_
    refine Calls.Constant_str ?_
    refine ne_str ?_
    refine wpAny_truthy_bool ?_
    refine wpAny_pure (wpAny_pure ⟨?_, _, _, rfl, fun _ _ e => e⟩)
    rw [kindAt_of ho]
  · intro C i v s₃ m₃ E' hv hp hn hm hst htk
    exact name pos2 C s₃ m₃ _ _ _ hn hm ⟨rfl, _, _, rfl, fun _ _ e => e⟩
end
section
local macro_rules | `(tactic| walk_at "eval ListComp") => `(tactic| (refine hold ?_))
local macro_rules | `(tactic| walk_at "exec Assign cons ListComp") => `(tactic| (refine hold ?_))
variable {w : World} {A : Around} {E Q : Value → Shared → Prop} {s : Shared} {mean : ExcName → Option Value} {mg mb : Str → Option Value} {n : Nat}
theorem without_comments_spec {P : Addr} {q : List TkAt} {k : Nat} (O : Ok w A s.heap mean mg mb n) (hn : 1 ≤ n) (hP : s.heap.get? P = some (PySem.W.listOf (refs q).toArray k)) (hq : ∀ p ∈ led q, s.heap.get? p.1 = some p.2) (hz : q.length ≤ 2000)
    (hret : ∀ (D : Addr) h' tk' k', s.heap.StaysIn h' → s.heap.get? D = none → h'.get? D = some (PySem.W.listOf (refs (q.filter fun p => noComment p.k)).toArray k') → Q (.ref D) { s with heap := h', toks := tk' }) :
    wpAny (model PySem.Challenge.rw_no0366_01.row.prog w) A (call (.ref 130) [.ref P]) Q E s := by
  walk_at "mine fill"
  refine' enterOk [(Str.ofString "tokens", .ref P)] ?k1 ?kn ?k3 ?k4 ?k6 ?k7 ?c1 ?c2 ?c3 ?c4 ?_
  walk_at "mine enter"
  k_steps
  rename Fr _ _ _ _ => F
  rename Heap => H
  refine wpAny_ListComp_walk (fun v => kindAt s.heap v != "comment") (fun v y => v = y) (by decide) (by decide) rfl (by decide) rfl ?_
  refine ld F rfl ?_
  have hl : ∀ h, s.heap.StaysIn h → h.IsList P (refs q).toArray := fun h hk => ⟨_, hk _ _ hP, rfl, _, rfl⟩
  refine wpAny_pyIter_list (hl _ F.keep) ?_
  have hlt : P < H.objs.size := Heap.lt_size (F.keep _ _ hP)
  have hne : P ≠ H.objs.size := Nat.ne_of_lt hlt
  have hI : s.heap.get? H.objs.size = none := by
    cases e : s.heap.get? H.objs.size with
    | none => rfl
    | some o => exact absurd (Heap.lt_size (F.keep _ _ e)) (Nat.lt_irrefl _)
  refine ⟨_, _, _, _, _, _, rfl, Walks.list (show (A.deeper _).handled = none from O.hh) H.objs.size P hne (refs q).toArray, ?_, ⟨⟨_, Heap.get?_push_size _ rfl, rfl, rfl⟩, hl _ fun b o e => Heap.get?_push_of_some _ (F.keep b o e)⟩, ?_, ?_, ?_⟩
  · rw [sizeLine_eq, List.size_toArray, refs_len]; omega
  · intro b hb
    show b < (H.push _).objs.size
    rw [Heap.size_push]
    rcases List.mem_cons.mp hb with rfl | hb
    · exact Nat.lt_succ_self _
    · rw [List.mem_singleton.mp hb]; exact Nat.lt_succ_of_lt hlt
  · refine' quiet_comments (h₀ := s.heap) ?a ?b ?c ?d ?e hq
    case a => exact rfl
    case b => exact rfl
    case c => decide
    case d => intro b hb; rw [List.mem_singleton.mp hb]; exact hI
    case e => exact fun b o e => Heap.get?_push_of_some _ (F.keep b o e)
  · intro D h' tk' ys vs hD hlD hpl hlen hP' hF hk
    have hvs : vs = refs q := by
      apply List.ext_getElem?
      intro i
      by_cases hi : i < vs.length
      · have := hP' i _ (List.getElem?_eq_getElem hi)
        rw [List.getElem?_eq_getElem hi]
        simpa using this.symm
      · rw [List.getElem?_eq_none (by omega), List.getElem?_eq_none (by rw [hlen] at hi; simpa using hi)]
    have e1 := paired_eq (fun a b (e : a = b) => e.symm) hF
    rw [hvs, filter_refs q hq] at e1
    obtain ⟨k', hk'⟩ := hpl
    have st : s.heap.StaysIn h' := fun b o e => hk b o (fun hb => by rw [List.mem_singleton.mp hb, hI] at e; cases e) (Heap.get?_push_of_some _ (F.keep b o e))
    have hD0 : s.heap.get? D = none := by
      cases e : s.heap.get? D with
      | none => rfl
      | some o =>
        have := Heap.get?_push_of_some { cls := .type "list_iterator", data := .fields #[.ref P, .int 0 0] } (F.keep _ _ e)
        rw [this] at hD; cases hD
    refine hret D h' tk' k' st hD0 ?_
    rw [hk', ← e1]
end
section
variable {w : World} {A : Around} {E : Value → Shared → Prop} {Q : Value → Shared → Prop} {s : Shared} {mean : ExcName → Option Value} {mg mb : Str → Option Value} {n : Nat} {h₀ : Heap} {L : Addr} {m : Str → Option Value} {news : List (Addr × Obj)} {env : Env}
theorem without_K {P : Addr} {q : List TkAt} {k : Nat} (O : Ok w A h₀ mean mg mb n) (hn : 2 ≤ n) (F : Fr h₀ L s.heap m) (N : News h₀ L s.heap news) (hP : s.heap.get? P = some (PySem.W.listOf (refs q).toArray k)) (hq : ∀ p ∈ led q, s.heap.get? p.1 = some p.2) (hz : q.length ≤ 2000)
    (hret : ∀ (D : Addr) h' tk' k', Fr h₀ L h' m → News h₀ L h' ((D, PySem.W.listOf (refs (q.filter fun p => noComment p.k)).toArray k') :: news) → (∀ p ∈ news, @Ne Nat p.1 D) → Q (.ref D) { s with heap := h', toks := tk' }) : wpAny (model PySem.Challenge.rw_no0366_01.row.prog w) (A.deeper env) (call (.ref 130) [.ref P]) Q E s :=
  without_comments_spec (O.callee (k := 1) F (by omega)) (Nat.le_refl _) hP hq hz fun D h' tk' k' st hn ho => hret D h' tk' k' (frStay F st) (newsAdd F (newsStay N st) hn ho) (newsNe N hn)
end

end
section
def ForStep (h₀ : Heap) (L : Addr) (s : Shared) (It : Addr) (o : Obj) (J : Nat → (Str → Option Value) → List (Addr × Obj) → Prop) (Q : Flow → Shared → Prop) (i : Nat) (f : Flow) (s₃ : Shared) : Prop :=
  match f with
  | .next | .cont => ∃ h' tk m₂ news₂, s₃ = { s with heap := h', toks := tk } ∧ Fr h₀ L h' m₂ ∧ News h₀ L h' ((It, o) :: news₂) ∧ (∀ p ∈ news₂, @Ne Nat p.1 It) ∧ J (i + 1) m₂ news₂
  | .brk => Q .next s₃
  | .ret v => Q (.ret v) s₃
section
variable {prog : Program} {w : World} {A : Around} {E : Value → Shared → Prop} {Q : Flow → Shared → Prop} {s : Shared} {env : Env} {h₀ : Heap}
theorem For_core {target : Expr} {body : List Stmt} {m : Str → Option Value} {news : List (Addr × Obj)} {n : Nat} {It : Addr} {St : Nat → Obj → Prop} {G : Heap → Prop} {Pv : Nat → Value → Prop} (J : Nat → (Str → Option Value) → List (Addr × Obj) → Prop)
    (item : ∀ (i : Nat) (s : Shared) (Q : Option Value → Shared → Prop) (E : Value → Shared → Prop) (o : Obj), i < n → s.heap.get? It = some o → St i o → G s.heap → (∀ h' o' tk v, Pv i v → h'.get? It = some o' → St (i + 1) o' → Heap.SameBut It s.heap h' → Q (some v) { s with heap := h', toks := tk }) → wpAny (model prog w) A (pyNext (.ref It)) Q E s)
    (last : ∀ (s : Shared) (Q : Option Value → Shared → Prop) (E : Value → Shared → Prop) (o : Obj), s.heap.get? It = some o → St n o → G s.heap → (∀ h', Heap.ExtBut It s.heap h' → Q none { s with heap := h' }) → wpAny (model prog w) A (pyNext (.ref It)) Q E s)
    (hG : ∀ i m news h, i ≤ n → Fr h₀ env.locals h m → News h₀ env.locals h news → J i m news → G h)
    (hIt : h₀.get? It = none) (hLI : env.locals ≠ It) {o₀ : Obj} (ho₀ : s.heap.get? It = some o₀) (hSt : St 0 o₀) (F : Fr h₀ env.locals s.heap m) (N : News h₀ env.locals s.heap news) (hne : ∀ p ∈ news, @Ne Nat p.1 It) (hJ : J 0 m news)
    (turn : ∀ i v m₁ news₁ h₁ tk₁ o, i < n → Pv i v → Fr h₀ env.locals h₁ m₁ → News h₀ env.locals h₁ ((It, o) :: news₁) → (∀ p ∈ news₁, @Ne Nat p.1 It) → J i m₁ news₁ →
      wpAny (model prog w) A (assign target env v) (fun _ s₂ => wpAny (model prog w) A (execs body env) (ForStep h₀ env.locals s It o J Q i) E s₂) E { s with heap := h₁, toks := tk₁ })
    (fin : ∀ m₁ news₁ h₁ tk₁, Fr h₀ env.locals h₁ m₁ → News h₀ env.locals h₁ news₁ → J n m₁ news₁ → Q .next { s with heap := h₁, toks := tk₁ })
    (ht : ∀ (i : Nat) (s : Shared) (v : Value) (Q : Unit → Shared → Prop) (E : Value → Shared → Prop) (o : Obj), s.heap.get? It = some o → St i o → Pv (i - 1) v → Q () s → wpAny (model prog w) A (letOwnedTupleGo target (.ref It) v) Q E s) (hE : PassesOwn (model prog w) A env E) :
    codeAny (model prog w) A (.forLoop target (.ref It) body [] env) (fun r s' => match r with | .ok f => Q f s' | .error e => cameBackBy (model prog w) A env E e s') s := by
  refine codeAny_forLoop_any (fun k s' => ∃ h tk m₁ news₁ o i, s' = { s with heap := h, toks := tk } ∧ i ≤ n ∧ k = n + 1 - i ∧ h.get? It = some o ∧ St i o ∧ Fr h₀ env.locals h m₁ ∧ News h₀ env.locals h news₁ ∧ (∀ p ∈ news₁, @Ne Nat p.1 It) ∧ J i m₁ news₁) ?_ (n + 1)
    ⟨s.heap, s.toks, m, news, o₀, 0, rfl, Nat.zero_le _, rfl, ho₀, hSt, F, N, hne, hJ⟩
  rintro k s' ⟨h, tk, m₁, news₁, o, i, rfl, hi, rfl, ho, hS, F₁, N₁, hn₁, hJ₁⟩
  have hg := hG i m₁ news₁ h hi F₁ N₁ hJ₁
  have keep0 : ∀ b x, h₀.get? b = some x → b ≠ It := fun b x e q => by rw [q, hIt] at e; cases e
  by_cases hlt : i < n
  · refine item i _ _ _ o hlt ho hS hg fun h' o' tk' v hv ho' hS' hsb => ?_
    have F₂ : Fr h₀ env.locals h' m₁ := ⟨F₁.ns.sameBut hsb hLI, fun b x e => (hsb.2 b (keep0 b x e)).trans (F₁.keep b x e), F₁.above⟩
    have N₂ : News h₀ env.locals h' ((It, o') :: news₁) := by
      intro p hp
      rcases List.mem_cons.mp hp with rfl | hp
      · exact ⟨ho', fun e => hLI e.symm, hIt⟩
      · exact ⟨(hsb.2 p.1 (hn₁ p hp)).trans (N₁ p hp).1, (N₁ p hp).2⟩
    refine ht (i + 1) _ _ _ _ o' ho' hS' hv ?_
    refine wpAny_passesOwn hE (wpAny_mono (turn i v m₁ news₁ h' tk' o' hlt hv F₂ N₂ hn₁ hJ₁) (fun _ s₂ h₂ => ?_) fun _ _ x => x)
    refine wpAny_passesOwn hE (wpAny_mono h₂ (fun f s₃ h₃ => ?_) fun _ _ x => x)
    have nx : (∃ h' tk m₂ news₂, s₃ = { s with heap := h', toks := tk } ∧ Fr h₀ env.locals h' m₂ ∧ News h₀ env.locals h' ((It, o') :: news₂) ∧ (∀ p ∈ news₂, @Ne Nat p.1 It) ∧ J (i + 1) m₂ news₂) →
        ∃ m, m < n + 1 - i ∧ ∃ h tk m₁ news₁ o i, s₃ = { s with heap := h, toks := tk } ∧ i ≤ n ∧ m = n + 1 - i ∧ h.get? It = some o ∧ St i o ∧ Fr h₀ env.locals h m₁ ∧ News h₀ env.locals h news₁ ∧ (∀ p ∈ news₁, @Ne Nat p.1 It) ∧ J i m₁ news₁ := by
      rintro ⟨h3, tk3, m3, news3, e3, F3, N3, hn3, J3⟩
      exact ⟨n + 1 - (i + 1), by omega, h3, tk3, m3, news3, o', i + 1, e3, hlt, rfl, (N3 _ (.head _)).1, hS', F3, fun p hp => N3 p (.tail _ hp), hn3, J3⟩
    cases f with
    | next => exact nx h₃
    | cont => exact nx h₃
    | brk => exact h₃
    | ret v => exact h₃
  · have hin : i = n := by omega
    subst hin
    refine last _ _ _ o ho hS hg fun h' hsb => wpAny_execs_nil ?_
    have F₂ : Fr h₀ env.locals h' m₁ := ⟨F₁.ns.extBut hsb hLI, fun b x e => hsb b x (keep0 b x e) (F₁.keep b x e), F₁.above⟩
    have N₂ : News h₀ env.locals h' news₁ := fun p hp => ⟨hsb p.1 p.2 (hn₁ p hp) (N₁ p hp).1, (N₁ p hp).2⟩
    exact fin m₁ news₁ h' _ F₂ N₂ hJ₁
theorem For_listB {target : Expr} {body : List Stmt} {m : Str → Option Value} {news : List (Addr × Obj)} {D : Addr} {vs : List Value} (J : Nat → (Str → Option Value) → List (Addr × Obj) → Prop)
    (hh : A.handled = none) (hG : ∀ i m news h, i ≤ vs.length → Fr h₀ env.locals h m → News h₀ env.locals h news → J i m news → h.IsList D vs.toArray)
    (F : Fr h₀ env.locals s.heap m) (N : News h₀ env.locals s.heap news) (hJ : J 0 m news)
    (turn : ∀ i v m₁ news₁ h₁ tk₁ It o, vs[i]? = some v → Fr h₀ env.locals h₁ m₁ → News h₀ env.locals h₁ ((It, o) :: news₁) → (∀ p ∈ news₁, @Ne Nat p.1 It) → J i m₁ news₁ →
      wpAny (model prog w) A (assign target env v) (fun _ s₂ => wpAny (model prog w) A (execs body env) (ForStep h₀ env.locals s It o J Q i) E s₂) E { s with heap := h₁, toks := tk₁ })
    (fin : ∀ m₁ news₁ h₁ tk₁, Fr h₀ env.locals h₁ m₁ → News h₀ env.locals h₁ news₁ → J vs.length m₁ news₁ → Q .next { s with heap := h₁, toks := tk₁ })
    (ht : (∀ It v, letOwnedTupleGo target (.ref It) v = pure ()) ∨ (∃ elts x1 tp, target = .Tuple elts x1 tp ∧ ∀ v ∈ vs, ∃ a, v = .ref a)) (hE : PassesOwn (model prog w) A env E) :
    wpAny (model prog w) A (pyIter (.ref D)) (fun it s₂ => codeAny (model prog w) A (.forLoop target it body [] env) (fun r s' => match r with | .ok f => Q f s' | .error e => cameBackBy (model prog w) A env E e s') s₂) E s := by
  have hl := hG 0 m news s.heap (Nat.zero_le _) F N hJ
  refine wpAny_pyIter_list hl ?_
  obtain ⟨ol, hol, _⟩ := id hl
  have hlt : D < s.heap.objs.size := Heap.lt_size hol
  have hLI : env.locals < s.heap.objs.size := F.ns.lt
  have hI : h₀.get? s.heap.objs.size = none := by
    cases e : h₀.get? s.heap.objs.size with
    | none => rfl
    | some o => exact absurd (Heap.lt_size (F.keep _ _ e)) (Nat.lt_irrefl _)
  refine For_core (n := vs.length) (It := s.heap.objs.size) (St := fun i o => o.cls = .type "list_iterator" ∧ o.data = .fields #[.ref D, .int i 0]) (G := fun h => h.IsList D vs.toArray) (Pv := fun i v => vs[i]? = some v) J ?_ ?_ hG hI (Nat.ne_of_lt hLI)
    (Heap.get?_push_size _ rfl) ⟨rfl, rfl⟩ (F.push _) (fun p hp => ⟨Heap.get?_push_of_some _ (N p hp).1, (N p hp).2⟩) (fun p hp => Nat.ne_of_lt (Heap.lt_size (N p hp).1)) hJ ?_ fin ?_ hE
  · intro i s' Q' E' o hi ho hS hg hQ
    refine wpAny_pyNext_list_item (i := i) ⟨o, ho, hS.1, hS.2⟩ hg (x := vs[i]) (by simp [hi]) fun h' hit' hs' => ?_
    obtain ⟨o', ho', c', d'⟩ := hit'
    exact hQ h' o' s'.toks _ (by simp [hi]) ho' ⟨c', d'⟩ hs'
  · intro s' Q' E' o ho hS hg hQ
    exact wpAny_pyNext_list_end hh ⟨o, ho, hS.1, hS.2⟩ hg (by simp) hQ
  · intro i v m₁ news₁ h₁ tk₁ o hi hv F₁ N₁ hn₁ hJ₁
    exact turn i v m₁ news₁ h₁ tk₁ _ o hv F₁ N₁ hn₁ hJ₁
  · intro i s' v Q' E' o ho hS hv hQ
    rcases ht with ht | ⟨elts, x1, tp, rfl, hr⟩
    · exact wpAny_of_eq (ht _ _) hQ
    · obtain ⟨a, rfl⟩ := hr v (List.mem_of_getElem? hv)
      exact wpAny_letOwnedTupleGo_listiter ⟨o, ho, hS.1, hS.2⟩ hQ
theorem For_rangeB {x : Str} {px : Pos} {body : List Stmt} {m : Str → Option Value} {news : List (Addr × Obj)} {r : Addr} {n : Nat} {t₀ u₀ v₀ : Tok} (J : Nat → (Str → Option Value) → List (Addr × Obj) → Prop)
    (hh : A.handled = none) (hr : IsRange s.heap r 0 (n : Int) 1 t₀ u₀ v₀) (hsmall : Builtin.Range.small 0 (n : Int) 1 = true)
    (F : Fr h₀ env.locals s.heap m) (N : News h₀ env.locals s.heap news) (hJ : J 0 m news)
    (turn : ∀ i t m₁ news₁ h₁ tk₁ It o, i < n → Fr h₀ env.locals h₁ m₁ → News h₀ env.locals h₁ ((It, o) :: news₁) → (∀ p ∈ news₁, @Ne Nat p.1 It) → J i m₁ news₁ →
      wpAny (model prog w) A (assign (.Name x px) env (.int (i : Int) t)) (fun _ s₂ => wpAny (model prog w) A (execs body env) (ForStep h₀ env.locals s It o J Q i) E s₂) E { s with heap := h₁, toks := tk₁ })
    (fin : ∀ m₁ news₁ h₁ tk₁, Fr h₀ env.locals h₁ m₁ → News h₀ env.locals h₁ news₁ → J n m₁ news₁ → Q .next { s with heap := h₁, toks := tk₁ })
    (hE : PassesOwn (model prog w) A env E) :
    wpAny (model prog w) A (pyIter (.ref r)) (fun it s₂ => codeAny (model prog w) A (.forLoop (.Name x px) it body [] env) (fun r s' => match r with | .ok f => Q f s' | .error e => cameBackBy (model prog w) A env E e s') s₂) E s := by
  refine wpAny_pyIter_range hr hsmall ?_
  have hLI : env.locals < s.heap.objs.size := F.ns.lt
  have hI : h₀.get? s.heap.objs.size = none := by
    cases e : h₀.get? s.heap.objs.size with
    | none => rfl
    | some o => exact absurd (Heap.lt_size (F.keep _ _ e)) (Nat.lt_irrefl _)
  have hn : Builtin.Range.rangeSize 0 (n : Int) 1 = (n : Int) := rangeSize_nat _ _
  refine For_core (n := n) (It := s.heap.objs.size) (St := fun i o => o = { cls := .type "range_iterator", data := .fields #[rawInt (i : Int), rawInt ((n : Int) - i), rawInt 1] }) (G := fun _ => True) (Pv := fun i v => ∃ t, v = .int (i : Int) t) J ?_ ?_ (fun _ _ _ _ _ _ _ _ => trivial) hI (Nat.ne_of_lt hLI)
    (Heap.get?_push_size _ rfl) (by rw [hn]; simp) (F.push _) (fun p hp => ⟨Heap.get?_push_of_some _ (N p hp).1, (N p hp).2⟩) (fun p hp => Nat.ne_of_lt (Heap.lt_size (N p hp).1)) hJ ?_ fin ?_ hE
  · rintro i s' Q' E' o hi ho rfl _ hQ
    refine wpAny_pyNext_range_item ho (by omega) fun h' hit' hs' => ?_
    refine hQ h' _ _ _ ⟨_, rfl⟩ hit' ?_ hs'
    have e1 : ((i : Int) + 1) = ((i + 1 : Nat) : Int) := by omega
    have e2 : ((n : Int) - i - 1) = (n : Int) - ((i + 1 : Nat) : Int) := by omega
    rw [e1, e2]
  · rintro s' Q' E' o ho rfl _ hQ
    exact wpAny_pyNext_range_end hh ho (by omega) hQ
  · rintro i v m₁ news₁ h₁ tk₁ o hi ⟨t, rfl⟩ F₁ N₁ hn₁ hJ₁
    exact turn i t m₁ news₁ h₁ tk₁ _ o hi F₁ N₁ hn₁ hJ₁
  · intro i s' v Q' E' o ho hS hv hQ
    exact wpAny_of_eq rfl hQ
end

end
section
/-- an exception that has its entry; P: what its own object keeps -/
def TrD (P : Obj → Prop) (h base : Heap) (e : Addr) (fl : Value) : Prop :=
  ∃ oe vs T oT ts, h.get? e = some oe ∧ P oe ∧ oe.data = .fields vs ∧ vs[1]? = some (.ref T) ∧ base.get? T = none ∧ T ≠ e ∧ h.get? T = some oT ∧ oT.data = .fields ts ∧ ts[3]? = some fl
def Kept (base : Heap) (l : List Env) (h h' : Heap) : Prop := base.StaysIn h' ∧ h'.FunFrames base l ∧ h.UpToSlots h'
section
variable {M : Model} {A : Around} {E : Value → Shared → Prop} {s : Shared} {P : Obj → Prop}
theorem entryD (hP : ∀ o f, P o → P (Obj.mapFields f o)) {base : Heap} {env : Env} {outer : List Env} {L e : Addr} {oe : Obj} {vs : Array Value} {head : Value} {hadNext : Bool} {Q : Unit → Shared → Prop}
    (hfr : A.frames = some (env :: outer)) (hl : s.heap.FunFrames base (env :: outer)) (he : s.heap.get? e = some oe) (hpe : P oe) (hkb : base.StaysIn s.heap) (hen : base.get? e = none) (hd : oe.data = .fields vs) (hsz : 1 < vs.size) (hf : env.frame = some L)
    (h : ∀ h', Kept base (env :: outer) s.heap h' → TrD P h' base e (rawInt L) → Q () { s with heap := h' }) :
    wpAny M A (do let a ← frameOf env; let pl ← entryPlaceOf L hadNext; let b ← EntryCells.newEntry head a .none (rawInt L) .none pl; setField (.ref e) 1 b) Q E s := by
  have hene : e ∉ (env :: outer).filterMap (·.frame) := fun hm => by
    obtain ⟨_, o, ho, hnf⟩ := hl.mem hm
    rw [he] at ho; cases ho; exact hnf vs hd
  refine wpAny_bind (wpAny_frameOf_fun hfr hl hf fun h₁ hs₁ => wpAny_bind (wpAny_entryPlaceOf fun pl hpl => ?_))
  have he₁ : h₁.get? e = some oe := (hs₁.2.1 e hene).trans he
  have kb₁ : base.StaysIn h₁ := fun b o hbo => (hs₁.2.1 b fun hm => by rw [(hl.mem hm).1] at hbo; cases hbo).trans (hkb b o hbo)
  unfold EntryCells.newEntry newFields
  refine wpAny_bind (wpAny_newObj_type ?_ (hpl.sizeOk5 _ _ _ _ _))
  generalize hO : ({ cls := .type "traceback", dict := none, data := .fields ([head, .ref L, .none, rawInt L, .none] ++ (if pl.isEmpty then List.replicate 6 Value.none else pl)).toArray } : Obj) = O
  have hOf : O.data = .fields ([head, .ref L, .none, rawInt L, .none] ++ (if pl.isEmpty then List.replicate 6 Value.none else pl)).toArray := by rw [← hO]
  have he₂ := Heap.get?_push_of_some (h := h₁) O he₁
  have hTe : h₁.objs.size ≠ e := Nat.ne_of_gt (Heap.lt_size he₁)
  have hd₃ := Obj.data_mapFields hd (·.setIfInBounds 1 (Value.ref h₁.objs.size))
  refine wpAny_setField he₂ hd hsz (h _ ⟨?_, hl.of_keeps ?_, ?_⟩ ⟨_, _, h₁.objs.size, O, _, Heap.get?_update_self _ he₂ (Obj.isFreed_of_fields hd₃), hP _ _ hpe, hd₃, by simp [hsz], kb₁.fresh, hTe, ?_, hOf, by simp⟩)
  · intro b o hbo
    rw [Heap.get?_update_other _ _ (fun q : e = b => by rw [← q, hen] at hbo; cases hbo)]
    exact Heap.get?_push_of_some _ (kb₁ b o hbo)
  · intro b o hb hnf
    obtain ⟨sl, hs⟩ := hs₁.2.2 b o hb
    refine ⟨{ o with slots := sl }, ?_, rfl⟩
    rw [Heap.get?_update_other _ _ (fun q : e = b => by rw [← q, he] at hb; cases hb; exact hnf vs hd)]
    exact Heap.get?_push_of_some _ hs
  · intro b o hb hnf
    obtain ⟨sl, hs⟩ := hs₁.2.2 b o hb
    refine ⟨sl, ?_⟩
    rw [Heap.get?_update_other _ _ (fun q : e = b => by rw [← q, he] at hb; cases hb; exact hnf vs hd)]
    exact Heap.get?_push_of_some _ hs
  · rw [Heap.get?_update_other _ _ (Ne.symm hTe)]
    exact Heap.get?_push_size h₁ (by rw [← hO]; rfl)
theorem note_firstD (hP : ∀ o f, P o → P (Obj.mapFields f o)) {base : Heap} {env : Env} {outer : List Env} {L e : Addr} {oe : Obj} {vs : Array Value} {Q : Unit → Shared → Prop}
    (hfr : A.frames = some (env :: outer)) (hl : s.heap.FunFrames base (env :: outer)) (hf : env.frame = some L) (he : s.heap.get? e = some oe) (hpe : P oe) (hkb : base.StaysIn s.heap) (hen : base.get? e = none) (hd : oe.data = .fields vs) (h1 : vs[1]? = some .none)
    (h : ∀ h', Kept base (env :: outer) s.heap h' → TrD P h' base e (rawInt L) → Q () { s with heap := h' }) : wpAny M A (noteFrame (.ref e) env) Q E s := by
  unfold noteFrame
  simp only [hf]
  refine wpAny_bind (wpAny_field he hd h1 ?_)
  rw [if_neg (by decide)]
  exact entryD hP hfr hl he hpe hkb hen hd (Array.getElem?_eq_some_iff.mp h1).1 hf h
theorem note_nextD (hP : ∀ o f, P o → P (Obj.mapFields f o)) {base : Heap} {env : Env} {outer : List Env} {L e : Addr} {Q : Unit → Shared → Prop}
    (hfr : A.frames = some (env :: outer)) (hl : s.heap.FunFrames base (env :: outer)) (hf : env.frame = some L) (ht : TrD P s.heap base e .none) (hkb : base.StaysIn s.heap) (hen : base.get? e = none)
    (h : ∀ h', Kept base (env :: outer) s.heap h' → TrD P h' base e (rawInt L) → Q () { s with heap := h' }) : wpAny M A (noteFrame (.ref e) env) Q E s := by
  obtain ⟨oe, vs, T, oT, ts, he, hpe, hd, h1, hnT, hTe, hT, hdT, h3⟩ := ht
  unfold noteFrame
  simp only [hf]
  refine wpAny_bind (wpAny_field he hd h1 ?_)
  rw [if_pos (show (Value.ref T != Value.none) = true from by simp)]
  refine wpAny_bind (wpAny_field hT hdT h3 ?_)
  rw [if_neg (show ¬ ((Value.none == rawInt L) = true) from by simp [rawInt])]
  refine wpAny_bind (wpAny_setField hT hdT (Array.getElem?_eq_some_iff.mp h3).1 ?_)
  have other : ∀ b, b ≠ T → (s.heap.update T (Obj.mapFields (·.setIfInBounds 3 Value.none))).get? b = s.heap.get? b := fun b hb => Heap.get?_update_other _ _ (Ne.symm hb)
  have rec_ : ∀ b o, s.heap.get? b = some o → (∀ vs, o.data ≠ .fields vs) → b ≠ T := fun b o hb hnf q => by rw [q, hT] at hb; cases hb; exact hnf ts hdT
  refine entryD hP hfr (hl.of_keeps fun b o hb hnf => ⟨o, (other b (rec_ b o hb hnf)).trans hb, rfl⟩) ((other e (Ne.symm hTe)).trans he) hpe
    (fun b o hbo => (other b fun q => by rw [q, hnT] at hbo; cases hbo).trans (hkb b o hbo)) hen hd (Array.getElem?_eq_some_iff.mp h1).1 hf
    fun h' k t => h h' ⟨k.1, k.2.1, fun b o hb hnf => k.2.2 b o ((other b (rec_ b o hb hnf)).trans hb) hnf⟩ t
theorem flightD {base : Heap} {l : List Env} {e : Addr} {fl : Value} {Q : Unit → Shared → Prop} (hkb : base.StaysIn s.heap) (hl : s.heap.FunFrames base l) (ht : TrD P s.heap base e fl)
    (h : ∀ h', Kept base l s.heap h' → TrD P h' base e .none → Q () { s with heap := h' }) : wpAny M A (setFlight (.ref e) none) Q E s := by
  obtain ⟨oe, vs, T, oT, ts, he, hpe, hd, h1, hnT, hTe, hT, hdT, h3⟩ := ht
  have hsz3 : 3 < ts.size := (Array.getElem?_eq_some_iff.mp h3).1
  have other : ∀ b, b ≠ T → (s.heap.update T (Obj.mapFields (·.setIfInBounds 3 ((none : Option Addr).elim Value.none fun f => rawInt f)))).get? b = s.heap.get? b := fun b hb => Heap.get?_update_other _ _ (Ne.symm hb)
  have rec_ : ∀ b o, s.heap.get? b = some o → (∀ vs, o.data ≠ .fields vs) → b ≠ T := fun b o hb hnf q => by rw [q, hT] at hb; cases hb; exact hnf ts hdT
  unfold setFlight
  refine wpAny_bind (wpAny_field he hd h1 ?_)
  rw [if_pos (show (Value.ref T != Value.none) = true from by simp)]
  refine wpAny_setField hT hdT hsz3 (h _ ⟨fun b o hbo => (other b fun q => by rw [q, hnT] at hbo; cases hbo).trans (hkb b o hbo),
    hl.of_keeps fun b o hb hnf => ⟨o, (other b (rec_ b o hb hnf)).trans hb, rfl⟩, fun b o hb hnf => ⟨o.slots, (other b (rec_ b o hb hnf)).trans hb⟩⟩
    ⟨oe, vs, T, _, _, (other e (Ne.symm hTe)).trans he, hpe, hd, h1, hnT, hTe, Heap.get?_update_self _ hT (Obj.isFreed_of_fields (Obj.data_mapFields hdT _)), Obj.data_mapFields hdT _, by simp [hsz3]⟩)
theorem kept_trans {base h₁ h₂ h₃ : Heap} {l : List Env} (x : Kept base l h₁ h₂) (y : Kept base l h₂ h₃) : Kept base l h₁ h₃ := ⟨y.1, y.2.1, x.2.2.trans y.2.2⟩
/-- frames of a stack -/
abbrev frs (l : List Env) : List Addr := l.filterMap (·.frame)
/-- the stack that stands on a heap -/
structure Stk (w : World) (A : Around) (l : List Env) (h : Heap) (mean : ExcName → Option Value) (mg mb : Str → Option Value) : Prop where
  fr : A.frames = some l
  ff : h.FunFrames (hideAll h (frs l)) l
  X : (top0.heap_39 w.params).In (hideAll h (frs l))
  T : Top topView (looseW topView [Str.ofString "PostError"]) mean mg mb (hideAll h (frs l))
end
theorem hide_stays {h h' : Heap} {l : List Env} {L : Addr} {m : Str → Option Value} (F : Fr h L h' m) {env : Env} (hL : env.frame = some L) : (hideAll h (frs l)).StaysIn (hideAll h' (frs (env :: l))) := by
  intro b o q
  refine hideAll_get _ (F.keep b o (of_hideAll _ q)) fun hm => ?_
  obtain ⟨env', he, hf⟩ := List.mem_filterMap.mp hm
  rcases List.mem_cons.mp he with rfl | he
  · rw [hL] at hf; cases hf
    have := Heap.lt_size (of_hideAll _ q)
    exact absurd (Nat.lt_of_lt_of_le this F.above) (Nat.lt_irrefl _)
  · rw [hideAll_none _ (List.mem_filterMap.mpr ⟨env', he, hf⟩)] at q; cases q
theorem Stk.push {w : World} {A : Around} {h h' : Heap} {l : List Env} {L a : Addr} {m : Str → Option Value} {name : Str} {scope : Scope} {cd : Value} {mean : ExcName → Option Value} {mg mb : Str → Option Value} (K : Stk w A l h mean mg mb) (F : Fr h L h' m) (hk : scope.kind = .function) :
    Stk w (A.deeper (envOf name scope L a cd)) (envOf name scope L a cd :: l) h' mean mg mb := by
  have B : Below A (hideAll h (frs l)) l h := ⟨K.fr, fun b o q => of_hideAll _ q, K.ff⟩
  have B' := B.push (name := name) (a := a) (cd := cd) F hk
  exact ⟨B'.stack, funFrames_hide B'.frames fun env he a ha => List.mem_filterMap.mpr ⟨env, he, ha⟩, K.X.keeps (hide_stays F rfl), K.T.keeps (hide_stays F rfl)⟩
/-- what the exception's own object keeps, and its dict -/
def ExcP (D : Addr) (o : Obj) : Prop := o.cls = .ref 59 ∧ o.dict = some D
theorem excP_map {D : Addr} (o : Obj) (f : Array Value → Array Value) (h : ExcP D o) : ExcP D (Obj.mapFields f o) := by
  obtain ⟨c, d, dt, sl⟩ := o
  cases dt <;> exact h
def AtP (x : Int) (o : Obj) : Prop := (∃ es n, o.data = .dict es n) ∧ ∃ t, lookIn "at" o = some (some (.int x t))
/-- a new exception -/
structure Made (h h' : Heap) (e D : Addr) (x : Int) : Prop where
  keeps : h.StaysIn h'
  new : h.get? e = none
  newD : h.get? D = none
  at_ : ∃ o vs, h'.get? e = some o ∧ ExcP D o ∧ o.data = .fields vs ∧ vs[1]? = some .none
  dict : ∃ o, h'.get? D = some o ∧ AtP x o
/-- raised below h: what stood stands, the frames' own objects up to their slots -/
structure Thrown (h : Heap) (l : List Env) (e D : Addr) (x : Int) (h' : Heap) : Prop where
  stays : (hideAll h (frs l)).StaysIn h'
  slots : h.UpToSlots h'
  new : h.get? e = none
  newD : h.get? D = none
  dict : ∃ o, h'.get? D = some o ∧ AtP x o
  ff : h'.FunFrames (hideAll h (frs l)) l
  tr : TrD (ExcP D) h' (hideAll h (frs l)) e .none
theorem atP_slots {h h' : Heap} {D : Addr} {x : Int} (k : h.UpToSlots h') (d : ∃ o, h.get? D = some o ∧ AtP x o) : ∃ o, h'.get? D = some o ∧ AtP x o := by
  obtain ⟨o, ho, ⟨es, n, hd⟩, ha⟩ := d
  obtain ⟨sl, hs⟩ := k D o ho fun vs q => by rw [hd] at q; cases q
  exact ⟨_, hs, ⟨es, n, hd⟩, ha⟩
theorem trD_base {P : Obj → Prop} {h b b' : Heap} {e : Addr} {fl : Value} (k : b'.StaysIn b) (t : TrD P h b e fl) : TrD P h b' e fl := by
  obtain ⟨oe, vs, T, oT, ts, he, hpe, hd, h1, hnT, r⟩ := t
  exact ⟨oe, vs, T, oT, ts, he, hpe, hd, h1, fresh_of_stays k hnT, r⟩
section
variable {M : Model} {w : World} {A : Around} {E : Value → Shared → Prop} {s : Shared} {mean : ExcName → Option Value} {mg mb : Str → Option Value} {g h : Heap} {l : List Env} {L a e D : Addr} {m : Str → Option Value} {name : Str} {scope : Scope} {cd : Value} {x : Int} {Q : Unit → Shared → Prop}
theorem leave_first (K : Stk w A l g mean mg mb) (F : Fr g L h m) (R : Made h s.heap e D x) (hQ : ∀ h', Thrown g l e D x h' → Q () { s with heap := h' }) (hk : scope.kind = .function := by rfl) :
    wpAny M (A.deeper (envOf name scope L a cd)) (leaving (envOf name scope L a cd) (.ref e)) Q E s := by
  have K' := K.push (name := name) (a := a) (cd := cd) F hk
  have k2 := hide_stays (l := l) F (env := envOf name scope L a cd) rfl
  obtain ⟨o, vs, ho, hpo, hd, h1⟩ := R.at_
  have hb : (hideAll h (frs (envOf name scope L a cd :: l))).get? e = none := by
    cases q : (hideAll h (frs (envOf name scope L a cd :: l))).get? e with
    | none => rfl
    | some o => have := of_hideAll _ q; rw [R.new] at this; cases this
  refine wpAny_bind (note_firstD excP_map K'.fr (K'.ff.of_keeps fun b o q _ => ⟨o, R.keeps b o q, rfl⟩) rfl ho hpo (fun b o q => R.keeps b o (of_hideAll _ q)) hb hd h1 fun h₁ k₁ t₁ => ?_)
  refine flightD k₁.1 k₁.2.1 t₁ fun h₂ k₂ t₂ => hQ h₂ ?_
  have ka := kept_trans k₁ k₂
  obtain ⟨q1, ⟨_, _, q2⟩, q3⟩ := ka
  exact ⟨fun b o q => q1 b o (k2 b o q), ((Heap.UpToSlots.of_keeps F.keep).trans (Heap.UpToSlots.of_keeps R.keeps)).trans q3, Fr.noneBack F R.new, Fr.noneBack F R.newD, atP_slots q3 R.dict, funFrames_base k2 q2, trD_base k2 t₂⟩
theorem leave_next (K : Stk w A l g mean mg mb) (F : Fr g L h m) (R : Thrown h (envOf name scope L a cd :: l) e D x s.heap) (hQ : ∀ h', Thrown g l e D x h' → Q () { s with heap := h' }) (hk : scope.kind = .function := by rfl) :
    wpAny M (A.deeper (envOf name scope L a cd)) (leaving (envOf name scope L a cd) (.ref e)) Q E s := by
  have K' := K.push (name := name) (a := a) (cd := cd) F hk
  have k2 := hide_stays (l := l) F (env := envOf name scope L a cd) rfl
  have hb : (hideAll h (frs (envOf name scope L a cd :: l))).get? e = none := by
    cases q : (hideAll h (frs (envOf name scope L a cd :: l))).get? e with
    | none => rfl
    | some o => have := of_hideAll _ q; rw [R.new] at this; cases this
  refine wpAny_bind (note_nextD excP_map K'.fr R.ff rfl R.tr R.stays hb fun h₁ k₁ t₁ => ?_)
  refine flightD k₁.1 k₁.2.1 t₁ fun h₂ k₂ t₂ => hQ h₂ ?_
  obtain ⟨q1, ⟨_, _, q2⟩, q3⟩ := kept_trans k₁ k₂
  exact ⟨fun b o q => q1 b o (k2 b o q), ((Heap.UpToSlots.of_keeps F.keep).trans R.slots).trans q3, Fr.noneBack F R.new, Fr.noneBack F R.newD, atP_slots q3 R.dict, funFrames_base k2 q2, trD_base k2 t₂⟩
end

end
section
theorem ground {w : World} {A : Around} {mean : ExcName → Option Value} {mg mb : Str → Option Value} {g h h₅ : Heap} {l : List Env} {L : Addr} {m : Str → Option Value} {env : Env} (K : Stk w A l g mean mg mb) (F : Fr g L h m) (hL : env.frame = some L)
    (st : (hideAll h (frs (env :: l))).StaysIn h₅) (sm : h.UpToSlots h₅) :
    ∃ g', KtsTurn (frs l) g g' ∧ Fr g' L h₅ m ∧ (top0.heap_39 w.params).In g' ∧ Top topView (looseW topView [Str.ofString "PostError"]) mean mg mb g' := by
  have hmem : ∀ b ∈ frs l, ∃ o, g.get? b = some o ∧ ∀ vs, o.data ≠ .fields vs := fun b hb => (K.ff.mem hb).2
  have hgL : g.get? L = none := by
    cases q : g.get? L with
    | none => rfl
    | some o => exact absurd (Nat.lt_of_lt_of_le (Heap.lt_size q) F.above) (Nat.lt_irrefl _)
  have far : ∀ b o, g.get? b = some o → b ∉ frs l → h₅.get? b = some o := fun b o q hb => by
    refine st b o (hideAll_get _ (F.keep b o q) fun hm => ?_)
    obtain ⟨env', he, hf⟩ := List.mem_filterMap.mp hm
    rcases List.mem_cons.mp he with rfl | he
    · rw [hL] at hf; cases hf; rw [hgL] at q; cases q
    · exact hb (List.mem_filterMap.mpr ⟨env', he, hf⟩)
  obtain ⟨T, k⟩ := kts_turn_at (fs := frs l) (g := g) (h := h₅) (fun b hb => ⟨_, (hmem b hb).choose_spec.1⟩) far fun b o q hb => by
    obtain ⟨o', ho', hn⟩ := hmem b hb
    rw [q] at ho'; cases ho'
    exact sm b o (F.keep b o q) hn
  have st' : (hideAll g (frs l)).StaysIn (ktsHeap h₅ (frs l) g) := fun b o q => T.other b o (of_hideAll _ q) fun hm => by rw [hideAll_none _ hm] at q; cases q
  exact ⟨_, T, ⟨sm.ns F.ns, k, by rw [T.size]; exact F.above⟩, K.X.keeps st', K.T.keeps st'⟩
theorem news_ground {g g' h h₅ : Heap} {l : List Env} {L : Addr} {news : List (Addr × Obj)} {env : Env} (T : KtsTurn (frs l) g g') (N : News g L h news) (hmem : ∀ b ∈ frs l, ∃ o, g.get? b = some o) (hL : env.frame = some L) (st : (hideAll h (frs (env :: l))).StaysIn h₅) : News g' L h₅ news := by
  intro p hp
  obtain ⟨a, b, c⟩ := N p hp
  refine ⟨st _ _ (hideAll_get _ a fun hm => ?_), b, T.none_ _ c⟩
  obtain ⟨env', he, hf⟩ := List.mem_filterMap.mp hm
  rcases List.mem_cons.mp he with rfl | he
  · rw [hL] at hf; cases hf; exact b rfl
  · obtain ⟨o, ho⟩ := hmem _ (List.mem_filterMap.mpr ⟨env', he, hf⟩)
    rw [c] at ho; cases ho
section
variable {w : World} {A : Around} {E : Value → Shared → Prop} {s : Shared} {mean : ExcName → Option Value} {mg mb : Str → Option Value} {g h : Heap} {l : List Env} {L a e D : Addr} {m : Str → Option Value} {name : Str} {scope : Scope} {cd : Value} {v : Int} {Q : Flow → Shared → Prop} {news : List (Addr × Obj)}
  {x n : Str} {np pos : Pos} {b₀ : Stmt} {suite : List Stmt} {rest : List ExceptHandler}
theorem caught_D (K : Stk w A l g mean mg mb) (F : Fr g L h m) (N : News g L h news) (R : Thrown h (envOf name scope L a cd :: l) e D v s.heap)
    (T : KtsTest PySem.Challenge.rw_no0366_01.row.prog w (top0.heap_39 w.params) topView (looseW topView [Str.ofString "PostError"]) mg mb name scope L a cd (.ref 59) (.Name x np) true)
    (k : ∀ h' g' tk o oD, KtsTurn (frs l) g g' → Fr g' L h' (fun y => if y = n then some (.ref e) else m y) → News g' L h' ((e, o) :: (D, oD) :: news) → ExcP D o → (∃ vs, o.data = .fields vs) → AtP v oD →
      (top0.heap_39 w.params).In g' → Top topView (looseW topView [Str.ofString "PostError"]) mean mg mb g' →
      wpAny (model PySem.Challenge.rw_no0366_01.row.prog w) ((A.deeper (envOf name scope L a cd)).mark (some (.ref e))) (execs (b₀ :: suite) (envOf name scope L a cd))
        (fun f s₄ => wpAny (model PySem.Challenge.rw_no0366_01.row.prog w) (A.deeper (envOf name scope L a cd)) (do bindName (envOf name scope L a cd) n .none; unbindBehindTheSuite (envOf name scope L a cd) n pos) (fun _ s₅ => Q f s₅) E s₄)
        (AsSuiteRaised (model PySem.Challenge.rw_no0366_01.row.prog w) ((A.deeper (envOf name scope L a cd)).mark (some (.ref e))) (envOf name scope L a cd) n pos (notedBy (model PySem.Challenge.rw_no0366_01.row.prog w) ((A.deeper (envOf name scope L a cd)).mark (some (.ref e))) (envOf name scope L a cd) (cameBackBy (model PySem.Challenge.rw_no0366_01.row.prog w) (A.deeper (envOf name scope L a cd)) (envOf name scope L a cd) E)))
        { s with heap := h', toks := tk })
    (hk : scope.kind = .function := by rfl) (hlo : (envOf name scope L a cd).kindOf n = some .local := by rfl) :
    wpAny (model PySem.Challenge.rw_no0366_01.row.prog w) (A.deeper (envOf name scope L a cd)) (noteFrame (.ref e) (envOf name scope L a cd))
      (fun _ s₂ => wpAny (model PySem.Challenge.rw_no0366_01.row.prog w) (A.deeper (envOf name scope L a cd)) (setFlight (.ref e) none) (fun _ s₃ =>
        wpAny (model PySem.Challenge.rw_no0366_01.row.prog w) (A.deeper (envOf name scope L a cd)) (handleBy (.ref e) (envOf name scope L a cd) (.ExceptHandler (some (.Name x np)) (some n) (b₀ :: suite) pos :: rest)) Q E s₃) E s₂) E s := by
  have K' := K.push (name := name) (a := a) (cd := cd) F hk
  have hb : (hideAll h (frs (envOf name scope L a cd :: l))).get? e = none := by
    cases q : (hideAll h (frs (envOf name scope L a cd :: l))).get? e with
    | none => rfl
    | some o => have := of_hideAll _ q; rw [R.new] at this; cases this
  refine note_nextD excP_map K'.fr R.ff rfl R.tr R.stays hb fun h₁ k₁ t₁ => ?_
  refine flightD k₁.1 k₁.2.1 t₁ fun h₂ k₂ t₂ => ?_
  have ka := kept_trans k₁ k₂
  obtain ⟨g₂, T₂, F₂, X₂, P₂⟩ := ground K F rfl ka.1 (R.slots.trans ka.2.2)
  have Lt : Looks (model PySem.Challenge.rw_no0366_01.row.prog w) h₂ (typeOf (.ref e)) (.ref 59) := by
    obtain ⟨oe, vs, _, _, _, he, hpe, _⟩ := t₂
    rw [← hpe.1]
    exact (Looks.ld he).andThen .now
  refine wpAny_handleBy_cons (codeAny_handlers_test (T _ _ _ _ g₂ e m F₂ X₂ (topRead_of P₂) Lt fun h₅ kp => ?_)) (by intro q; cases q)
  refine codeAny_handlers_suite_as ?_
  have t₅ : TrD (ExcP D) h₅ (hideAll h (frs (envOf name scope L a cd :: l))) e .none := by
    obtain ⟨oe, vs, T, oT, ts, he, hpe, hd, h1, hnT, hTe, hT, r⟩ := t₂
    exact ⟨oe, vs, T, oT, ts, kp _ _ he, hpe, hd, h1, hnT, hTe, kp _ _ hT, r⟩
  refine flightD (fun b o q => kp _ _ (ka.1 b o q)) (ka.2.1.of_keeps fun b o q _ => ⟨o, kp b o q, rfl⟩) t₅ fun h₆ k₆ t₆ => ?_
  have sm₆ : s.heap.UpToSlots h₆ := (ka.2.2.trans (Heap.UpToSlots.of_keeps kp)).trans k₆.2.2
  obtain ⟨g₆, T₆, F₆, X₆, P₆⟩ := ground K F rfl k₆.1 (R.slots.trans sm₆)
  obtain ⟨oD, hD, hAt⟩ := atP_slots sm₆ R.dict
  have N₆ := news_ground T₆ N (fun b hb => ⟨_, (K.ff.mem hb).2.choose_spec.1⟩) rfl k₆.1
  obtain ⟨oL, _, _, hoL, _⟩ := id F.ns
  obtain ⟨oe, vs, Tb, oT, ts, he, hpe, hd, _⟩ := t₆
  have N₇ : News g₆ L h₆ ((e, oe) :: (D, oD) :: news) := by
    intro p hp
    rcases List.mem_cons.mp hp with rfl | hp
    · exact ⟨he, (fun q => by have q' : e = L := q; have := R.new; rw [q', hoL] at this; cases this), T₆.none_ _ (Fr.noneBack F R.new)⟩
    · rcases List.mem_cons.mp hp with rfl | hp
      · exact ⟨hD, (fun q => by have q' : D = L := q; have := R.newD; rw [q', hoL] at this; cases this), T₆.none_ _ (Fr.noneBack F R.newD)⟩
      · exact N₆ p hp
  exact stN F₆ N₇ (fun h₇ F₇ N₇ => k h₇ g₆ _ oe oD T₆ F₇ N₇ hpe ⟨vs, hd⟩ hAt X₆ P₆) hk hlo
end

end
section
section
variable {w : World} {A : Around} {E : Value → Shared → Prop} {h : Heap} {g : Array GenState} {d : Drawn} {t : Nat} {os : OsState}
variable {nm q : Str} {C N : Addr} {bs bm : List Value} {hdct : Bool} {sn : List Str} {sub : List Value} {ab : Bool} {col : Option Bool} {dd : Option Addr} {k0 k1 k2 k3 k5 : Option Value}
theorem check_own_new {M : Model} (hcont : (Value.ref C :: bm).contains (.type "Exception") = true) {rest : List Value} {Q : Unit → Shared → Prop} (hC : h.get? C = some (excClassObj nm q C N bs bm hdct sn sub ab col dd k0 k1 k2 k3 k5 "Exception.__new__"))
    (hq : Q () ⟨h, g, d, t, os⟩) : wpAny M A (checkBuiltinCall "Exception.__new__" ⟨.ref C :: rest, []⟩) Q E ⟨h, g, d, t, os⟩ := by
  have F := PySem.F.excBase_Exception
  have hstar := F.noStar
  simp only [checkBuiltinCall, F.newKind, F.newSplit, F.newRow]
  repeat (first | refine wpAny_loadPart_at hC ?_ | (refine wpAny_isSubtype_exc hC ?_; rw [hcont]) | refine wpAny_staticBase_exc hC ?_ | refine wpAny_madeBy_exc hC ?_ | simp only [bne_self_eq_false, Bool.false_eq_true, if_false] | wp_step)
  exact hq
theorem code_own_new {prog : Program} {R : Result → Shared → Prop} (hcB : (Value.ref C :: bm).contains (.type "Exception") = true) (hcA : (Value.ref C :: bm).contains (.type "AttributeError") = false) (hcN : (Value.ref C :: bm).contains (.type "NameError") = false)
    {rest : List Value} (hC : h.get? C = some (excClassObj nm q C N bs bm hdct sn sub ab col dd k0 k1 k2 k3 k5 "Exception.__new__")) (hrest : rest.length ≤ sizeLine)
    (hq : R (.ok (.ret (.ref (h.objs.size + 1)))) ⟨(h.push { cls := .type "tuple", data := .seq rest.toArray }).push { cls := .ref C, data := .fields #[.ref h.objs.size, .none, .none, .none, .bool false, .none] }, g, d, t, os⟩) :
    codeAny (model prog w) A (.builtin "Exception.__new__" ⟨.ref C :: rest, []⟩) R ⟨h, g, d, t, os⟩ := by
  have F := PySem.F.excBase_Exception
  have hends := F.ends
  refine codeAny_builtinAt F.entry ?_
  unfold Builtin.«BaseException.__new__»
  refine PySem.wpAt_bind ?_
  show PySem.wpAt _ _ _ (stack >>= _) _ _ _
  refine PySem.wpAt_bind (PySem.wpAt_stack fun p below => PySem.wpAt_of_wpAny ?_)
  wp_walk
  refine PySem.wpAt_of_wpAny ?_
  rw [F.owner]
  repeat (first | with_reducible refine wpAny_madeHere_exc F.canon hC ?_ | with_reducible refine wpAny_loadPart_at hC ?_ | (with_reducible refine wpAny_isSubtype_exc hC ?_; first | rw [hcB] | rw [hcA] | rw [hcN]) | wp_step)
  show R _ _
  rw [Heap.size_push]
  exact hq
theorem call_own {prog : Program} {K : Frag} {fI : Addr} (X : K.In h) (hcB : (Value.ref C :: bm).contains (.type "Exception") = true) (hcA : (Value.ref C :: bm).contains (.type "AttributeError") = false) (hcN : (Value.ref C :: bm).contains (.type "NameError") = false)
    (hC : h.get? C = some (excClassObj nm q C N bs bm hdct sn sub ab col dd k0 k1 k2 k3 k5 "Exception.__new__")) (hi : findIn K (.ref C) "__init__" = some (some (.ref fI))) (hf : typeIn K (.ref fI) = some (.type "function"))
    {rest : List Value} (hrest : rest.length ≤ sizeLine) {Q : Value → Shared → Prop}
    (hq : ∀ h' e, Heap.MadeExcOf h h' e (.ref C) rest → h.objs.size ≤ h'.objs.size →
      wpAny (model prog w) (A.under (.builtin "type.__call__" ⟨.ref C :: rest, []⟩)) (call (.ref fI) (.ref e :: rest)) (fun r s' => r = .none ∧ Q (.ref e) s') E ⟨h', g, d, t, os⟩) :
    wpAny (model prog w) A (call (.ref C) rest) Q E ⟨h, g, d, t, os⟩ := by
  have F := PySem.F.excBase_Exception
  have f1 := tc_lookup
  have f2 := tc_bind (.ref C)
  have hT : (⟨h, g, d, t, os⟩ : Shared).TypeIs (.ref C) "type" := ⟨_, hC, rfl⟩
  refine wpAny_call (codeAny_of_tree ?_)
  show wpAny _ _ (callAny (.ref C) _) _ _ _
  repeat (any_goals (first | assumption | with_reducible refine wpAny_loadPart_at hC ?_ | wp_step))
  refine ⟨rfl, ?_⟩
  refine codeAny_call_builtin_at (Code.quiet_builtin _ (by decide +kernel)) entry_typeCall (wpAny_check_type_call_sub hC ?_)
  repeat (first | with_reducible refine wpAny_loadPart_at hC ?_ | with_reducible refine wpAny_madeBy_exc hC ?_ | wp_step)
  refine codeAny_call_builtin_code (Code.quiet_builtin _ F.quiet) (check_own_new hcB hC ?_)
  refine code_own_new hcB hcA hcN hC hrest ?_
  show wpAny _ _ _ _ _ _
  have hk : ∀ b o, h.get? b = some o → ((h.push { cls := .type "tuple", data := .seq rest.toArray }).push { cls := .ref C, data := .fields #[.ref h.objs.size, .none, .none, .none, .bool false, .none] }).get? b = some o :=
    fun b o e => Heap.get?_push_of_some _ (Heap.get?_push_of_some _ e)
  have hC₁ := hk _ _ hC
  have X₁ := X.keeps hk
  have hget : ((h.push { cls := .type "tuple", data := .seq rest.toArray }).push
      { cls := .ref C, data := .fields #[.ref h.objs.size, .none, .none, .none, .bool false, .none] }).get? (h.objs.size + 1) = some
      { cls := .ref C, data := .fields #[.ref h.objs.size, .none, .none, .none, .bool false, .none] } := by heap_get
  have hcC : (Value.ref C :: bm).contains (.ref C) = true := by simp
  unfold isInstance
  repeat (first | with_reducible refine wpAny_loadPart_at hget ?_ | (refine wpAny_isSubtype_exc hC₁ ?_; rw [hcC]) | wp_step)
  show wpAny _ _ (typeLookup (.ref C) _) _ _ _
  refine (looks_findIn X₁ hi).here ?_
  refine wpAny_holding (wpAny_bind ((bind_fn X₁ _ hf).here ?_))
  refine wpAny_bind (wpAny_mono (hq _ (h.objs.size + 1) ⟨hk, Heap.get?_none_of_le (Nat.le_succ _), h.objs.size, hget, Heap.get?_none_of_le (Nat.le_refl _), Heap.get?_push_of_some _ (Heap.get?_push_at rfl rfl)⟩ (by simp only [Heap.size_push]; omega)) (fun r s' hr => ?_) fun _ _ x => x)
  obtain ⟨rfl, hQ⟩ := hr
  wp_walk
  exact hQ
end

end
section
theorem Ok.under {w : World} {A : Around} {h₀ h : Heap} {mean : ExcName → Option Value} {mg mb : Str → Option Value} {n k : Nat} {C : Addr} {vals : List Value} (O : Ok w A h₀ mean mg mb n) (F : h₀.StaysIn h) (hk : k + 1 ≤ n) : Ok w (A.under (.builtin "type.__call__" ⟨.ref C :: vals, []⟩)) h mean mg mb k where
  X := O.X.keeps F
  T := O.T.keeps F
  hh := O.hh
  hd := by have := O.hd; show A.depth + 1 + k < _; omega
  hu := by have := O.hu; have e : (Code.builtin "type.__call__" ⟨.ref C :: vals, []⟩).cUnits ≤ 8 := Nat.le_of_ble_eq_true rfl
           show A.units + (Code.builtin "type.__call__" ⟨.ref C :: vals, []⟩).cUnits + 8 * k < _; omega
theorem frDown {h₀ h₁ h : Heap} {L : Addr} {m : Str → Option Value} (F : Fr h₁ L h m) (k : h₀.StaysIn h₁) (hs : h₀.objs.size ≤ h₁.objs.size) : Fr h₀ L h m := ⟨F.ns, fun b o e => F.keep b o (k b o e), Nat.le_trans hs F.above⟩
theorem enterD {w : World} {A : Around} {E : Value → Shared → Prop} {s : Shared} {mean : ExcName → Option Value} {mg mb : Str → Option Value} {Q : Value → Shared → Prop} {n : Nat}
    {name qual : Str} {params : Arguments} {body : List Stmt} {scope : Scope} {kV doc pm cdv ct oc : Value} {an od : Option Addr} {osl : Array (Option Value)} {f Td : Addr} {vals : List Value} {oT : Obj} {items : Array Value} {nn : Nat} {k : Option (Array Value) → Sem (List (Str × Value))} (binds : List (Str × Value))
    (O : Ok w A s.heap mean mg mb n) (hn : 1 ≤ n)
    (ho : (top0.heap_39 w.params).lookup f = some ⟨oc, od, .func (fnOf name qual params body scope (.ref Td) kV doc pm an cdv ct), osl⟩) (hcd : codeIn (top0.heap_39 w.params) cdv qual = true)
    (hT : (top0.heap_39 w.params).lookup Td = some oT) (hs : oT.data = .seq items nn) (h₁ : bindArgs (fnOf name qual params body scope (.ref Td) kV doc pm an cdv ct) ⟨vals, []⟩ = seqItems? (.ref Td) >>= k) (h₂ : k (some items) = pure binds) (hloc : ∀ y ∈ binds, scope.names.lookup y.1 = some .local)
    (hco : scope.isCoroutine = false) (hgen : scope.isGenerator = false) (hk : scope.kind = .function)
    (hcell : ∀ x ∈ scope.names, x.2 ≠ .cell)
    (h : ∀ L h₁ tk, Fr s.heap L h₁ (fun y => binds.reverse.lookup y) →
      wpAny (model PySem.Challenge.rw_no0366_01.row.prog w) (A.deeper (envOf qual scope L f cdv)) (execs body (envOf qual scope L f cdv))
        (fun fl s' => Q (match fl with | .ret v => v | _ => .none) s')
        (fun e s' => wpAny (model PySem.Challenge.rw_no0366_01.row.prog w) (A.deeper (envOf qual scope L f cdv)) (leaving (envOf qual scope L f cdv) e) (fun _ s'' => E e s'') (fun e' s'' => E e' s'') s')
        { s with heap := h₁, toks := tk }) : wpAny (model PySem.Challenge.rw_no0366_01.row.prog w) A (call (.ref f) vals) Q E s := by
  refine wpAny_call ?_
  refine codeAny_call_def (fd := fnOf name qual params body scope (.ref Td) kV doc pm an cdv ct) (body := body) (binds := binds) (by have := O.hd; omega) (O.X _ _ ho) rfl O.T.nolimit (codeRec_of O.X hcd) rfl (binds_K O.X rfl hT hs h₁ h₂) hcell hloc (fun h₁ hns hk₁ => ?_) hco hgen hk
  exact h _ h₁ _ ⟨hns, hk₁, Nat.le_refl _⟩
section
open Builtin.ObjectAttr
variable {prog : Program} {w : World} {A : Around} {E : Value → Shared → Prop} {s : Shared} {K : Frag} {x C : Addr} {R : Result → Shared → Prop}
theorem refuse_own (self : Value) (C B : Addr) : refuseLoop self "__setattr__" [.ref C, .ref B, .type "Exception", .type "BaseException", .type "object"] = pure () := by
  rw [refuseLoop_ref, refuseLoop_ref]
  kernel_rfl
theorem osa_own {ox : Obj} {od : Option Obj} {name : Str} {tk : Tok} {v : Value} {cd : ClassData} {B : Addr} (X : K.In s.heap) (I : InstAt s.heap x ox C od) (hc : clsIn K C = some cd) (hm : cd.mro = [.ref C, .ref B, .type "Exception", .type "BaseException", .type "object"]) (ha : findIn K (.ref C) name = some none)
    (h : wpAny (model prog w) A.in1 (storeInOwnDict (.ref x) (.ref C) (.str name tk) name v false)
      (fun fin s' => match fin with | .done f => R (.ok f) s' | .again c' => c'.quiet = true ∧ codeAny (model prog w) A c' R s') (fun e s' => R (.error e) s') s) :
    codeAny (model prog w) A (.call (.builtin "object.__setattr__") ⟨[.ref x, .str name tk, v], []⟩) R s := by
  have SF := PySem.F.store_object
  have sub : Looks (model prog w) s.heap (isInstance (.ref x) (.type "object")) true := I.type.andThen (looks_mroIn X (by unfold mroIn; rw [hc, Option.bind_some, hm]; rfl))
  refine codeAny_call_builtin SF.slot.plain SF.entry (@check_slot (model prog w) _ _ s "object.__setattr__" "object" "__setattr__" (.ref x) [.str name tk, v] [] _ SF.kind SF.split sub (SF.args (.ref x) (.str name tk) v) ?_)
  have hm' : Looks (model prog w) s.heap (mroOf (.ref C)) cd.mro := (looks_clsIn X hc).andThen .now
  rw [osa_eq, refuse_eq]
  refine wpAny_bind (wpAny_bind (I.type.here (wpAny_bind (hm'.here ?_))))
  rw [hm, refuse_own]
  exact wpAny_pure (wpAny_bind (I.type.here (wpAny_bind ((looks_findIn X ha).here (wpAny_bind (wpAny_pure h))))))
theorem store_dict {M : Model} {Q : PySem.Fin → Shared → Prop} {od : Obj} {dx : Addr} {name : Str} {tk : Tok} {v : Value} {es : Array DictEntry} {n : Nat} (hD : s.heap.get? dx = some od) (hd : od.data = .dict es n) (hk : es.any (·.refKey) = false)
    (hp : ∀ tk2, ∃ es' n', (Obj.putName name (PyData.keyHash M.w.params name) (.str name tk2) v od).data = .dict es' n' ∧ es'.size ≤ 1000)
    (h : ∀ h' tk' tk2, (∀ b o, b ≠ dx → s.heap.get? b = some o → h'.get? b = some o) → h'.get? dx = some (Obj.putName name (PyData.keyHash M.w.params name) (.str name tk2) v od) → Q (.done (.ret .none)) { s with heap := h', toks := tk' }) :
    wpAny M A (storeInDict dx (.str name tk) name v) Q E s := by
  unfold storeInDict newKeyGuard nsSet
  refine wpAny_bind (wpAny_pure (wpAny_bind (wpAny_bind (wpAny_bind (wpAny_askSetting (wpAny_pure (wpAny_bind (wpAny_mkText (wpAny_bind (wpAny_loadPart hD ?_))))))))))
  rw [hd]
  dsimp only
  rw [aRefKeyMayBeTheName_at, hk, Bool.and_false]
  obtain ⟨es', n', e', hz⟩ := hp s.toks
  have hD' : (s.heap.update dx (Obj.putName name (PyData.keyHash M.w.params name) (.str name s.toks) v)).get? dx = some (Obj.putName name (PyData.keyHash M.w.params name) (.str name s.toks) v od) := Heap.get?_update_self _ hD (by
    generalize hO : Obj.putName name (PyData.keyHash M.w.params name) (.str name s.toks) v od = O at e'
    obtain ⟨_, _, dd, _⟩ := O
    cases e'; rfl)
  refine wpAny_updatePart hD (wpAny_bind (wpAny_lookBehind hD' (by rw [e']; exact pastItsLine_dict (by rw [sizeLine_eq]; omega)) (wpAny_pure ?_)))
  exact h _ _ _ (fun b o hb e => (Heap.get?_update_other _ _ (Ne.symm hb)).trans e) hD'
theorem store_first {M : Model} {Q : PySem.Fin → Shared → Prop} {ox : Obj} {name : Str} {tk : Tok} {v : Value} {cd : ClassData} (X : K.In s.heap) (hx : s.heap.get? x = some ox) (hcl : ox.cls = .ref C) (hd : ox.dict = none) (hn : ∃ vs, ox.data = .fields vs) (hc : clsIn K C = some cd) (hh : cd.hasDict = true)
    (h : ∀ h' D tk' tk2, D ≠ x → (∀ b o, b ≠ x → s.heap.get? b = some o → h'.get? b = some o) → s.heap.get? D = none → h'.get? x = some { ox with dict := some D } →
      h'.get? D = some { cls := .type "dict", data := .dict #[⟨PyData.keyHash M.w.params name, .str name tk2, v⟩] 1 } → Q (.done (.ret .none)) { s with heap := h', toks := tk' }) :
    wpAny M A (storeInOwnDict (.ref x) (.ref C) (.str name tk) name v false) Q E s := by
  obtain ⟨hp, g, d, t, os⟩ := s
  obtain ⟨vs, hv⟩ := hn
  obtain ⟨oc, odi, oda, osl⟩ := ox
  dsimp only at hcl hd hv
  subst hcl hd hv
  have L := looks_clsIn (M := M) X hc
  refine wpAny_bind (wpAny_pure (wpAny_bind (wpAny_bind (wpAny_loadPart hx (wpAny_bind (L.here ?_))))))
  rw [hh]
  rw [if_neg (by decide)]
  dsimp only
  rw [if_neg (by simp [typeHasDict])]
  dsimp only at hx
  have hx₁ : (hp.push { cls := .type "dict", data := .dict #[] }).get? x = some _ := Heap.get?_push_of_some _ hx
  have hxs : x ≠ hp.objs.size := Nat.ne_of_lt (Heap.lt_size hx)
  refine wpAny_bind (wpAny_alloc' (wpAny_bind (wpAny_update' hx₁ ?_)))
  show wpAny M A (pure (some hp.objs.size)) _ _ _
  refine wpAny_pure ?_
  have hD : ((hp.push { cls := .type "dict", data := .dict #[] }).update x fun o => { cls := o.cls, dict := some hp.objs.size, data := o.data, slots := o.slots }).get? hp.objs.size = some { cls := .type "dict", data := .dict #[] } :=
    (Heap.get?_update_other _ _ hxs).trans (Heap.get?_push_at rfl rfl)
  have one : ∀ tk2, Obj.putName name (PyData.keyHash M.w.params name) (.str name tk2) v { cls := .type "dict", data := .dict #[] } = { cls := .type "dict", data := .dict #[⟨PyData.keyHash M.w.params name, .str name tk2, v⟩] 1 } := fun tk2 => by rfl
  refine store_dict (s := ⟨_, _, _, _, _⟩) hD rfl (by simp) (fun tk2 => ⟨_, _, by rw [one], by simp⟩) fun h' tk' tk2 k1 k2 => ?_
  rw [one] at k2
  refine h h' hp.objs.size _ tk2 hxs.symm (fun b o hb e => k1 b o (Nat.ne_of_lt (Heap.lt_size e)) ((Heap.get?_update_other _ _ (Ne.symm hb)).trans (Heap.get?_push_of_some _ e))) (Heap.get?_none_of_le (Nat.le_refl _)) (k1 x _ hxs (Heap.get?_update_self _ hx₁ rfl)) k2
theorem store_next {M : Model} {Q : PySem.Fin → Shared → Prop} {ox od : Obj} {dx : Addr} {name : Str} {tk : Tok} {v : Value} {cd : ClassData} {es : Array DictEntry} {n : Nat} (X : K.In s.heap) (hx : s.heap.get? x = some ox) (hcl : ox.cls = .ref C) (hd : ox.dict = some dx) (hc : clsIn K C = some cd) (hh : cd.hasDict = true)
    (hD : s.heap.get? dx = some od) (hd' : od.data = .dict es n) (hk : es.any (·.refKey) = false)
    (hp : ∀ tk2, ∃ es' n', (Obj.putName name (PyData.keyHash M.w.params name) (.str name tk2) v od).data = .dict es' n' ∧ es'.size ≤ 1000)
    (h : ∀ h' tk' tk2, (∀ b o, b ≠ dx → s.heap.get? b = some o → h'.get? b = some o) → h'.get? dx = some (Obj.putName name (PyData.keyHash M.w.params name) (.str name tk2) v od) → Q (.done (.ret .none)) { s with heap := h', toks := tk' }) :
    wpAny M A (storeInOwnDict (.ref x) (.ref C) (.str name tk) name v false) Q E s := by
  obtain ⟨hp', g, d, t, os⟩ := s
  obtain ⟨oc, odi, oda, osl⟩ := ox
  dsimp only at hcl hd
  subst hcl hd
  have L := looks_clsIn (M := M) X hc
  refine wpAny_bind (wpAny_pure (wpAny_bind (wpAny_bind (wpAny_loadPart hx (wpAny_bind (L.here ?_))))))
  rw [hh]
  rw [if_neg (by decide)]
  refine wpAny_pure (a := some dx) ?_
  exact store_dict hD hd' hk hp h
end
/-- Exception.__init__ upon the own exception -/
theorem init_call {prog : Program} {w : World} {A : Around} {E : Value → Shared → Prop} {h : Heap} {g : Array GenState} {d : Drawn} {t : Nat} {os : OsState} {nm q : Str} {C N e : Addr} {bs bm : List Value} {hdct : Bool} {sn : List Str} {sub : List Value} {ab : Bool} {col : Option Bool} {dd : Option Addr} {k0 k1 k2 k3 k5 : Option Value} {newId : String} {t₀ : Addr} {rest : List Value} {Q : Value → Shared → Prop}
    (hC : h.get? C = some (excClassObj nm q C N bs bm hdct sn sub ab col dd k0 k1 k2 k3 k5 newId)) (hcB : (Value.ref C :: bm).contains (.type "Exception") = true)
    (he : h.get? e = some { cls := .ref C, data := .fields #[.ref t₀, .none, .none, .none, .bool false, .none] }) (hz : rest.length ≤ sizeLine)
    (hq : ∀ h' t', (∀ b o, b ≠ e → h.get? b = some o → h'.get? b = some o) → h'.get? e = some { cls := .ref C, data := .fields #[.ref t', .none, .none, .none, .bool false, .none] } → Q .none ⟨h', g, d, t, os⟩) :
    wpAny (model prog w) A (call (.builtin "Exception.__init__") (.ref e :: rest)) Q E ⟨h, g, d, t, os⟩ := by
  have F := PySem.F.excBase_Exception
  have hshort := F.noStar
  refine wpAny_call (codeAny_call_builtin F.init.plain F.initEntry ?_)
  simp only [checkBuiltinCall, F.initKind, F.initSplit, F.initRow]
  repeat (first | with_reducible refine wpAny_loadPart_at he ?_ | with_reducible refine wpAny_loadPart_at hC ?_ | (refine wpAny_isSubtype_exc hC ?_; rw [hcB]) | wp_step)
  refine wpAny_onRaise ?_
  rw [show ∀ (a b : String) (n : Nat), Bind.check ⟨.positional, "*", "Exception", .self, [⟨"args", .varPos, false⟩]⟩ a b n (List.map (fun x => x.fst) ({ pos := Value.ref e :: rest } : Args).kw) = pure () from
    fun a b n => check_star_args _ _ _ _ _ _]
  refine wpAny_pure ?_
  wp_walk
  refine hq _ h.objs.size (fun b o hb e => ?_) ?_
  · rw [Heap.get?_update_other _ _ (Ne.symm hb)]
    exact Heap.get?_push_of_some _ e
  · rw [Heap.get?_update_self _ (Heap.get?_push_of_some _ he) rfl]
    rfl
theorem frBut {h₀ h h' : Heap} {L e : Addr} {m : Str → Option Value} (F : Fr h₀ L h m) (k : ∀ b o, b ≠ e → h.get? b = some o → h'.get? b = some o) (hL : L ≠ e) (he : h₀.get? e = none) : Fr h₀ L h' m :=
  ⟨F.ns.extBut (b := e) k hL, fun b o q => k b o (fun z => by rw [z, he] at q; cases q) (F.keep b o q), F.above⟩
local macro_rules | `(tactic| walk_at "getMethod type:Exception") => `(tactic| (k_here; refine' method_type ?F ?X ?m (by decide +kernel) ?e ?h ?_; (case F => k_asm); (case X => k_asm); (case m => kernel_rfl); (case e => k_dflt k_is); (case h => k_handed)))
section
variable {w : World} {A : Around} {E Q : Value → Shared → Prop} {s : Shared} {mean : ExcName → Option Value} {mg mb : Str → Option Value} {n : Nat}
theorem fault_init {e : Addr} {text : Str} {x : Int} {tt tx : Tok} {h' : Heap} (O : Ok w A s.heap mean mg mb n) (hn : 4 ≤ n) (M : Heap.MadeExcOf h' s.heap e (.ref 59) [.str text tt, .int x tx])
    (hs : h'.objs.size ≤ s.heap.objs.size) (X₀ : (top0.heap_39 w.params).In h') (T₀ : Top topView (looseW topView [Str.ofString "PostError"]) mean mg mb h')
    (hret : ∀ h₂ tk' D, Made h' h₂ e D x → Q .none { s with heap := h₂, toks := tk' }) :
    wpAny (model PySem.Challenge.rw_no0366_01.row.prog w) A (call (.ref 36) [.ref e, .str text tt, .int x tx]) Q E s := by
  walk_at "mine fill"
  refine' enterD [(Str.ofString "self", .ref e), (Str.ofString "what", .str text tt), (Str.ofString "at", .int x tx)] O ?kn ?ho ?hcd ?hT ?hs ?b1 ?b2 ?loc ?co ?gen ?kk ?cell ?_
  case kn => omega
  case ho => k_is
  case hcd => k_is
  case hT => k_is
  case hs => exact rfl
  case b1 => exact rfl
  case b2 => exact rfl
  case loc => exact locs rfl
  case co => exact rfl
  case gen => exact rfl
  case kk => exact rfl
  case cell => decide
  k_whole
  intro L₁ h₁ tk₁ F₁
  obtain ⟨t, he, htn, ht⟩ := M.there
  have F₂ := frDown (h₀ := h') F₁ M.keeps hs
  have N₂ : News h' L₁ h₁ [(e, { cls := .ref 59, data := .fields #[.ref t, .none, .none, .none, .bool false, .none] })] := by
    intro p hp
    rw [List.mem_singleton.mp hp]
    exact ⟨F₁.keep _ _ he, (fun q => absurd (Nat.lt_of_lt_of_le (Heap.lt_size he) F₁.above) (by rw [show e = L₁ from q]; exact Nat.lt_irrefl _)), M.new⟩
  clear F₁ ht he htn M
  have hh₁ := O.hh
  have hd₁ := O.hd
  have hu₁ := O.hu
  clear O
  (try k_fold)
  k_steps
  have X₁ := X₀.keeps F₂.keep
  have nL : L₁ ≠ e := fun q => (N₂ _ (.head _)).2.1 q.symm
  have ne0 : h'.get? e = none := (N₂ _ (.head _)).2.2
  refine init_call (X₁ 59 _ rfl) rfl (N₂ _ (.head _)).1 (by size_fits) fun ha ta k1 k2 => ?_
  have F₃ := frBut F₂ k1 nL ne0
  have N₃ : News h' L₁ ha [(e, { cls := .ref 59, data := .fields #[.ref ta, .none, .none, .none, .bool false, .none] })] := by
    intro p hp
    rw [List.mem_singleton.mp hp]
    exact ⟨k2, nL.symm, ne0⟩
  clear F₂ N₂ k1 k2 X₁
  k_steps
  have X₁ := X₀.keeps F₃.keep
  have I₁ : InstAt _ e _ 59 none := ⟨(N₃ _ (.head _)).1, rfl, rfl, trivial⟩
  refine set_plain X₁ I₁ rfl (osa_own X₁ I₁ rfl rfl rfl (store_first X₁ (N₃ _ (.head _)).1 rfl rfl ⟨_, rfl⟩ rfl rfl fun hb D tk₂ tq ne k1 k0 k2 k3 => ?_))
  have nD : L₁ ≠ D := fun q => by
    obtain ⟨oL, _, _, hoL, _⟩ := F₃.ns
    rw [← q, hoL] at k0; cases k0
  have neD : h'.get? D = none := Fr.noneBack F₃ k0
  have F₄ := frBut F₃ k1 nL ne0
  have N₄ : News h' L₁ hb [(e, { cls := .ref 59, dict := some D, data := .fields #[.ref ta, .none, .none, .none, .bool false, .none] }), (D, { cls := .type "dict", data := .dict #[⟨PyData.keyHash w.params "what", .str "what" tq, .str text tt⟩] 1 })] := by
    intro p hp
    rcases List.mem_cons.mp hp with rfl | hp
    · exact ⟨k2, nL.symm, ne0⟩
    · rw [List.mem_singleton.mp hp]
      exact ⟨k3, nD.symm, neD⟩
  clear F₃ N₃ k1 k0 k2 k3 X₁ I₁
  dsimp only
  k_steps
  have X₁ := X₀.keeps F₄.keep
  have I₁ : InstAt _ e _ 59 (some _) := ⟨(N₄ _ (.head _)).1, rfl, rfl, (N₄ _ (.tail _ (.head _))).1⟩
  refine set_plain X₁ I₁ rfl (osa_own X₁ I₁ rfl rfl rfl (store_next X₁ (N₄ _ (.head _)).1 rfl rfl rfl rfl (N₄ _ (.tail _ (.head _))).1 rfl (by simp [DictEntry.refKey]) (fun tk2 => ⟨_, _, rfl, Nat.le_of_ble_eq_true rfl⟩) fun hc tk₃ tq2 k1 k2 => ?_))
  have F₅ := frBut F₄ k1 nD neD
  have he := k1 e _ ne.symm (N₄ _ (.head _)).1
  clear F₄ N₄ k1 X₁ I₁
  dsimp only
  k_steps
  exact hret _ _ D ⟨F₅.keep, ne0, neD, ⟨_, _, he, ⟨rfl, rfl⟩, rfl, rfl⟩, ⟨_, k2, ⟨_, _, rfl⟩, tx, rfl⟩⟩
end

end
section
section
variable {w : World} {A : Around} {E Q : Value → Shared → Prop} {s : Shared} {mean : ExcName → Option Value} {mg mb : Str → Option Value} {n : Nat}
theorem make_fault {text : Str} {x : Int} {tt tx : Tok} (O : Ok w A s.heap mean mg mb n) (hn : 5 ≤ n)
    (hret : ∀ h₂ tk' e D, Made s.heap h₂ e D x → Q (.ref e) { s with heap := h₂, toks := tk' }) :
    wpAny (model PySem.Challenge.rw_no0366_01.row.prog w) A (call (.ref 59) [.str text tt, .int x tx]) Q E s := by
  obtain ⟨h, g, d, t, os⟩ := s
  have X := O.X
  refine call_own (C := 59) (fI := 36) X rfl rfl rfl (X 59 _ rfl) rfl rfl (by size_fits) fun h' e M hs => ?_
  exact fault_init (n := n - 1) (Ok.under (k := n - 1) O M.keeps (by omega)) (by omega) M hs X O.T fun h₂ tk' D R => ⟨rfl, hret h₂ tk' e D R⟩
end
/-- what stands when the raised value stands -/
def Raised (w : World) (E : Value → Shared → Prop) (v : Value) (s₁ : Shared) : Prop :=
  ∃ e D o vs, v = .ref e ∧ (top0.heap_39 w.params).In s₁.heap ∧ s₁.heap.get? e = some o ∧ ExcP D o ∧ o.data = .fields vs ∧ vs[1]? = some .none ∧ E (.ref e) s₁
theorem Raise_own {prog : Program} {w : World} {A : Around} {E : Value → Shared → Prop} {s : Shared} {env : Env} {ex : Expr} {pos : Pos} {Q : Flow → Shared → Prop} (hh : A.handled = none)
    (h : wpAny (model prog w) A (eval ex env) (Raised w E) E s) : wpAny (model prog w) A (exec (.Raise (some ex) none pos) env) Q E s := by
  rw [arm_exec_Raise]
  simp only [evalOpt, Option.map]
  refine wpAny_bind (wpAny_standAt ?_)
  unfold raiseStmt
  refine wpAny_bind (wpAny_bind (wpAny_mono h (fun v s₁ h₁ => ?_) fun _ _ x => x))
  obtain ⟨e, D, o, vs, rfl, X, he, ⟨hc, hd⟩, hv, h1, hE⟩ := h₁
  obtain ⟨oc, od, odt, osl⟩ := o
  dsimp only at hc hd hv
  subst hc hd hv
  obtain ⟨hp, g, d, tk, os⟩ := s₁
  dsimp only at he X
  have hC : hp.get? 59 = some (excClassObj _ _ 59 _ _ [.ref 46, .type "Exception", .type "BaseException", .type "object"] _ _ _ _ _ _ _ _ _ _ _ _) := X 59 _ rfl
  have hcB : (Value.ref 59 :: [Value.ref 46, .type "Exception", .type "BaseException", .type "object"]).contains (.type "BaseException") = true := rfl
  refine wpAny_bind (wpAny_standAt (wpAny_pure ?_))
  repeat (first | with_reducible refine wpAny_loadPart_at he ?_ | with_reducible refine wpAny_loadPart_at hC ?_ | (refine wpAny_isSubtype_exc hC ?_; rw [hcB]) | wp_step)
  rw [h1]
  refine wpAny_pure ?_
  rw [if_neg (by decide)]
  exact wpAny_pure (wpAny_raiseNew_none hh hE)
theorem len_lst {prog : Program} {w : World} {A : Around} {E : Value → Shared → Prop} {s : Shared} {l : Addr} {vs : List Value} {Q : Value → Shared → Prop} (hl : s.heap.IsList l vs.toArray) (hz : vs.length ≤ 16777216)
    (h : ∀ (z : Int) t k, z = vs.length → Q (.int z t) { s with toks := k }) : wpAny (model prog w) A (call (.builtin "len") [.ref l]) Q E s :=
  PyProof.Rows.len_list hl (by simp only [List.size_toArray]; omega) (h _ _ _ (by simp))

end
local macro_rules | `(tactic| walk_at "pyIter ref") => `(tactic| (refine hold ?_))
local macro_rules | `(tactic| walk_at "exec Raise some none") => `(tactic| (refine' Raise_own ?hh ?_; (case hh => assumption)))
local macro_rules | `(tactic| walk_at "call ref") => `(tactic| ((with_reducible show wpAny _ _ (call (Value.ref 59) _) _ _ _); (refine make_fault (Ok.callee (k := 5) (by assumption) (by k_asm) (by omega)) (by omega) ?_); intro _ _ _ _ _; (try dsimp only)))
local macro_rules | `(tactic| walk_at "call ref") => `(tactic| ((with_reducible show wpAny _ _ (call (Value.ref 130) _) _ _ _); refine hold ?_))
local macro_rules | `(tactic| walk_at "call builtin:len") => `(tactic| ((with_reducible show wpAny _ _ (call (Value.builtin "len") [Value.ref _]) _ _ _); (refine' len_lst (News.isList ?a ?b) ?c ?_; (case a => k_asm); (case b => k_mem); (case c => (simp only [bvals_len, refs_len]; omega))); intro z _ _ ez; simp only [bvals_len, refs_len] at ez))
local macro_rules | `(tactic| walk_at "call builtin:list.append") => `(tactic| ((with_reducible show wpAny _ _ (call (Value.builtin _) [Value.ref _, Value.bytes _ _]) _ _ _); k_dflt (refine' append_K ?k1 ?k2 ?k3 ?_ ?z; (case k1 => k_asm); (case k2 => k_asm); (case k3 => k_upd); (case z => (rw [sizeLine_eq]; (try simp only [List.size_toArray, List.length_map, List.length_nil, List.length_append, List.length_cons, bvals_len]); omega))); intro h' F' N'; (try simp only [bvals_push] at N'); (try k_sweep)))

section
def isPoint (k : Tk) : Bool := k.kind == "sign" && k.worth == [46]
def wordOk (k : Tk) : Bool := k.kind == "atom" || k.kind == "quoted" || isPoint k
noncomputable def phr : List Tk → List UInt8 → Bool → Int → Except Int (List UInt8)
  | [], acc, _, _ => .ok acc
  | k :: ks, acc, any, g => if wordOk k then phr ks (acc ++ (if any && !isPoint k && k.spot != g then [32] else []) ++ k.worth) true (if isPoint k then k.spot + 1 else -1) else .error k.spot
def worths (ks : List Tk) : Nat := (ks.map fun k => k.worth.length + 1).sum
theorem phr_word {k : Tk} {ks : List Tk} {acc : List UInt8} {any : Bool} {g : Int} (hw : wordOk k = true) (hp : isPoint k = false) : phr (k :: ks) acc any g = phr ks (acc ++ (if any && k.spot != g then [32] else []) ++ k.worth) true (-1) := by
  rw [phr, if_pos hw, hp]; simp
theorem phr_point {k : Tk} {ks : List Tk} {acc : List UInt8} {any : Bool} {g : Int} (hp : isPoint k = true) : phr (k :: ks) acc any g = phr ks (acc ++ k.worth) true (k.spot + 1) := by
  rw [phr, if_pos (by unfold wordOk; rw [hp, Bool.or_true]), hp]; simp
theorem phr_bad {k : Tk} {ks : List Tk} {acc : List UInt8} {any : Bool} {g : Int} (hw : wordOk k = false) : phr (k :: ks) acc any g = .error k.spot := by
  rw [phr, if_neg (by rw [hw]; decide)]
theorem worths_cons (k : Tk) (ks : List Tk) : worths (k :: ks) = k.worth.length + 1 + worths ks := rfl
theorem named {h₀ h : Heap} {L D : Addr} {xs : Array Value} {k : Nat} {rest : List (Addr × Obj)} {P : Prop} (_N : News h₀ L h ((D, PySem.W.listOf xs k) :: rest)) (f : ∀ D' k', D' = D → k' = k → P) : P := f D k rfl rfl
theorem worths_filter (p : Tk → Bool) : ∀ ks : List Tk, worths (ks.filter p) ≤ worths ks
  | [] => Nat.le_refl _
  | k :: ks => by
    have := worths_filter p ks
    simp only [worths, List.filter_cons] at this ⊢
    split <;> simp only [List.map_cons, List.sum_cons] <;> omega
inductive InvF (f : List TkAt) (D : Addr) (kD : Nat) (due : Except Int (List UInt8)) (i : Nat) (m : Str → Option Value) (nx : List (Addr × Obj)) : Prop
  | mk (B : Addr) (c : Nat) (lb : List (List UInt8 × Tok)) (g : Int) (tg : Tok) (rest : List Tk) : nx = [(D, PySem.W.listOf (refs f).toArray kD), (B, PySem.W.listOf (bvals lb).toArray c)] → @Ne Nat B D → rest = (f.drop i).map (·.k) →
      phr rest (lb.map (·.1)).flatten (decide (0 < lb.length)) g = due → (lb.map (·.1)).flatten.length + worths rest ≤ 4000 → lb.length + 2 * rest.length ≤ 4000 →
      m (Str.ofString "parts") = some (.ref B) → m (Str.ofString "glued") = some (.int g tg) → InvF f D kD due i m nx
theorem word_ok {k : Tk} : wordOk k = (([Str.ofString "atom", Str.ofString "quoted"].any fun x => x == k.kind) || isPoint k) := by
  unfold wordOk
  simp only [List.any_cons, List.any_nil, Bool.or_false]
  rw [show (Str.ofString "atom" == k.kind) = (k.kind == Str.ofString "atom") from BEq.comm, show (Str.ofString "quoted" == k.kind) = (k.kind == Str.ofString "quoted") from BEq.comm]
section
variable {w : World} {A : Around} {E Q : Value → Shared → Prop} {s : Shared} {mean : ExcName → Option Value} {mg mb : Str → Option Value} {n : Nat} {l : List Env}
theorem phrase_of_spec {P : Addr} {q : List TkAt} {k : Nat} (O : Ok w A s.heap mean mg mb n) (K : Stk w A l s.heap mean mg mb) (hn : 7 ≤ n) (hP : s.heap.get? P = some (PySem.W.listOf (refs q).toArray k)) (hq : ∀ p ∈ led q, s.heap.get? p.1 = some p.2) (hz : q.length ≤ 2000) (hw : worths (q.map (·.k)) ≤ 4000) (hk : ∀ p ∈ q, p.k.kind = "quoted" ∨ p.k.kind = "literal" ∨ p.k.kind = "comment" ∨ p.k.kind = "sign" ∨ p.k.kind = "atom")
    (hret : ∀ r h' tk' b, s.heap.StaysIn h' → phr ((q.map (·.k)).filter noComment) [] false 0 = .ok b → IsBytes b r → Q r { s with heap := h', toks := tk' })
    (hexc : ∀ e D x h' tk', Thrown s.heap l e D x h' → phr ((q.map (·.k)).filter noComment) [] false 0 = .error x → E (.ref e) { s with heap := h', toks := tk' }) :
    wpAny (model PySem.Challenge.rw_no0366_01.row.prog w) A (call (.ref 137) [.ref P]) Q E s := by
  walk_at "mine fill"
  refine' enterOk [(Str.ofString "tokens", .ref P)] ?k1 ?kn ?k3 ?k4 ?k6 ?k7 ?c1 ?c2 ?c3 ?c4 ?_
  walk_at "mine enter"
  k_steps
  refine wpAny_For ?_
  k_steps
  rename Fr _ _ _ _ => F
  rename News _ _ _ _ => N
  refine without_K O (by omega) F N (F.keep _ _ hP) (fun p hp => F.keep _ _ (hq p hp)) (by omega) ?_
  clear F N
  intro D h' tk' k' F N ne9
  simp only [List.forall_mem_cons, List.not_mem_nil, false_implies, implies_true, and_true] at ne9
  dsimp only
  k_steps
  refine named N fun D9 k9 e1 e2 => ?_
  subst e1 e2
  have hfm : (q.filter fun p => noComment p.k).map (·.k) = (q.map (·.k)).filter noComment := by rw [List.filter_map]; rfl
  have hfq : ∀ p ∈ (q.filter fun p => noComment p.k), p ∈ q ∧ noComment p.k = true := fun p hp => List.mem_filter.mp hp
  have hfl : (q.filter fun p => noComment p.k).length ≤ q.length := List.length_filter_le _ _
  have hfw := worths_filter noComment (q.map (·.k))
  rw [← hfm] at hret hexc hfw
  generalize (q.filter fun p => noComment p.k) = f at *
  refine For_listB (vs := refs f) (InvF f D9 k9 (phr (f.map (·.k)) [] false 0)) ?_ ?_ F N ?_ ?_ ?_ ?_ ?_
  · exact O.hh
  · rintro i m news h hi F' N' ⟨B, c, lb, g, tg, rest, rfl, r⟩
    exact N'.isList (.head _)
  · exact ⟨_, _, [], 0, _, _, rfl, ne9, rfl, rfl, by simp only [List.map_nil, List.flatten_nil, List.length_nil]; simp; omega, by simp; omega, rfl, rfl⟩
  · rintro i v m₁ news₁ h₁ tk₁ It o hv F' N' hn' ⟨B, c, lb, g, tg, rest, rfl, hBD, hr, hph, hl1, hl2, m1, m2⟩
    clear F N
    have hi : i < f.length := by
      have := (List.getElem?_eq_some_iff.mp hv).1
      simpa [refs] using this
    obtain ⟨p, hp⟩ : ∃ p, f[i]? = some p := ⟨_, List.getElem?_eq_getElem hi⟩
    have hv' : v = .ref p.a := by
      simp only [refs, List.getElem?_map, hp, Option.map_some, Option.some.injEq] at hv
      exact hv.symm
    subst hv'
    have hpm := hfq p (List.mem_of_getElem? hp)
    have hpt := hq _ (List.mem_map.mpr ⟨p, hpm.1, rfl⟩)
    have hkp := hk p hpm.1
    rw [List.drop_eq_getElem_cons hi, show f[i] = p from by rw [List.getElem?_eq_getElem hi] at hp; exact Option.some.inj hp] at hr
    rw [List.map_cons] at hr
    generalize hrest : (f.drop (i + 1)).map (·.k) = rest' at hr
    subst hr
    refine unpackN_ F' N' ⟨_, F'.keep _ _ hpt, rfl, _, rfl⟩ O.hh rfl rfl fun h' F₂ N₂ => ?_
    clear F' N'
    obtain ⟨pa, ⟨kind, worth, spot⟩, t1, t2, t3⟩ := p
    dsimp only at *
    simp only [List.forall_mem_cons, List.not_mem_nil, false_implies, implies_true, and_true] at hn'
    clear hkp
    cases hin : ([Str.ofString "atom", Str.ofString "quoted"].any fun x => x == kind)
    · cases hpt : isPoint ⟨kind, worth, spot⟩
      · have hw : wordOk ⟨kind, worth, spot⟩ = false := by rw [word_ok, hpt, hin]; rfl
        have hp1 : (kind == "sign" && worth == [46]) = false := hpt
        cases hk1 : (kind == "sign")
        · clear hp1 hpt
          k_steps
          rename Fr _ _ _ _ => F
          rename Made _ _ _ _ _ => R
          obtain ⟨oe, vs, he, hP, hd, h1⟩ := R.at_
          refine ⟨_, _, oe, vs, rfl, O.X.keeps (fun b o q => R.keeps b o (F.keep b o q)), he, hP, hd, h1, ?_⟩
          exact leave_first K F R fun h' T => hexc _ _ _ _ _ T (hph.symm.trans (phr_bad hw))
        · have hk2 : (worth == [46]) = false := by rw [hk1, Bool.true_and] at hp1; exact hp1
          clear hp1 hpt
          k_steps
          rename Fr _ _ _ _ => F
          rename Made _ _ _ _ _ => R
          obtain ⟨oe, vs, he, hP, hd, h1⟩ := R.at_
          refine ⟨_, _, oe, vs, rfl, O.X.keeps (fun b o q => R.keeps b o (F.keep b o q)), he, hP, hd, h1, ?_⟩
          exact leave_first K F R fun h' T => hexc _ _ _ _ _ T (hph.symm.trans (phr_bad hw))
      · have hw : wordOk ⟨kind, worth, spot⟩ = true := by rw [word_ok, hpt, hin]; rfl
        have hp1 : (kind == "sign" && worth == [46]) = true := hpt
        rw [Bool.and_eq_true] at hp1
        obtain ⟨hk1, hk2⟩ := hp1
        k_steps
        all_goals
          rename Fr _ _ _ _ => F
          rename News _ _ _ _ => N
          refine ⟨_, _, _, _, rfl, F, (fun p hp => N p (.tail _ hp)), by simpa using hn', B, _, lb ++ [(worth, t2)], spot + 1, _, rest', rfl, hBD, hrest.symm, ?_, ?_, ?_, m1, rfl⟩
          · rw [← hph, phr_point hpt]; simp
          · rw [worths_cons] at hl1; simp only [List.map_append, List.flatten_append, List.length_append, List.map_cons, List.map_nil, List.flatten_cons, List.flatten_nil, List.length_cons, List.length_nil] at hl1 ⊢; omega
          · simp only [List.length_append, List.length_cons, List.length_nil] at hl2 ⊢; omega
    · have hkind : (kind == "sign") = false := by
        cases e : (kind == "sign") with
        | false => rfl
        | true =>
          rw [beq_iff_eq] at e
          rw [e] at hin
          exact absurd hin (by decide)
      have hpt : isPoint ⟨kind, worth, spot⟩ = false := by unfold isPoint; rw [hkind]; rfl
      have hw : wordOk ⟨kind, worth, spot⟩ = true := by rw [word_ok, hpt, hin]; rfl
      k_steps
      · rename spot ≠ g => hg
        have hlb : 0 < lb.length := by omega
        rename Fr _ _ _ _ => F
        rename News _ _ _ _ => N
        refine ⟨_, _, _, _, rfl, F, (fun p hp => N p (.tail _ hp)), by simpa using hn', B, _, lb ++ [([32], _)] ++ [(worth, t2)], -1, _, rest', rfl, hBD, hrest.symm, ?_, ?_, ?_, m1, rfl⟩
        · rw [← hph, phr_word hw hpt]; simp [hlb, hg]
        · rw [worths_cons] at hl1; simp only [List.map_append, List.flatten_append, List.length_append, List.map_cons, List.map_nil, List.flatten_cons, List.flatten_nil, List.length_cons, List.length_nil] at hl1 ⊢; omega
        · simp only [List.length_append, List.length_cons, List.length_nil] at hl2 ⊢; omega
      · rename spot = g => hg
        rename Fr _ _ _ _ => F
        rename News _ _ _ _ => N
        refine ⟨_, _, _, _, rfl, F, (fun p hp => N p (.tail _ hp)), by simpa using hn', B, _, lb ++ [(worth, t2)], -1, _, rest', rfl, hBD, hrest.symm, ?_, ?_, ?_, m1, rfl⟩
        · rw [← hph, phr_word hw hpt]; simp [hg]
        · rw [worths_cons] at hl1; simp only [List.map_append, List.flatten_append, List.length_append, List.map_cons, List.map_nil, List.flatten_cons, List.flatten_nil, List.length_cons, List.length_nil] at hl1 ⊢; omega
        · simp only [List.length_append, List.length_cons, List.length_nil] at hl2 ⊢; omega
      · have hlb : lb.length = 0 := by omega
        rename Fr _ _ _ _ => F
        rename News _ _ _ _ => N
        refine ⟨_, _, _, _, rfl, F, (fun p hp => N p (.tail _ hp)), by simpa using hn', B, _, lb ++ [(worth, t2)], -1, _, rest', rfl, hBD, hrest.symm, ?_, ?_, ?_, m1, rfl⟩
        · rw [← hph, phr_word hw hpt]; simp [hlb]
        · rw [worths_cons] at hl1; simp only [List.map_append, List.flatten_append, List.length_append, List.map_cons, List.map_nil, List.flatten_cons, List.flatten_nil, List.length_cons, List.length_nil] at hl1 ⊢; omega
        · simp only [List.length_append, List.length_cons, List.length_nil] at hl2 ⊢; omega
  · intro m₁ news₁ h₁ tk₁ F' N' ⟨B, c, lb, g, tg, rest, e1, hBD, hr, hph, hl1, hl2, m1, m2⟩
    subst e1
    clear F N
    have hr0 : rest = [] := by rw [hr]; simp [refs]
    subst hr0
    k_steps
    rename Fr _ _ _ _ => F
    exact hret _ _ _ _ F.keep hph.symm ⟨_, rfl⟩
  · exact Or.inr ⟨_, _, _, rfl, fun v hv => by obtain ⟨p, _, rfl⟩ := List.mem_map.mp hv; exact ⟨_, rfl⟩⟩
  · passes_own
end

end
section
def badB (c : UInt8) : Bool := c == 0 || c == 10 || c == 13
def escB (sg : List UInt8) (c : UInt8) : List UInt8 := if sg.contains c then [92, c] else [c]
def esc (sg d : List UInt8) : List UInt8 := d.flatMap (escB sg)
theorem fits_long {i : Int} (h1 : -200001 ≤ i) (h2 : i ≤ 200001) : Builtin.Range.rangeFitsLong i = true := by
  unfold Builtin.Range.rangeFitsLong
  rw [Bool.and_eq_true]
  exact ⟨decide_eq_true (by omega), decide_eq_true (by omega)⟩
theorem small_nat {n : Nat} (h : n ≤ 100000) : Builtin.Range.small 0 (n : Int) 1 = true := by
  have e : Builtin.Range.rangeSize 0 (n : Int) 1 = (n : Int) := rangeSize_nat _ _
  unfold Builtin.Range.small
  rw [e, fits_long (i := 0) (by omega) (by omega), fits_long (i := (n : Int)) (by omega) (by omega), fits_long (i := 1) (by omega) (by omega), if_pos (by decide), fits_long (i := (n : Int) + (1 - 1)) (by omega) (by omega), Bool.or_true]
  rfl
theorem escB_in {sg : List UInt8} {c : UInt8} (h : sg.contains c = true) : escB sg c = [92, c] := by unfold escB; rw [if_pos h]
theorem escB_out {sg : List UInt8} {c : UInt8} (h : sg.contains c = false) : escB sg c = [c] := by unfold escB; rw [if_neg (by rw [h]; decide)]
theorem at_nat (d : List UInt8) (i : Nat) : at_ d (i : Int) = ((d.getD i 0).toNat : Int) := rfl
theorem at_u8 (d : List UInt8) (i : Nat) : (at_ d (i : Int)).toNat.toUInt8 = d.getD i 0 := by rw [at_nat]; simp
theorem bad_fin : ∀ n : Fin 256, (([0, 10, 13] : List Int).any fun x => x == (n.1 : Int)) = badB (UInt8.ofNat n.1) := by decide +kernel
theorem any_bad (d : List UInt8) (i : Nat) : (([0, 10, 13] : List Int).any fun x => x == at_ d (i : Int)) = badB (d.getD i 0) := by
  rw [at_nat]
  have := bad_fin ⟨(d.getD i 0).toNat, (d.getD i 0).toNat_lt⟩
  rw [this]
  simp
theorem take_one {d : List UInt8} {i : Nat} (hi : i < d.length) : d.take (i + 1) = d.take i ++ [d.getD i 0] := by
  rw [List.take_add_one, List.getElem?_eq_getElem hi]
  simp [List.getD, hi]
theorem esc_one {sg d : List UInt8} {i : Nat} (hi : i < d.length) : esc sg (d.take (i + 1)) = esc sg (d.take i) ++ escB sg (d.getD i 0) := by
  rw [take_one hi]; simp [esc]
theorem find_bad {d : List UInt8} {i : Nat} (hi : i < d.length) (hb : badB (d.getD i 0) = true) (h : ∀ c ∈ d.take i, badB c = false) : d.findIdx? badB = some i := by
  rw [List.findIdx?_eq_some_iff_getElem]
  refine ⟨hi, by simpa [List.getD, hi] using hb, fun j hj => ?_⟩
  have hj' : j < (d.take i).length := by rw [List.length_take]; omega
  have := h _ (List.getElem_mem hj')
  rw [List.getElem_take] at this
  rw [this]; decide
section
variable {w : World} {A : Around} {E Q : Value → Shared → Prop} {s : Shared} {mean : ExcName → Option Value} {mg mb : Str → Option Value} {n : Nat} {l : List Env}
inductive InvE (d sg : List UInt8) (td ts : Tok) (i : Nat) (m : Str → Option Value) (nx : List (Addr × Obj)) : Prop
  | mk (B : Addr) (c : Nat) (lb : List (List UInt8 × Tok)) : nx = [(B, PySem.W.listOf (bvals lb).toArray c)] → (lb.map (·.1)).flatten = esc sg (d.take i) → (∀ c ∈ d.take i, badB c = false) → lb.length ≤ 2 * i → (lb.map (·.1)).flatten.length ≤ 2 * i →
      m (Str.ofString "parts") = some (.ref B) → m (Str.ofString "octets") = some (.bytes d.toArray td) → m (Str.ofString "signs") = some (.bytes sg.toArray ts) → InvE d sg td ts i m nx
theorem escaped_octets_spec {d sg : List UInt8} {td ts : Tok} (O : Ok w A s.heap mean mg mb n) (K : Stk w A l s.heap mean mg mb) (hn : 7 ≤ n) (hd : d.length ≤ 1000)
    (hret : ∀ r h' tk', s.heap.StaysIn h' → (∀ c ∈ d, badB c = false) → IsBytes (esc sg d) r → Q r { s with heap := h', toks := tk' })
    (hexc : ∀ e D i h' tk', Thrown s.heap l e D ((i : Nat) : Int) h' → d.findIdx? badB = some i → E (.ref e) { s with heap := h', toks := tk' }) :
    wpAny (model PySem.Challenge.rw_no0366_01.row.prog w) A (call (.ref 144) [.bytes d.toArray td, .bytes sg.toArray ts]) Q E s := by
  walk_at "mine fill"
  refine' enterOk [(Str.ofString "signs", .bytes sg.toArray ts), (Str.ofString "octets", .bytes d.toArray td)] ?k1 ?kn ?k3 ?k4 ?k6 ?k7 ?c1 ?c2 ?c3 ?c4 ?_
  walk_at "mine enter"
  k_steps
  refine wpAny_For ?_
  k_steps
  rename Fr _ _ _ _ => F
  rename News _ _ _ _ => N
  rename IsRange _ _ _ _ _ _ _ _ => rg
  refine For_rangeB (n := d.length) (InvE d sg td ts) ?_ rg ?_ F N ?_ ?_ ?_ ?_
  · exact O.hh
  · exact small_nat (by omega)
  · exact ⟨_, _, [], rfl, by simp [esc], by simp, Nat.zero_le _, Nat.zero_le _, rfl, rfl, rfl⟩
  · rintro i t m₁ news₁ h₁ tk₁ It o hi F' N' hn' ⟨B, c, lb, rfl, hfl, hnb, hl1, hl2, m1, m2, m3⟩
    clear F N rg
    simp only [List.forall_mem_cons, List.not_mem_nil, false_implies, implies_true, and_true] at hn'
    k_steps
    · rename (List.any _ _) = true => hb
      rw [any_bad] at hb
      rename Fr _ _ _ _ => F
      rename Made _ _ _ _ _ => R
      obtain ⟨oe, vs, he, hP, hd', h1⟩ := R.at_
      refine ⟨_, _, oe, vs, rfl, O.X.keeps (fun b o q => R.keeps b o (F.keep b o q)), he, hP, hd', h1, ?_⟩
      exact leave_first K F R fun h' T => hexc _ _ _ _ _ T (find_bad hi hb hnb)
    · rename (List.any _ _) = false => hb
      rename (List.contains _ _) = true => hc
      rw [any_bad] at hb
      rw [at_u8] at hc
      rename Fr _ _ _ _ => F
      rename News _ _ _ _ => N
      refine ⟨_, _, _, _, rfl, F, N, by simpa using hn', B, _, lb ++ [([92], _)] ++ [(cut d i (i + 1), _)], rfl, ?_, ?_, ?_, ?_, m1, m2, m3⟩
      · rw [esc_one hi, ← hfl, cut1 (by omega) (by omega), escB_in hc]; simp only [List.map_append, List.flatten_append, List.map_cons, List.map_nil, List.flatten_cons, List.flatten_nil, List.append_nil, List.append_assoc]; rfl
      · rw [take_one hi]; intro c hc'; rcases List.mem_append.mp hc' with q | q
        · exact hnb c q
        · rw [List.mem_singleton.mp q]; exact hb
      · simp only [List.length_append, List.length_cons, List.length_nil]; omega
      · rw [cut1 (by omega) (by omega)]; simp only [List.map_append, List.flatten_append, List.length_append, List.map_cons, List.map_nil, List.flatten_cons, List.flatten_nil, List.length_cons, List.length_nil]; omega
    · rename (List.any _ _) = false => hb
      rename (List.contains _ _) = false => hc
      rw [any_bad] at hb
      rw [at_u8] at hc
      rename Fr _ _ _ _ => F
      rename News _ _ _ _ => N
      refine ⟨_, _, _, _, rfl, F, N, by simpa using hn', B, _, lb ++ [(cut d i (i + 1), _)], rfl, ?_, ?_, ?_, ?_, m1, m2, m3⟩
      · rw [esc_one hi, ← hfl, cut1 (by omega) (by omega)]; simp only [List.map_append, List.flatten_append, List.map_cons, List.map_nil, List.flatten_cons, List.flatten_nil, List.append_nil]; rw [escB_out hc]; rfl
      · rw [take_one hi]; intro c hc'; rcases List.mem_append.mp hc' with q | q
        · exact hnb c q
        · rw [List.mem_singleton.mp q]; exact hb
      · simp only [List.length_append, List.length_cons, List.length_nil]; omega
      · rw [cut1 (by omega) (by omega)]; simp only [List.map_append, List.flatten_append, List.length_append, List.map_cons, List.map_nil, List.flatten_cons, List.flatten_nil, List.length_cons, List.length_nil]; omega
  · rintro m₁ news₁ h₁ tk₁ F' N' ⟨B, c, lb, rfl, hfl, hnb, hl1, hl2, m1, m2, m3⟩
    clear F N rg
    k_steps
    rename Fr _ _ _ _ => F
    rw [List.take_length] at hfl hnb
    exact hret _ _ _ F.keep hnb (by rw [← hfl]; exact ⟨_, rfl⟩)
  · passes_own
end
section
variable {w : World} {A : Around} {E : Value → Shared → Prop} {Q : Value → Shared → Prop} {s : Shared} {mean : ExcName → Option Value} {mg mb : Str → Option Value} {n : Nat} {l : List Env} {h₀ : Heap} {L a : Addr} {m : Str → Option Value} {news : List (Addr × Obj)} {name : Str} {scope : Scope} {cd : Value}
/-- an exception that passes through a frame -/
abbrev Through (w : World) (A : Around) (env : Env) (E : Value → Shared → Prop) (e : Value) (s' : Shared) : Prop := wpAny (model PySem.Challenge.rw_no0366_01.row.prog w) (A.deeper env) (leaving env e) (fun _ s'' => E e s'') (fun e' s'' => E e' s'') s'
theorem escaped_K {d sg : List UInt8} {td ts : Tok} (O : Ok w A h₀ mean mg mb n) (K : Stk w A l h₀ mean mg mb) (hn : 8 ≤ n) (F : Fr h₀ L s.heap m) (N : News h₀ L s.heap news) (hd : d.length ≤ 1000) (hk : scope.kind = .function)
    (hret : ∀ t h' tk', Fr h₀ L h' m → News h₀ L h' news → (∀ c ∈ d, badB c = false) → Q (.bytes (esc sg d).toArray t) { s with heap := h', toks := tk' })
    (hexc : ∀ e D i h' tk', Thrown h₀ l e D ((i : Nat) : Int) h' → d.findIdx? badB = some i → E (.ref e) { s with heap := h', toks := tk' }) :
    wpAny (model PySem.Challenge.rw_no0366_01.row.prog w) (A.deeper (envOf name scope L a cd)) (call (.ref 144) [.bytes d.toArray td, .bytes sg.toArray ts]) Q (Through w A (envOf name scope L a cd) E) s := by
  refine escaped_octets_spec (O.callee (k := 7) F (by omega)) (K.push F hk) (by omega) hd (fun r h' tk' st nb out => ?_) (fun e D i h' tk' T b => ?_)
  · obtain ⟨t, rfl⟩ := out
    exact hret t h' tk' (frStay F st) (newsStay N st) nb
  · exact leave_next K F T (fun h₈ T₈ => hexc e D i h₈ tk' T₈ b) hk
end

end
local macro_rules | `(tactic| walk_at "subscriptTail") => `(tactic| (k_here; (with_reducible show wpAny _ _ (subscriptTail _ _ (Value.ref _) (Value.int _ _)) _ _ _); (with_reducible rename Fr _ _ _ _ => F'); refine item_tupleT ⟨_, F'.keep _ _ (by assumption), rfl, _, rfl⟩ (by decide) (by decide) rfl rfl ?_))
local macro_rules | `(tactic| walk_at "unpackItems ref") => `(tactic| (k_here; k_dflt (refine' unpackItemsN_ ?k1 ?k2 ?k3 ?k4 ?k5 ?_; (case k1 => k_asm); (case k2 => k_asm); (case k3 => kun_tup); (case k4 => assumption); (case k5 => exact rfl); k_whole); intro h' F' N'; (try k_sweep)))

section
def quoted (d : List UInt8) : List UInt8 := [34] ++ esc [34, 92] d ++ [34]
def literal (d : List UInt8) : List UInt8 := [91] ++ esc [91, 93, 92] d ++ [93]
def comment (d : List UInt8) : List UInt8 := [40] ++ esc [40, 41, 92] d ++ [41]
theorem esc_len (sg : List UInt8) : ∀ d : List UInt8, (esc sg d).length ≤ 2 * d.length
  | [] => Nat.le_refl _
  | c :: d => by
    have := esc_len sg d
    have e : esc sg (c :: d) = escB sg c ++ esc sg d := rfl
    have e2 : (escB sg c).length ≤ 2 := by unfold escB; split <;> simp
    rw [e, List.length_append, List.length_cons]; omega
section
local macro_rules | `(tactic| walk_at "call ref") => `(tactic| (refine hold ?_))
variable {w : World} {A : Around} {E Q : Value → Shared → Prop} {s : Shared} {mean : ExcName → Option Value} {mg mb : Str → Option Value} {n : Nat} {l : List Env}
theorem quoted_string_spec {d : List UInt8} {td : Tok} (O : Ok w A s.heap mean mg mb n) (K : Stk w A l s.heap mean mg mb) (hn : 8 ≤ n) (hd : d.length ≤ 1000)
    (hret : ∀ r h' tk', s.heap.StaysIn h' → (∀ c ∈ d, badB c = false) → IsBytes (quoted d) r → Q r { s with heap := h', toks := tk' })
    (hexc : ∀ e D i h' tk', Thrown s.heap l e D ((i : Nat) : Int) h' → d.findIdx? badB = some i → E (.ref e) { s with heap := h', toks := tk' }) :
    wpAny (model PySem.Challenge.rw_no0366_01.row.prog w) A (call (.ref 151) [.bytes d.toArray td]) Q E s := by
  walk_at "mine fill"
  have hl := esc_len [34, 92] d
  refine' enterOk [(Str.ofString "octets", .bytes d.toArray td)] ?k1 ?kn ?k3 ?k4 ?k6 ?k7 ?c1 ?c2 ?c3 ?c4 ?_
  walk_at "mine enter"
  k_steps
  rename Fr _ _ _ _ => F
  rename News _ _ _ _ => N
  refine escaped_K O K (by omega) F N hd rfl (fun t h' tk' F' N' nb => ?_) hexc
  clear F N
  dsimp only
  k_steps
  rename Fr _ _ _ _ => F
  exact hret _ _ _ F.keep nb ⟨_, rfl⟩
theorem show_token_spec {T : Addr} {k : Tk} {t1 t2 t3 : Tok} (O : Ok w A s.heap mean mg mb n) (K : Stk w A l s.heap mean mg mb) (hn : 8 ≤ n) (hd : k.worth.length ≤ 1000) (hT : s.heap.get? T = some (tkO k t1 t2 t3)) (hk : k.kind = "literal" ∨ k.kind = "comment" ∨ k.kind = "atom" ∨ k.kind = "sign")
    (hret : ∀ r h' tk', s.heap.StaysIn h' → (k.kind = "literal" → (∀ c ∈ k.worth, badB c = false) ∧ IsBytes (literal k.worth) r) → (k.kind = "comment" → (∀ c ∈ k.worth, badB c = false) ∧ IsBytes (comment k.worth) r) → (k.kind = "atom" ∨ k.kind = "sign" → IsBytes k.worth r) → Q r { s with heap := h', toks := tk' })
    (hexc : ∀ e D i h' tk', Thrown s.heap l e D ((i : Nat) : Int) h' → k.worth.findIdx? badB = some i → E (.ref e) { s with heap := h', toks := tk' }) :
    wpAny (model PySem.Challenge.rw_no0366_01.row.prog w) A (call (.ref 172) [.ref T]) Q E s := by
  walk_at "mine fill"
  obtain ⟨kind, worth, spot⟩ := k
  dsimp only at *
  refine' enterOk [(Str.ofString "token", .ref T)] ?k1 ?kn ?k3 ?k4 ?k6 ?k7 ?c1 ?c2 ?c3 ?c4 ?_
  walk_at "mine enter"
  rcases hk with rfl | rfl | rfl | rfl
  · have hk0 := True.intro
    have c_quoted : (Str.ofString "literal" == Str.ofString "quoted") = false := by decide
    have c_literal : (Str.ofString "literal" == Str.ofString "literal") = true := by decide
    have hl := esc_len [91, 93, 92] worth
    k_steps
    rename Fr _ _ _ _ => F
    rename News _ _ _ _ => N
    refine escaped_K O K (by omega) F N hd rfl (fun t h' tk' F' N' nb => ?_) hexc
    clear F N
    dsimp only
    k_steps
    rename Fr _ _ _ _ => F
    exact hret _ _ _ F.keep (fun _ => ⟨nb, _, rfl⟩) (fun q => absurd q (by decide)) (fun q => absurd q (by decide))
  · have hk0 := True.intro
    have c_quoted : (Str.ofString "comment" == Str.ofString "quoted") = false := by decide
    have c_literal : (Str.ofString "comment" == Str.ofString "literal") = false := by decide
    have c_comment : (Str.ofString "comment" == Str.ofString "comment") = true := by decide
    have hl := esc_len [40, 41, 92] worth
    k_steps
    rename Fr _ _ _ _ => F
    rename News _ _ _ _ => N
    refine escaped_K O K (by omega) F N hd rfl (fun t h' tk' F' N' nb => ?_) hexc
    clear F N
    dsimp only
    k_steps
    rename Fr _ _ _ _ => F
    exact hret _ _ _ F.keep (fun q => absurd q (by decide)) (fun _ => ⟨nb, _, rfl⟩) (fun q => absurd q (by decide))
  · have hk0 := True.intro
    have c_quoted : (Str.ofString "atom" == Str.ofString "quoted") = false := by decide
    have c_literal : (Str.ofString "atom" == Str.ofString "literal") = false := by decide
    have c_comment : (Str.ofString "atom" == Str.ofString "comment") = false := by decide
    k_steps
    rename Fr _ _ _ _ => F
    exact hret _ _ _ F.keep (fun q => absurd q (by decide)) (fun q => absurd q (by decide)) (fun _ => ⟨_, rfl⟩)
  · have hk0 := True.intro
    have c_quoted : (Str.ofString "sign" == Str.ofString "quoted") = false := by decide
    have c_literal : (Str.ofString "sign" == Str.ofString "literal") = false := by decide
    have c_comment : (Str.ofString "sign" == Str.ofString "comment") = false := by decide
    k_steps
    rename Fr _ _ _ _ => F
    exact hret _ _ _ F.keep (fun q => absurd q (by decide)) (fun q => absurd q (by decide)) (fun _ => ⟨_, rfl⟩)
end
section
variable {w : World} {A : Around} {E : Value → Shared → Prop} {Q : Value → Shared → Prop} {s : Shared} {mean : ExcName → Option Value} {mg mb : Str → Option Value} {n : Nat} {l : List Env} {h₀ : Heap} {L a : Addr} {m : Str → Option Value} {news : List (Addr × Obj)} {name : Str} {scope : Scope} {cd : Value}
theorem quoted_K {d : List UInt8} {td : Tok} (O : Ok w A h₀ mean mg mb n) (K : Stk w A l h₀ mean mg mb) (hn : 9 ≤ n) (F : Fr h₀ L s.heap m) (N : News h₀ L s.heap news) (hd : d.length ≤ 1000) (hk : scope.kind = .function)
    (hret : ∀ t h' tk', Fr h₀ L h' m → News h₀ L h' news → (∀ c ∈ d, badB c = false) → Q (.bytes (quoted d).toArray t) { s with heap := h', toks := tk' })
    (hexc : ∀ e D i h' tk', Thrown h₀ l e D ((i : Nat) : Int) h' → d.findIdx? badB = some i → E (.ref e) { s with heap := h', toks := tk' }) :
    wpAny (model PySem.Challenge.rw_no0366_01.row.prog w) (A.deeper (envOf name scope L a cd)) (call (.ref 151) [.bytes d.toArray td]) Q (Through w A (envOf name scope L a cd) E) s := by
  refine quoted_string_spec (O.callee (k := 8) F (by omega)) (K.push F hk) (by omega) hd (fun r h' tk' st nb out => ?_) (fun e D i h' tk' T b => ?_)
  · obtain ⟨t, rfl⟩ := out
    exact hret t h' tk' (frStay F st) (newsStay N st) nb
  · exact leave_next K F T (fun h₈ T₈ => hexc e D i h₈ tk' T₈ b) hk
theorem show_K {T : Addr} {k : Tk} {t1 t2 t3 : Tok} (O : Ok w A h₀ mean mg mb n) (K : Stk w A l h₀ mean mg mb) (hn : 9 ≤ n) (F : Fr h₀ L s.heap m) (hd : k.worth.length ≤ 1000) (hT : s.heap.get? T = some (tkO k t1 t2 t3)) (hkd : k.kind = "literal" ∨ k.kind = "comment" ∨ k.kind = "atom" ∨ k.kind = "sign") (hk : scope.kind = .function)
    (hret : ∀ r h' tk', Fr h₀ L h' m → (k.kind = "literal" → (∀ c ∈ k.worth, badB c = false) ∧ IsBytes (literal k.worth) r) → (k.kind = "comment" → (∀ c ∈ k.worth, badB c = false) ∧ IsBytes (comment k.worth) r) → (k.kind = "atom" ∨ k.kind = "sign" → IsBytes k.worth r) → Q r { s with heap := h', toks := tk' })
    (hexc : ∀ e D i h' tk', Thrown h₀ l e D ((i : Nat) : Int) h' → k.worth.findIdx? badB = some i → E (.ref e) { s with heap := h', toks := tk' }) :
    wpAny (model PySem.Challenge.rw_no0366_01.row.prog w) (A.deeper (envOf name scope L a cd)) (call (.ref 172) [.ref T]) Q (Through w A (envOf name scope L a cd) E) s := by
  refine show_token_spec (O.callee (k := 8) F (by omega)) (K.push F hk) (by omega) hd hT hkd (fun r h' tk' st a b c => ?_) (fun e D i h' tk' T b => ?_)
  · exact hret r h' tk' (frStay F st) a b c
  · exact leave_next K F T (fun h₈ T₈ => hexc e D i h₈ tk' T₈ b) hk
end
def isAtom (d : List UInt8) : Bool := decide (0 < d.length) && d.all atomB
theorem takeWhile_all {p : UInt8 → Bool} : ∀ d : List UInt8, (d.takeWhile p).length = d.length ↔ d.all p = true
  | [] => by simp
  | a :: d => by
    have ih := takeWhile_all (p := p) d
    rw [List.takeWhile_cons, List.all_cons, Bool.and_eq_true]
    split
    · rename_i h
      rw [List.length_cons, List.length_cons, Nat.add_right_cancel_iff, ih]
      exact ⟨fun q => ⟨h, q⟩, fun q => q.2⟩
    · rename_i h
      simp [h]
section
variable {w : World} {A : Around} {E Q : Value → Shared → Prop} {s : Shared} {mean : ExcName → Option Value} {mg mb : Str → Option Value} {n : Nat} {l : List Env}
theorem is_atom_spec {d : List UInt8} {td : Tok} (O : Ok w A s.heap mean mg mb n) (hn : 4 ≤ n) (hd : d.length ≤ 1000)
    (hret : ∀ r h' tk', s.heap.StaysIn h' → r = .bool (isAtom d) → Q r { s with heap := h', toks := tk' }) :
    wpAny (model PySem.Challenge.rw_no0366_01.row.prog w) A (call (.ref 158) [.bytes d.toArray td]) Q E s := by
  walk_at "mine fill"
  refine' enterOk [(Str.ofString "octets", .bytes d.toArray td)] ?k1 ?kn ?k3 ?k4 ?k6 ?k7 ?c1 ?c2 ?c3 ?c4 ?_
  walk_at "mine enter"
  rcases Nat.eq_zero_or_pos d.length with h0 | h0
  · k_steps
    rename Fr _ _ _ _ => F
    exact hret _ _ _ F.keep (congrArg Value.bool (by simp [isAtom, h0]))
  · k_steps
    rename Fr _ _ _ _ => F
    refine hret _ _ _ F.keep (congrArg Value.bool ?_)
    have e : atomRun d 0 = d.takeWhile atomB := by unfold atomRun; rw [show (0 : Int).toNat = 0 from rfl, List.drop_zero]
    rw [e, Bool.eq_iff_iff]
    unfold isAtom
    rw [Bool.and_eq_true, ← takeWhile_all, beq_iff_eq, decide_eq_true_eq]
    omega
end
section
variable {w : World} {A : Around} {E : Value → Shared → Prop} {Q : Value → Shared → Prop} {s : Shared} {mean : ExcName → Option Value} {mg mb : Str → Option Value} {n : Nat} {h₀ : Heap} {L : Addr} {m : Str → Option Value} {news : List (Addr × Obj)} {env : Env}
theorem is_atom_K {d : List UInt8} {td : Tok} (O : Ok w A h₀ mean mg mb n) (hn : 5 ≤ n) (F : Fr h₀ L s.heap m) (N : News h₀ L s.heap news) (hd : d.length ≤ 1000)
    (hret : ∀ h' tk', Fr h₀ L h' m → News h₀ L h' news → Q (.bool (isAtom d)) { s with heap := h', toks := tk' }) : wpAny (model PySem.Challenge.rw_no0366_01.row.prog w) (A.deeper env) (call (.ref 158) [.bytes d.toArray td]) Q E s :=
  is_atom_spec (O.callee (k := 4) F (by omega)) (Nat.le_refl _) hd fun r h' tk' st out => by
    subst out
    exact hret h' tk' (frStay F st) (newsStay N st)
end

end
local macro_rules | `(tactic| walk_at "call ref") => `(tactic| ((with_reducible refine is_atom_K (by assumption) (by omega) (by k_asm) (by k_asm) (by omega) ?_); intro _ _ F' N'; (try dsimp only)))

section
section
local macro_rules | `(tactic| walk_at "call ref") => `(tactic| ((with_reducible show wpAny _ _ (call (Value.ref 151) _) _ _ _); refine hold ?_))
variable {w : World} {A : Around} {E Q : Value → Shared → Prop} {s : Shared} {mean : ExcName → Option Value} {mg mb : Str → Option Value} {n : Nat} {l : List Env}
theorem atom_or_quoted_spec {d : List UInt8} {td : Tok} (O : Ok w A s.heap mean mg mb n) (K : Stk w A l s.heap mean mg mb) (hn : 9 ≤ n) (hd : d.length ≤ 1000)
    (hret : ∀ r h' tk', s.heap.StaysIn h' → (isAtom d = false → (∀ c ∈ d, badB c = false) ∧ IsBytes (quoted d) r) → (isAtom d = true → IsBytes d r) → Q r { s with heap := h', toks := tk' })
    (hexc : ∀ e D i h' tk', Thrown s.heap l e D ((i : Nat) : Int) h' → d.findIdx? badB = some i → E (.ref e) { s with heap := h', toks := tk' }) :
    wpAny (model PySem.Challenge.rw_no0366_01.row.prog w) A (call (.ref 165) [.bytes d.toArray td]) Q E s := by
  walk_at "mine fill"
  refine' enterOk [(Str.ofString "octets", .bytes d.toArray td)] ?k1 ?kn ?k3 ?k4 ?k6 ?k7 ?c1 ?c2 ?c3 ?c4 ?_
  walk_at "mine enter"
  cases ha : isAtom d
  · k_steps
    rename Fr _ _ _ _ => F
    rename News _ _ _ _ => N
    refine quoted_K O K (by omega) F N hd rfl (fun t h' tk' F' N' nb => ?_) hexc
    clear F N
    dsimp only
    k_steps
    rename Fr _ _ _ _ => F
    exact hret _ _ _ F.keep (fun _ => ⟨nb, _, rfl⟩) (fun q => by rw [ha] at q; cases q)
  · k_steps
    rename Fr _ _ _ _ => F
    exact hret _ _ _ F.keep (fun q => by rw [ha] at q; cases q) (fun _ => ⟨_, rfl⟩)
end

end
section
section
local macro_rules | `(tactic| walk_at "call ref") => `(tactic| (refine hold ?_))
variable {w : World} {A : Around} {E Q : Value → Shared → Prop} {s : Shared} {mean : ExcName → Option Value} {mg mb : Str → Option Value} {n : Nat} {l : List Env}
theorem law_literal_spec {d : List UInt8} {td : Tok} (O : Ok w A s.heap mean mg mb n) (K : Stk w A l s.heap mean mg mb) (hn : 9 ≤ n) (hd : d.length ≤ 1000)
    (hret : ∀ r h' tk', s.heap.StaysIn h' → (∀ c ∈ d, badB c = false) → IsBytes (literal d) r → Q r { s with heap := h', toks := tk' })
    (hexc : ∀ e D i h' tk', Thrown s.heap l e D ((i : Nat) : Int) h' → d.findIdx? badB = some i → E (.ref e) { s with heap := h', toks := tk' }) :
    wpAny (model PySem.Challenge.rw_no0366_01.row.prog w) A (call (.ref 210) [.bytes d.toArray td]) Q E s := by
  walk_at "mine fill"
  refine' enterOk [(Str.ofString "octets", .bytes d.toArray td)] ?k1 ?kn ?k3 ?k4 ?k6 ?k7 ?c1 ?c2 ?c3 ?c4 ?_
  walk_at "mine enter"
  k_steps
  rename Fr _ _ _ _ => F
  rename News _ _ _ _ => N
  refine show_K (k := ⟨"literal", d, 0⟩) O K (by omega) F hd (N _ (.head _)).1 (.inl rfl) rfl (fun r h' tk' F' q7 q8 q9 => ?_) hexc
  clear F N
  dsimp only
  k_steps
  rename Fr _ _ _ _ => F
  exact hret _ _ _ F.keep (q7 rfl).1 (q7 rfl).2
theorem law_comment_spec {d : List UInt8} {td : Tok} (O : Ok w A s.heap mean mg mb n) (K : Stk w A l s.heap mean mg mb) (hn : 9 ≤ n) (hd : d.length ≤ 1000)
    (hret : ∀ r h' tk', s.heap.StaysIn h' → (∀ c ∈ d, badB c = false) → IsBytes (comment d) r → Q r { s with heap := h', toks := tk' })
    (hexc : ∀ e D i h' tk', Thrown s.heap l e D ((i : Nat) : Int) h' → d.findIdx? badB = some i → E (.ref e) { s with heap := h', toks := tk' }) :
    wpAny (model PySem.Challenge.rw_no0366_01.row.prog w) A (call (.ref 217) [.bytes d.toArray td]) Q E s := by
  walk_at "mine fill"
  refine' enterOk [(Str.ofString "octets", .bytes d.toArray td)] ?k1 ?kn ?k3 ?k4 ?k6 ?k7 ?c1 ?c2 ?c3 ?c4 ?_
  walk_at "mine enter"
  k_steps
  rename Fr _ _ _ _ => F
  rename News _ _ _ _ => N
  refine show_K (k := ⟨"comment", d, 0⟩) O K (by omega) F hd (N _ (.head _)).1 (.inr (.inl rfl)) rfl (fun r h' tk' F' q7 q8 q9 => ?_) hexc
  clear F N
  dsimp only
  k_steps
  rename Fr _ _ _ _ => F
  exact hret _ _ _ F.keep (q8 rfl).1 (q8 rfl).2
end
def ShowOk (w : World) (f : Addr) (d out : List UInt8) : Prop :=
  ∀ (A : Around) (E Q : Value → Shared → Prop) (s : Shared) (mean : ExcName → Option Value) (mg mb : Str → Option Value) (n : Nat) (l : List Env) (td : Tok), Ok w A s.heap mean mg mb n → Stk w A l s.heap mean mg mb → 9 ≤ n → d.length ≤ 1000 →
    (∀ r h' tk', s.heap.StaysIn h' → (isAtom d = true ∨ ∀ c ∈ d, badB c = false) → IsBytes out r → Q r { s with heap := h', toks := tk' }) →
    (∀ e D i h' tk', Thrown s.heap l e D ((i : Nat) : Int) h' → d.findIdx? badB = some i → E (.ref e) { s with heap := h', toks := tk' }) →
    wpAny (model PySem.Challenge.rw_no0366_01.row.prog w) A (call (.ref f) [.bytes d.toArray td]) Q E s
theorem show_quoted {w : World} {d : List UInt8} : ShowOk w 151 d (quoted d) := fun _ _ _ _ _ _ _ _ _ _ O K hn hd hret hexc => quoted_string_spec O K (by omega) hd (fun r h' tk' a b c => hret r h' tk' a (.inr b) c) hexc
theorem show_literal {w : World} {d : List UInt8} : ShowOk w 210 d (literal d) := fun _ _ _ _ _ _ _ _ _ _ O K hn hd hret hexc => law_literal_spec O K (by omega) hd (fun r h' tk' a b c => hret r h' tk' a (.inr b) c) hexc
theorem show_comment {w : World} {d : List UInt8} : ShowOk w 217 d (comment d) := fun _ _ _ _ _ _ _ _ _ _ O K hn hd hret hexc => law_comment_spec O K (by omega) hd (fun r h' tk' a b c => hret r h' tk' a (.inr b) c) hexc
theorem show_maybe {w : World} {d : List UInt8} : ShowOk w 165 d (if isAtom d then d else quoted d) := fun _ _ _ _ _ _ _ _ _ _ O K hn hd hret hexc => atom_or_quoted_spec O K (by omega) hd (fun r h' tk' a b c => by
    cases ha : isAtom d with
    | true => exact hret r h' tk' a (.inl ha) (by rw [if_pos ha]; exact c ha)
    | false => exact hret r h' tk' a (.inr (b ha).1) (by rw [if_neg (by rw [ha]; decide)]; exact (b ha).2)) hexc

end
section
section
variable {prog : Program} {w : World} {A : Around} {E : Value → Shared → Prop} {s : Shared} {h₀ : Heap} {L : Addr} {m : Str → Option Value} {news : List (Addr × Obj)}
open PySem.SeqAt
theorem applied_two {sl : Addr} {u : Tok} {Q : Int × Int × Nat → Shared → Prop} (hs : s.heap.IsSliceOf sl .none (.int 2 u) .none) (h : Q (0, 1, 2) s) :
    wpAny (model prog w) A (Builtin.Slice.sliceApplied (.ref sl) (pure (3 : Int))) Q E s := by
  obtain ⟨os, hos, hcs, hds⟩ := id hs
  unfold Builtin.Slice.sliceApplied Builtin.Slice.sliceFields
  refine wpAny_bind (wpAny_bind (wpAny_field hos hds (x := .none) rfl (wpAny_bind (wpAny_field hos hds (x := .int 2 u) rfl (wpAny_bind (wpAny_field hos hds (x := .none) rfl (wpAny_pure ?_)))))))
  refine wpAny_bind (PyProof.Rows.slicePart_none ?_)
  show wpAny _ _ (if ((1 : Int) == 0) = true then _ else _) _ _ s
  rw [if_neg (by decide)]
  refine wpAny_bind (PyProof.Rows.slicePart_none (wpAny_bind (PyProof.Rows.slicePart_int (wpAny_bind (wpAny_pure ?_)))))
  exact wpAny_pure h
theorem getItem_two {t sl : Addr} {a b c : Value} {u : Tok} {Q : Value → Shared → Prop} (ht : IsTup s.heap t #[a, b, c]) (hs : s.heap.IsSliceOf sl .none (.int 2 u) .none)
    (h : Q (.ref s.heap.objs.size) { s with heap := s.heap.push { cls := .type "tuple", data := .seq #[a, b] } }) : wpAny (model prog w) A (getItem (.ref t) (.ref sl)) Q E s := by
  have hdrop : sizeOk (.seq #[a, b]) := by show 2 ≤ sizeLine; rw [sizeLine_eq]; omega
  obtain ⟨os, hos, hcs, hds⟩ := id hs
  have hTs : s.TypeIs (.ref sl) "slice" := ⟨os, hos, hcs⟩
  unfold getItem
  try with_reducible refine wpAny_holding ?_
  first | refine wpAny_bind (wpAny_pure ?_) | skip
  refine wpAny_bind (wpAny_sequenceKey ht.typeIs (by decide) ?_)
  refine wpAny_bind (wpAny_callSpecial?_slot (name := Str.ofString "__getitem__") ht.typeIs slot_tuple_getitem
    (wpAny_call_entry slot_tuple_getitem ht.typeIs entry_tuple_getitem ?_ (args_tuple_getitem _ _)))
  show wpAny _ _ (Builtin.Tuple.tupleItemsOf (.ref t) >>= _) _ _ s
  refine wpAny_bind (tupleItemsOf_ ht ?_)
  refine wpAny_bind (wpAny_typeOf hTs ?_)
  rw [if_pos (by decide)]
  refine wpAny_bind (applied_two hs ?_)
  first
    | exact wpAny_bind (m := Builtin.Tuple.tupleExact _) (wpAny_newObj_type (wpAny_pure ⟨_, rfl, wpAny_pure h⟩) hdrop)
    | exact wpAny_bind (m := Builtin.Tuple.tupleExact _) (wpAny_newObj_type (wpAny_bind (wpAny_pure (wpAny_pure ⟨_, rfl, wpAny_pure h⟩))) hdrop)
    | exact wpAny_bind (wpAny_bind (m := Builtin.Tuple.tupleExact _) (wpAny_newObj_type (wpAny_pure (wpAny_pure ⟨_, rfl, wpAny_pure h⟩)) hdrop))
    | exact wpAny_bind (wpAny_bind (m := Builtin.Tuple.tupleExact _) (wpAny_newObj_type (wpAny_pure ⟨_, rfl, wpAny_pure h⟩) hdrop))
theorem slice_two {value slice : Expr} {t : Addr} {a b c : Value} {u : Tok} {Q : Value → Shared → Prop}
    (F : Fr h₀ L s.heap m) (N : News h₀ L s.heap news) (ht : IsTup s.heap t #[a, b, c])
    (h : ∀ D h', Fr h₀ L h' m → News h₀ L h' ((D, { cls := .type "tuple", data := .seq #[a, b] }) :: news) → (∀ p ∈ news, @Ne Nat p.1 D) → Q (.ref D) { s with heap := h' })
    (hs : subscripted slice false (.ref t) (.ref s.heap.objs.size) = operate [.ref s.heap.objs.size, .ref t] (getItem (.ref t) (.ref s.heap.objs.size)) := by with_unfolding_all rfl)
    (hg : ∀ r, letTemporaryGo value (.ref t) r = pure () := by intro _; with_unfolding_all rfl) :
    wpAny (model prog w) A (subscriptTail value slice (.ref t) (.ref s.heap.objs.size)) Q E { s with heap := s.heap.push { cls := .type "slice", data := .fields #[.none, .int 2 u, .none] } } := by
  have ht' : IsTup (s.heap.push { cls := .type "slice", data := .fields #[.none, .int 2 u, .none] }) t #[a, b, c] := ht.keeps fun _ _ e => Heap.get?_push_of_some _ e
  refine PyProof.Rows.subscriptTail_ops (s := { s with heap := s.heap.push { cls := .type "slice", data := .fields #[.none, .int 2 u, .none] } }) ht'.typeIs slot_tuple_getitem.lookup
    (getItem_two ht' (Heap.IsSliceOf.new ..) ?_) hs hg
  have N1 := News.push (F.push { cls := .type "slice", data := .fields #[.none, .int 2 u, .none] }) (N.grown fun _ _ e => Heap.get?_push_of_some _ e) { cls := .type "tuple", data := .seq #[a, b] }
  rw [Heap.size_push] at N1
  show Q (.ref (s.heap.push _).objs.size) _
  rw [Heap.size_push]
  exact h _ _ ((F.push _).push _) N1 fun p hp => Nat.ne_of_lt (Nat.lt_succ_of_lt (Heap.lt_size (N p hp).1))
theorem eqAt_bytes (b c : List UInt8) (t u : Tok) : EqAt A s (.bytes b.toArray t) (.bytes c.toArray u) (b == c) := fun prog w E Q hq => by
  unfold eqBool
  refine wpAny_holding ?_
  refine wpAny_ite_split (fun hab => ?_) (fun _ => wpAny_bind (eq_B (wpAny_truthy_bool hq)))
  have e := eq_of_beq hab
  injection e with e1 e2
  have e3 : b = c := by simpa using e1
  subst e3
  exact wpAny_bind (wpAny_rule (wpAny_pure (by simpa using hq)))
theorem isTuple_of {h : Heap} {t : Addr} {xs : Array Value} (ht : IsTup h t xs) : h.IsTuple t xs := ht
theorem pair_eq0 {a b : Addr} {k1 k2 : Str} {b1 b2 : List UInt8} {t1 t2 t3 t4 : Tok} {Q : Value → Shared → Prop} (ha : IsTup s.heap a #[.str k1 t1, .bytes b1.toArray t2]) (hb : IsTup s.heap b #[.str k2 t3, .bytes b2.toArray t4]) (hu : A.units < cLine)
    (h : Q (.bool (k1 == k2 && b1 == b2)) s) : wpAny (model prog w) A (compareOp .Eq (.ref a) (.ref b)) Q E s := by
  refine eq_tupleAt (e := fun j => if j = 0 then k1 == k2 else b1 == b2) (isTuple_of ha) (isTuple_of hb) hu (fun j h1 h2 => ?_) ?_
  · have hj : j = 0 ∨ j = 1 := by simp at h1; omega
    rcases hj with rfl | rfl
    · exact (eqGives_str k1 k2 t1 t3).at _ _
    · exact eqAt_bytes _ _ _ _
  · have e : ((List.range (min (#[Value.str k1 t1, .bytes b1.toArray t2] : Array Value).size (#[Value.str k2 t3, .bytes b2.toArray t4] : Array Value).size)).all (fun j => if j = 0 then k1 == k2 else b1 == b2) && (#[Value.str k1 t1, .bytes b1.toArray t2] : Array Value).size == (#[Value.str k2 t3, .bytes b2.toArray t4] : Array Value).size) = (k1 == k2 && b1 == b2) := by
      show ((k1 == k2 && (b1 == b2 && true)) && true) = _
      simp
    rw [e]
    exact h
theorem pair_eq {a b : Addr} {k1 k2 : Str} {b1 b2 : List UInt8} {t1 t2 t3 t4 : Tok} {r : Bool} {Q : Value → Shared → Prop} (ha : IsTup s.heap a #[.str k1 t1, .bytes b1.toArray t2]) (hb : IsTup s.heap b #[.str k2 t3, .bytes b2.toArray t4]) (hu : A.units < cLine)
    (hr : (k1 == k2 && b1 == b2) = r) (h : Q (.bool r) s) : wpAny (model prog w) A (compareOp .Eq (.ref a) (.ref b)) Q E s := pair_eq0 ha hb hu (by rw [hr]; exact h)
theorem item_refs {value slice : Expr} {l : Addr} {f : List TkAt} {k : Int} {u : Tok} {j : Nat} {p : TkAt} {Q : Value → Shared → Prop} (hl : s.heap.IsList l (refs f).toArray) (hk : k = (j : Int)) (hp : f[j]? = some p) (hz : f.length ≤ 100000) (h : Q (.ref p.a) s)
    (hs : subscripted slice false (.ref l) (.int k u) = operate [.ref l, .int k u] (getItem (.ref l) (.int k u)) := by with_unfolding_all rfl) (hg : ∀ r, letTemporaryGo value (.ref l) r = pure () := by intro _; with_unfolding_all rfl) :
    wpAny (model prog w) A (subscriptTail value slice (.ref l) (.int k u)) Q E s := by
  have hj : j < f.length := (List.getElem?_eq_some_iff.mp hp).1
  refine PyProof.Rows.item_list hl (by omega) (by omega) ?_ h hs hg
  subst hk
  simp [refs, hp]
end
theorem Ok.units {w : World} {A : Around} {h : Heap} {mean : ExcName → Option Value} {mg mb : Str → Option Value} {n : Nat} {env : Env} (O : Ok w A h mean mg mb n) (hn : 1 ≤ n) : (A.deeper env).units < cLine := by
  have := O.hu
  show A.units + 3 < cLine
  omega
theorem Ok.none {w : World} {A : Around} {h : Heap} {mean : ExcName → Option Value} {mg mb : Str → Option Value} {n : Nat} {env : Env} (O : Ok w A h mean mg mb n) : (A.deeper env).handled = none := O.hh

end
local macro_rules | `(tactic| walk_at "subscriptTail") => `(tactic| (k_here; (with_reducible show wpAny _ _ (subscriptTail _ (Expr.Slice none (some _) none _) (Value.ref _) (Value.ref _)) _ _ _); (with_reducible rename Fr _ _ _ _ => F'); (with_reducible rename News _ _ _ _ => N'); k_dflt (refine slice_two (s := ⟨_, _, _, _, _⟩) F' N' ⟨_, F'.keep _ _ (by with_reducible assumption), rfl, _, rfl⟩ ?_); intro D9 h9 F' N' ne9; (try simp only [List.forall_mem_cons, List.not_mem_nil, false_implies, implies_true, and_true] at ne9); (try k_sweep)))
local macro_rules | `(tactic| walk_at "subscriptTail") => `(tactic| (k_here; (with_reducible show wpAny _ _ (subscriptTail _ _ (Value.ref _) (Value.int _ _)) _ _ _); k_dflt (first
  | (refine' item_refs (News.isList ?a ?b) ?k ?p ?z ?_; (case a => k_asm); (case b => k_mem); (case k => exact rfl); (case p => with_reducible assumption); (case z => omega); (try dsimp only))
  | (refine' item_refs (News.isList ?a ?b) ?k ?p ?z ?_; (case a => k_asm); (case b => k_mem); (case k => with_reducible assumption); (case p => with_reducible assumption); (case z => omega); (try dsimp only))
  | ((with_reducible rename Fr _ _ _ _ => F'); refine item_tupleT ⟨_, F'.keep _ _ (by with_reducible assumption), rfl, _, rfl⟩ (by decide) (by decide) rfl rfl ?_))))
local macro_rules | `(tactic| walk_at "compareOp Eq ref ref") => `(tactic| (k_here; (with_reducible show wpAny _ _ (compareOp CmpOp.Eq (Value.ref _) (Value.ref _)) _ _ _); k_dflt (refine' pair_eq (News.isTup ?a ?b) (News.isTup ?c ?d) ?u ?r ?_; (case a => k_asm); (case b => k_mem); (case c => k_asm); (case d => k_mem); (case u => exact Ok.units (by with_reducible assumption) (by omega)); (case r => with_reducible assumption))))
local macro_rules | `(tactic| walk_at "assign Tuple") => `(tactic| ((with_reducible show wpAny _ _ (assign (Expr.Tuple _ _ _) _ (Value.ref _)) _ _ _); (with_reducible rename Fr _ _ _ _ => F'); (with_reducible rename News _ _ _ _ => N'); k_dflt (refine' unpackN_ F' N' ⟨_, F'.keep _ _ (by with_reducible assumption), rfl, _, rfl⟩ ?hh ?l ?st ?_; (case hh => exact Ok.none (by with_reducible assumption)); (case l => exact rfl); (case st => exact rfl)); intro h' F' N'; (try k_sweep)))
local macro_rules | `(tactic| walk_at "binaryOp Add bytes bytes") => `(tactic| (k_dflt (refine add_B (by (try simp only [List.length_append, List.length_cons, List.length_nil]); omega) ?_); intro _ _))

section
def sepOf (prev : Option Tk) (k : Tk) : List UInt8 := match prev with
  | some p => if isPoint k then [] else if isPoint p && p.spot + 1 == k.spot then [] else [32]
  | none => []
def lawBad (k : Tk) : Bool := (k.kind == "literal" || k.kind == "sign") && !isPoint k
noncomputable def lp (prev : Option Tk) (acc : List UInt8) : List Tk → Except Int (List UInt8)
  | [] => .ok acc
  | k :: ks => if lawBad k then .error k.spot else lp (some k) (acc ++ sepOf prev k ++ k.worth) ks
theorem lp_cons {prev : Option Tk} {acc : List UInt8} {k : Tk} {ks : List Tk} (h : lawBad k = false) : lp prev acc (k :: ks) = lp (some k) (acc ++ sepOf prev k ++ k.worth) ks := by
  rw [lp, if_neg (by rw [h]; decide)]
theorem lp_bad {prev : Option Tk} {acc : List UInt8} {k : Tk} {ks : List Tk} (h : lawBad k = true) : lp prev acc (k :: ks) = .error k.spot := by
  rw [lp, if_pos h]
def prevOf (f : List TkAt) : Nat → Option Tk
  | 0 => none
  | j + 1 => f[j]?.map (·.k)
/-- what is due: a new pair -/
def IsDue (h h' : Heap) (x : Except Int (List UInt8)) (r : Value) : Prop :=
  ∃ a v i t, r = .ref a ∧ h.get? a = none ∧ h'.get? a = some (tupO [v, .int i t]) ∧ (match x with | .ok b => IsBytes b v ∧ i = -1 | .error x => v = .none ∧ i = x)
theorem after_comp {h₀ H h' : Heap} {L D : Addr} {m m' : Str → Option Value} {o obj : Obj} (F : Fr h₀ L H m) (hI : h₀.get? H.objs.size = none) (hD : (H.push o).get? D = none) (hns : h'.Ns L m')
    (hk : ∀ b o', b ≠ L → b ∉ [H.objs.size] → (H.push o).get? b = some o' → h'.get? b = some o') (hobj : h'.get? D = some obj) : Fr h₀ L h' m' ∧ News h₀ L h' [(D, obj)] := by
  refine ⟨⟨hns, fun b o' e => hk b o' (fun q => ?_) (fun hb => by rw [List.mem_singleton.mp hb, hI] at e; cases e) (Heap.get?_push_of_some _ (F.keep b o' e)), F.above⟩, ?_⟩
  · exact absurd (Nat.lt_of_lt_of_le (Heap.lt_size e) F.above) (by rw [show b = L from q]; exact Nat.lt_irrefl _)
  · intro p hp
    rw [List.mem_singleton.mp hp]
    refine ⟨hobj, fun q => ?_, ?_⟩
    · obtain ⟨oL, _, _, hoL, _⟩ := (F.push o).ns
      have q' : D = L := q
      rw [q', hoL] at hD; cases hD
    · cases e : h₀.get? D with
      | none => rfl
      | some o' =>
        have := Heap.get?_push_of_some o (F.keep _ _ e)
        rw [this] at hD; cases hD
inductive InvL (f : List TkAt) (D : Addr) (k' : Nat) (due : Except Int (List UInt8)) (i : Nat) (m : Str → Option Value) (nx : List (Addr × Obj)) : Prop
  | mk (acc : List UInt8) (ta : Tok) (rest : List Tk) : nx = [(D, PySem.W.listOf (refs f).toArray k')] → rest = (f.drop i).map (·.k) → lp (prevOf f i) acc rest = due → acc.length + worths rest ≤ 4000 →
      m (Str.ofString "words") = some (.ref D) → m (Str.ofString "found") = some (.bytes acc.toArray ta) → InvL f D k' due i m nx
theorem sep_point {prev : Option Tk} {k : Tk} (h : isPoint k = true) : sepOf prev k = [] := by
  unfold sepOf
  cases prev <;> simp [h]
theorem lp_point {prev : Option Tk} {acc : List UInt8} {k : Tk} {ks : List Tk} (h : isPoint k = true) : lp prev acc (k :: ks) = lp (some k) (acc ++ k.worth) ks := by
  rw [lp_cons (by unfold lawBad; rw [h, Bool.not_true, Bool.and_false]), sep_point h, List.append_nil]
theorem word_good {k : Tk} (h : (([Str.ofString "literal", Str.ofString "sign"].any fun x => x == k.kind)) = false) : lawBad k = false := by
  unfold lawBad
  have e : (k.kind == "literal" || k.kind == "sign") = ([Str.ofString "literal", Str.ofString "sign"].any fun x => x == k.kind) := by
    simp only [List.any_cons, List.any_nil, Bool.or_false]
    rw [show (Str.ofString "literal" == k.kind) = (k.kind == Str.ofString "literal") from BEq.comm, show (Str.ofString "sign" == k.kind) = (k.kind == Str.ofString "sign") from BEq.comm]
  rw [e, h, Bool.false_and]
theorem word_bad {k : Tk} (h : (([Str.ofString "literal", Str.ofString "sign"].any fun x => x == k.kind)) = true) (hp : isPoint k = false) : lawBad k = true := by
  unfold lawBad
  have e : (k.kind == "literal" || k.kind == "sign") = ([Str.ofString "literal", Str.ofString "sign"].any fun x => x == k.kind) := by
    simp only [List.any_cons, List.any_nil, Bool.or_false]
    rw [show (Str.ofString "literal" == k.kind) = (k.kind == Str.ofString "literal") from BEq.comm, show (Str.ofString "sign" == k.kind) = (k.kind == Str.ofString "sign") from BEq.comm]
  rw [e, h, hp]; rfl
section
local macro_rules | `(tactic| walk_at "eval ListComp") => `(tactic| (refine hold ?_))
local macro_rules | `(tactic| walk_at "exec Assign cons ListComp") => `(tactic| (refine hold ?_))
variable {w : World} {A : Around} {E Q : Value → Shared → Prop} {s : Shared} {mean : ExcName → Option Value} {mg mb : Str → Option Value} {n : Nat} {l : List Env}
theorem law_phrase_spec {P : Addr} {q : List TkAt} {k : Nat} (O : Ok w A s.heap mean mg mb n) (hn : 7 ≤ n) (hP : s.heap.get? P = some (PySem.W.listOf (refs q).toArray k)) (hq : ∀ p ∈ led q, s.heap.get? p.1 = some p.2) (hz : q.length ≤ 2000) (hw : worths (q.map (·.k)) ≤ 4000) (hk : ∀ p ∈ q, p.k.kind = "quoted" ∨ p.k.kind = "literal" ∨ p.k.kind = "comment" ∨ p.k.kind = "sign" ∨ p.k.kind = "atom")
    (hret : ∀ r h' tk', s.heap.StaysIn h' → IsDue s.heap h' (lp none [] ((q.map (·.k)).filter noComment)) r → Q r { s with heap := h', toks := tk' }) :
    wpAny (model PySem.Challenge.rw_no0366_01.row.prog w) A (call (.ref 191) [.ref P]) Q E s := by
  walk_at "mine fill"
  refine' enterOk [(Str.ofString "tokens", .ref P)] ?k1 ?kn ?k3 ?k4 ?k6 ?k7 ?c1 ?c2 ?c3 ?c4 ?_
  walk_at "mine enter"
  k_steps
  rename Fr _ _ _ _ => F
  rename Heap => H
  refine wpAny_Assign_ListComp_walk (fun v => kindAt s.heap v != "comment") (fun v y => v = y) (by rfl) (by decide) (by decide) rfl (by decide) rfl rfl rfl ?_
  refine ld F rfl ?_
  have hl : ∀ h, s.heap.StaysIn h → h.IsList P (refs q).toArray := fun h hk => ⟨_, hk _ _ hP, rfl, _, rfl⟩
  refine wpAny_pyIter_list (hl _ F.keep) ?_
  have hlt : P < H.objs.size := Heap.lt_size (F.keep _ _ hP)
  have hne : P ≠ H.objs.size := Nat.ne_of_lt hlt
  have hI : s.heap.get? H.objs.size = none := by
    cases e : s.heap.get? H.objs.size with
    | none => rfl
    | some o => exact absurd (Heap.lt_size (F.keep _ _ e)) (Nat.lt_irrefl _)
  refine ⟨_, _, _, _, _, _, _, rfl, Walks.list (show (A.deeper _).handled = none from O.hh) H.objs.size P hne (refs q).toArray, ?_, ⟨⟨_, Heap.get?_push_size _ rfl, rfl, rfl⟩, hl _ fun b o e => Heap.get?_push_of_some _ (F.keep b o e)⟩, ?_, ?_, (F.push _).ns, ?_, ?_⟩
  · rw [sizeLine_eq, List.size_toArray, refs_len]; omega
  · intro b hb
    show b < (H.push _).objs.size
    rw [Heap.size_push]
    rcases List.mem_cons.mp hb with rfl | hb
    · exact Nat.lt_succ_self _
    · rw [List.mem_singleton.mp hb]; exact Nat.lt_succ_of_lt hlt
  · intro hb
    exact absurd (List.mem_singleton.mp hb) (Nat.ne_of_lt F.ns.lt)
  · refine' quiet_comments (h₀ := s.heap) ?a ?b ?c ?d ?e hq
    case a => exact rfl
    case b => exact rfl
    case c => decide
    case d => intro b hb; rw [List.mem_singleton.mp hb]; exact hI
    case e => exact fun b o e => Heap.get?_push_of_some _ (F.keep b o e)
  · intro D h' tk' ys vs hD hlD hpl hlen hP' hF hns hk'
    have hvs : vs = refs q := by
      apply List.ext_getElem?
      intro i
      by_cases hi : i < vs.length
      · have := hP' i _ (List.getElem?_eq_getElem hi)
        rw [List.getElem?_eq_getElem hi]
        simpa using this.symm
      · rw [List.getElem?_eq_none (by omega), List.getElem?_eq_none (by rw [hlen] at hi; simpa using hi)]
    have e1 := paired_eq (fun a b (e : a = b) => e.symm) hF
    rw [hvs, filter_refs q hq] at e1
    obtain ⟨k', hk2⟩ := hpl
    have hobj : h'.get? D = some (PySem.W.listOf (refs (q.filter fun p => noComment p.k)).toArray k') := by rw [hk2, ← e1]
    obtain ⟨F₂, N₂⟩ := after_comp F hI hD hns hk' hobj
    have hfm : (q.filter fun p => noComment p.k).map (·.k) = (q.map (·.k)).filter noComment := by rw [List.filter_map]; rfl
    have hfq : ∀ p ∈ (q.filter fun p => noComment p.k), p ∈ q ∧ noComment p.k = true := fun p hp => List.mem_filter.mp hp
    have hfl : (q.filter fun p => noComment p.k).length ≤ q.length := List.length_filter_le _ _
    have hfw := worths_filter noComment (q.map (·.k))
    rw [← hfm] at hret hfw
    clear e1 hvs hP' hF hns hk' hk2 hD hlD hobj
    generalize (q.filter fun p => noComment p.k) = f at *
    clear F hl hI hne hlt
    dsimp only
    k_steps
    refine wpAny_For ?_
    k_steps
    rename Fr _ _ _ _ => F
    rename News _ _ _ _ => N
    rename IsRange _ _ _ _ _ _ _ _ => rg
    rename _ = ((_ : Nat) : Int) => ez
    subst ez
    refine For_rangeB (n := f.length) (InvL f D k' (lp none [] (f.map (·.k)))) ?_ rg ?_ F N ?_ ?_ ?_ ?_
    · exact O.hh
    · exact small_nat (by omega)
    · exact ⟨[], _, _, rfl, rfl, rfl, by simp only [List.length_nil]; simp; omega, rfl, rfl⟩
    · rintro i t m₁ news₁ h₁ tk₁ It o hi F' N' hn' ⟨acc, ta, rest, rfl, hr, hph, hl1, m1, m2⟩
      clear F N rg
      simp only [List.forall_mem_cons, List.not_mem_nil, false_implies, implies_true, and_true] at hn'
      obtain ⟨p, hp⟩ : ∃ p, f[i]? = some p := ⟨_, List.getElem?_eq_getElem hi⟩
      have hpm := hfq p (List.mem_of_getElem? hp)
      have hpt := hq _ (List.mem_map.mpr ⟨p, hpm.1, rfl⟩)
      have hkp := hk p hpm.1
      rw [List.drop_eq_getElem_cons hi, show f[i] = p from by rw [List.getElem?_eq_getElem hi] at hp; exact Option.some.inj hp, List.map_cons] at hr
      generalize hrest : (f.drop (i + 1)).map (·.k) = rest' at hr
      subst hr
      have hpv : prevOf f (i + 1) = some p.k := by show f[i]?.map _ = _; rw [hp]; rfl
      obtain ⟨pa, ⟨kind, worth, spot⟩, t1, t2, t3⟩ := p
      dsimp only at *
      rw [worths_cons] at hl1
      dsimp only at hl1
      clear hkp
      cases hb : (kind == "sign" && worth == [46])
      · have hp0 : isPoint ⟨kind, worth, spot⟩ = false := hb
        cases hin : ([Str.ofString "literal", Str.ofString "sign"].any fun x => x == kind)
        · have hg : lawBad ⟨kind, worth, spot⟩ = false := word_good hin
          rcases i with _ | j
          · clear hq hk hfq hP hret
            k_steps
            rename Fr _ _ _ _ => F
            rename News _ _ _ _ => N
            refine ⟨_, _, _, _, rfl, F, ?_, by simpa using hn', _, _, rest', rfl, hrest.symm, ?_, ?_, m1, rfl⟩
            · intro p hp
              first | exact N p hp | exact N p (.tail _ hp) | exact N p (.tail _ (.tail _ hp)) | exact N p (.tail _ (.tail _ (.tail _ hp))) | exact N p (.tail _ (.tail _ (.tail _ (.tail _ hp)))) | exact N p (.tail _ (.tail _ (.tail _ (.tail _ (.tail _ hp)))))
            · rw [hpv, ← hph, lp_cons hg]; simp [prevOf, sepOf]
            · simp only [List.length_append, List.length_cons, List.length_nil]; omega
          · have hj : ((j + 1 : Nat) : Int) - 1 = (j : Int) := by omega
            obtain ⟨p', hp'⟩ : ∃ p, f[j]? = some p := ⟨_, List.getElem?_eq_getElem (by omega)⟩
            have hpt' := hq _ (List.mem_map.mpr ⟨p', (hfq p' (List.mem_of_getElem? hp')).1, rfl⟩)
            dsimp only at hpt'
            have hpv' : prevOf f (j + 1) = some p'.k := by show f[j]?.map _ = _; rw [hp']; rfl
            clear hq hk hfq hP hret
            cases hb' : (p'.k.kind == "sign" && p'.k.worth == [46])
            · have hp1 : isPoint p'.k = false := hb'
              k_steps
              rename Fr _ _ _ _ => F
              rename News _ _ _ _ => N
              refine ⟨_, _, _, _, rfl, F, ?_, by simpa using hn', _, _, rest', rfl, hrest.symm, ?_, ?_, m1, rfl⟩
              · intro p hp
                first | exact N p hp | exact N p (.tail _ hp) | exact N p (.tail _ (.tail _ hp)) | exact N p (.tail _ (.tail _ (.tail _ hp))) | exact N p (.tail _ (.tail _ (.tail _ (.tail _ hp)))) | exact N p (.tail _ (.tail _ (.tail _ (.tail _ (.tail _ hp)))))
              · rw [hpv, ← hph, lp_cons hg]; simp [hpv', sepOf, hp0, hp1]
              · simp only [List.length_append, List.length_cons, List.length_nil]; omega
            · have hp1 : isPoint p'.k = true := hb'
              k_steps
              all_goals
                rename Fr _ _ _ _ => F
                rename News _ _ _ _ => N
                refine ⟨_, _, _, _, rfl, F, ?_, by simpa using hn', _, _, rest', rfl, hrest.symm, ?_, ?_, m1, rfl⟩
                · intro p hp
                  first | exact N p hp | exact N p (.tail _ hp) | exact N p (.tail _ (.tail _ hp)) | exact N p (.tail _ (.tail _ (.tail _ hp))) | exact N p (.tail _ (.tail _ (.tail _ (.tail _ hp)))) | exact N p (.tail _ (.tail _ (.tail _ (.tail _ (.tail _ hp)))))
                · rw [hpv, ← hph, lp_cons hg]; simp [hpv', sepOf, hp0, hp1, *]
                · simp only [List.length_append, List.length_cons, List.length_nil]; omega
        · have hg : lawBad ⟨kind, worth, spot⟩ = true := word_bad hin hp0
          k_steps
          rename Fr _ _ _ _ => F
          rename News _ _ _ _ => N
          exact hret _ _ _ F.keep (by rw [← hph, lp_bad hg]; exact ⟨_, _, _, _, rfl, N.fresh (.head _), N.get (.head _), rfl, rfl⟩)
      · have hp0 : isPoint ⟨kind, worth, spot⟩ = true := hb
        have hin : ([Str.ofString "literal", Str.ofString "sign"].any fun x => x == kind) = true := by
          rw [Bool.and_eq_true, beq_iff_eq] at hb
          rw [hb.1]; decide
        clear hq hk hfq hP hret
        k_steps
        all_goals
          rename Fr _ _ _ _ => F
          rename News _ _ _ _ => N
          refine ⟨_, _, _, _, rfl, F, ?_, by simpa using hn', _, _, rest', rfl, hrest.symm, ?_, ?_, m1, rfl⟩
          · intro p hp
            first | exact N p hp | exact N p (.tail _ hp) | exact N p (.tail _ (.tail _ hp)) | exact N p (.tail _ (.tail _ (.tail _ hp))) | exact N p (.tail _ (.tail _ (.tail _ (.tail _ hp)))) | exact N p (.tail _ (.tail _ (.tail _ (.tail _ (.tail _ hp)))))
          · rw [hpv, ← hph, lp_point hp0]
          · simp only [List.length_append, List.length_cons, List.length_nil]; omega
    · rintro m₁ news₁ h₁ tk₁ F' N' ⟨acc, ta, rest, rfl, hr, hph, hl1, m1, m2⟩
      clear F N rg
      have hr0 : rest = [] := by rw [hr]; simp
      subst hr0
      k_steps
      rename Fr _ _ _ _ => F
      rename News _ _ _ _ => N
      exact hret _ _ _ F.keep (by rw [← hph]; exact ⟨_, _, _, _, rfl, N.fresh (.head _), N.get (.head _), ⟨_, rfl⟩, rfl⟩)
    · passes_own
end

end
section
section
open Builtin.ObjectAttr
theorem slot_exc_ga : Slot "BaseException" "__getattribute__" "BaseException.__getattribute__" :=
  .of (owner := "BaseException") (n := "__getattribute__") (by rw [typeLookup_type, builtinLookup_eq_fast]; kernel_rfl) (by decide +kernel) (by decide +kernel) (by decide +kernel)
    (by first | exact .inl (by decide +kernel) | exact .inr (by decide +kernel)) (by rw [isSubtype_type]; kernel_rfl)
theorem kind_exc_ga : builtinKind "BaseException.__getattribute__" = some .slot := by decide +kernel
theorem split_exc_ga : splitId "BaseException.__getattribute__" = some ("BaseException", "__getattribute__") := by decide +kernel
section
variable {prog : Program} {w : World} {A : Around} {E : Value → Shared → Prop} {s : Shared} {K : Frag} {x C : Addr}
theorem get_own {ox : Obj} {od : Option Obj} {cd : ClassData} {name : Str} {v : Value} {expr : Bool} {Q : Value → Shared → Prop} (X : K.In s.heap) (I : InstAt s.heap x ox C od) (hc : clsIn K C = some cd) (hm : cd.mro.contains (.type "BaseException") = true) (hne : cd.mro.isEmpty = false)
    (hga : findIn K (.ref C) "__getattribute__" = some (some (.builtin "BaseException.__getattribute__"))) (hk : findIn K (.ref C) "__getattr__" = some none) (hf : findObj K C od name = some (.value v)) (hh : handedIn v = true)
    (h : Q v { s with toks := s.toks + 1 }) : wpAny (model prog w) A (getAttr (.ref x) name expr) Q E s := by
  obtain ⟨hp, g, d, t, os⟩ := s
  have L0 := I.type (M := model prog w)
  have L1 := looks_findIn (M := model prog w) X hga
  have L2 := looks_findIn (M := model prog w) X hk
  have L3 := looks_find (M := model prog w) X I hf
  have sub : Looks (model prog w) hp (isInstance (.ref x) (.type "BaseException")) true := I.type.andThen (looks_mroIn X (by unfold mroIn; rw [hc, Option.bind_some, if_neg (by rw [hne]; decide), hm]))
  unfold getAttr getAttrBy
  refine wpAny_bind (wpAny_mkText (wpAny_holding (wpAny_bind (L0.at (wpAny_bind (L1.at ?_))))))
  show wpAny _ _ (getAttrByItsOwn _ _ _ _ _ _) _ _ _
  unfold getAttrByItsOwn
  refine wpAny_bind (L2.at (wpAny_bind (wpAny_attempt (wpAny_holding ?_))))
  unfold callGetattribute
  rw [show (expr && onTheHeap (Value.builtin "BaseException.__getattribute__")) = false from by cases expr <;> rfl, if_neg (by decide)]
  unfold boundAndCalled
  rw [slot_exc_ga.bind]
  refine wpAny_bind (wpAny_pure ?_)
  refine wpAny_call (codeAny_call_builtin slot_exc_ga.plain PySem.F.entry_bexc_ga (@check_slot (model prog w) _ _ ⟨hp, g, d, t + 1, os⟩ "BaseException.__getattribute__" "BaseException" "__getattribute__" (.ref x) [.str name t] [] _ kind_exc_ga split_exc_ga sub (PySem.F.args_bexc_ga (.ref x) (.str name t)) ?_))
  unfold Builtin.«object.__getattribute__»
  refine wpAny_bind (wpAny_of_eq (a := (Value.ref x, [Value.str name t])) rfl (wpAny_bind (wpAny_pure (wpAny_bind (L0.at (wpAny_bind (L3.at ?_)))))))
  refine wpAny_pure ?_
  show wpAny _ _ (handedOut v) _ _ _
  rw [handedOut_of hh]
  exact wpAny_pure h
theorem get_fault {e D : Addr} {x : Int} {o oD : Obj} {expr : Bool} {Q : Value → Shared → Prop} (X : (top0.heap_39 w.params).In s.heap) (he : s.heap.get? e = some o) (hP : ExcP D o) (hv : ∃ vs, o.data = .fields vs) (hD : s.heap.get? D = some oD) (hAt : AtP x oD)
    (h : ∀ t tk', Q (.int x t) { s with toks := tk' }) : wpAny (model prog w) A (getAttr (.ref e) "at" expr) Q E s := by
  obtain ⟨_, t, ht⟩ := hAt
  obtain ⟨vs, hv⟩ := hv
  have I : InstAt s.heap e o 59 (some oD) := ⟨he, hP.1, by unfold notCls; rw [hv], by rw [hP.2]; exact hD⟩
  refine get_own (K := top0.heap_39 w.params) (v := .int x t) X I rfl rfl rfl rfl rfl ?_ rfl (h _ _)
  obtain ⟨f, e1, e2⟩ : ∃ f, findObj (top0.heap_39 w.params) 59 (some oD) "at" = (lookIn "at" oD).bind f ∧ ∀ v, f (some v) = some (.value v) := ⟨_, rfl, fun _ => rfl⟩
  rw [e1, ht]
  exact e2 _
end
end
theorem kindsOf {d : List UInt8} {i e : Int} {k : Tk} (h : TokenAt d i k e) : k.kind = "quoted" ∨ k.kind = "literal" ∨ k.kind = "comment" ∨ k.kind = "sign" ∨ k.kind = "atom" := by
  cases h <;> simp
theorem kindsAll {d : List UInt8} {i : Int} {ks : List Tk} (h : Toks d i ks) : ∀ k ∈ ks, k.kind = "quoted" ∨ k.kind = "literal" ∨ k.kind = "comment" ∨ k.kind = "sign" ∨ k.kind = "atom" := by
  induction h with
  | nil => intro k hk; cases hk
  | cons a b c d e f ih =>
    intro k hk
    rcases List.mem_cons.mp hk with rfl | hk
    · exact kindsOf b
    · exact ih k hk
section
variable {w : World} {A : Around} {E Q : Value → Shared → Prop} {s : Shared} {mean : ExcName → Option Value} {mg mb : Str → Option Value} {n : Nat} {l : List Env}
theorem law_right_spec {d : List UInt8} {td : Tok} {i : Int} {all : List Tk} (O : Ok w A s.heap mean mg mb n) (K : Stk w A l s.heap mean mg mb) (hn : 9 ≤ n) (hd : d.length ≤ 1000) (hi : 0 ≤ i) (hW : White d 0 i) (hT : Toks d i all) (hw : worths all ≤ 4000) (hl : all.length ≤ 2000)
    (hsame : phr (all.filter noComment) [] false 0 = lp none [] (all.filter noComment))
    (hret : ∀ h' tk' g', KtsTurn (frs l) s.heap g' → g'.StaysIn h' → Q (.bool true) { s with heap := h', toks := tk' }) :
    wpAny (model PySem.Challenge.rw_no0366_01.row.prog w) A (call (.ref 198) [.bytes d.toArray td]) Q E s := by
  walk_at "mine fill"
  refine' enterOk [(Str.ofString "octets", .bytes d.toArray td)] ?k1 ?kn ?k3 ?k4 ?k6 ?k7 ?c1 ?c2 ?c3 ?c4 ?_
  walk_at "mine enter"
  k_steps
  rename Fr _ _ _ _ => F
  rename News _ _ _ _ => N
  refine tokens_of_spec (Ok.callee (k := 5) O F (by omega)) (by omega) hd hi hW hT fun r h₂ tk₂ st₂ out => ?_
  obtain ⟨P, q, k, rfl, hqk, hqP, hled⟩ := out
  have N₂ := newsApp F (newsStay N st₂) hled
  have F₂ := frStay F st₂
  have hkq : ∀ p ∈ q, p.k.kind = "quoted" ∨ p.k.kind = "literal" ∨ p.k.kind = "comment" ∨ p.k.kind = "sign" ∨ p.k.kind = "atom" := fun p hp => kindsAll hT p.k (by rw [← hqk]; exact List.mem_map.mpr ⟨p, hp, rfl⟩)
  have hql : q.length ≤ 2000 := by rw [← List.length_map (f := (·.k)), hqk]; exact hl
  clear F N st₂ hled
  dsimp only
  k_steps
  rename Fr _ _ _ _ => F
  rename News _ _ _ _ => N
  refine law_phrase_spec (Ok.callee (k := 7) O F (by omega)) (by omega) (N _ (.head _)).1 (fun p hp => (N p (.tail _ (List.mem_append_left _ hp))).1) hql (by rw [hqk]; exact hw) hkq fun r h₃ tk₃ st₃ out => ?_
  rw [hqk] at out
  obtain ⟨a, v, x, ta, rfl, hna, hoa, hm⟩ := out
  have N₃ := newsAdd F (newsStay N st₃) hna hoa
  have F₃ := frStay F st₃
  clear F N st₃ hna hoa
  dsimp only
  k_steps
  cases hlp : lp none [] (all.filter noComment) with
  | ok b =>
    rw [hlp] at hm hsame
    obtain ⟨⟨tb, rfl⟩, rfl⟩ := hm
    k_steps
    rename Fr _ _ _ _ => F
    rename News _ _ _ _ => N
    refine phrase_of_spec (Ok.callee (k := 7) O F (by omega)) (Stk.push K F rfl) (by omega) (N _ (.tail _ (.head _))).1 (fun p hp => (N p (.tail _ (.tail _ (List.mem_append_left _ hp)))).1) hql (by rw [hqk]; exact hw) hkq (fun r h₄ tk₄ b' st₄ hph out => ?_) (fun e D y h₄ tk₄ Th hph => ?_)
    · rw [hqk, hsame] at hph
      cases hph
      obtain ⟨t', rfl⟩ := out
      have F₄ := frStay F st₄
      have N₄ := newsStay N st₄
      clear F N st₄
      dsimp only
      k_steps
      rw [show (b == b) = true from by simp]
      exact hret _ _ _ KtsTurn.refl F₄.keep
    · rw [hqk, hsame] at hph
      cases hph
  | error y =>
    rw [hlp] at hm hsame
    obtain ⟨rfl, rfl⟩ := hm
    k_steps
    rename Fr _ _ _ _ => F
    rename News _ _ _ _ => N
    refine phrase_of_spec (Ok.callee (k := 7) O F (by omega)) (Stk.push K F rfl) (by omega) (N _ (.tail _ (.head _))).1 (fun p hp => (N p (.tail _ (.tail _ (List.mem_append_left _ hp)))).1) hql (by rw [hqk]; exact hw) hkq (fun r h₄ tk₄ b' st₄ hph out => ?_) (fun e D y' h₄ tk₄ Th hph => ?_)
    · rw [hqk, hsame] at hph
      cases hph
    · rw [hqk, hsame] at hph
      cases hph
      dsimp only
      refine caught_D K F N Th (test_name (Or.inl rfl) rfl rfl rfl (by decide)) fun h₅ g' tk₅ o oD TT F₅ N₅ hP hvs hAt X₅ T₅ => ?_
      clear F N Th
      k_steps
      rename Fr _ _ _ _ => F
      rename News _ _ _ _ => N
      refine get_fault (X₅.keeps F.keep) (N _ (.head _)).1 hP hvs (N _ (.tail _ (.head _))).1 hAt fun t₉ tk₉ => ?_
      dsimp only
      k_steps
      rename Fr _ _ _ _ => F
      rw [show (x == x) = true from by simp]
      exact hret _ _ g' TT F.keep
end

end
section
-- after Q87
theorem Ok.keeps {w : World} {A : Around} {h h' : Heap} {mean : ExcName → Option Value} {mg mb : Str → Option Value} {n : Nat} (O : Ok w A h mean mg mb n) (k : h.StaysIn h') : Ok w A h' mean mg mb n := ⟨O.X.keeps k, O.T.keeps k, O.hh, O.hd, O.hu⟩
theorem but_stays (h : Heap) (P : Addr) : (hideAll h [P]).StaysIn h := fun _ _ e => of_hideAll _ e
theorem but_fr {h₀ h : Heap} {L P : Addr} {m : Str → Option Value} (F : Fr h₀ L h m) : Fr (hideAll h₀ [P]) L h m := ⟨F.ns, fun b o e => F.keep b o (of_hideAll _ e), by rw [hideAll_size]; exact F.above⟩
theorem but_none (h : Heap) (P : Addr) : (hideAll h [P]).get? P = none := hideAll_none _ (.head _)
/-- the pool: a list of ints -/
def PoolAt (h : Heap) (P : Addr) : Prop := ∃ vs ns k, h.get? P = some (PySem.W.listOf vs.toArray k) ∧ IntsAre vs ns ∧ ns.length ≤ 63
theorem but_news {h₀ h : Heap} {L P : Addr} {m : Str → Option Value} {o : Obj} (F : Fr h₀ L h m) (hP : h₀.get? P = some o) : News (hideAll h₀ [P]) L h [(P, o)] := by
  intro p hp
  rw [List.mem_singleton.mp hp]
  exact ⟨F.keep _ _ hP, (fun q => absurd (Nat.lt_of_lt_of_le (Heap.lt_size hP) F.above) (by rw [show P = L from q]; exact Nat.lt_irrefl _)), but_none _ _⟩
local macro_rules | `(tactic| walk_at "call builtin:list.pop") => `(tactic| (k_here; (with_reducible show wpAny _ _ (call (Value.builtin _) [Value.ref _, Value.int _ _]) _ _ _); k_dflt (refine' kl_popAt (k := 0) ?F ?N ?f ?k ?e ?U ?z ?_; (case F => k_asm); (case N => k_asm); (case U => k_upd); (case f => rfl); (case k => (simp [seqIndex?]; done)); (case e => rfl); (case z => (rw [sizeLine_eq]; simp; omega))); intro h' F' N'; (try dsimp only [List.nil_append, List.cons_append] at N')))
section
variable {w : World} {A : Around} {E Q : Value → Shared → Prop} {s : Shared} {mean : ExcName → Option Value} {mg mb : Str → Option Value} {n : Nat}
theorem law_take_spec {P : Addr} {many : Int} {tm : Tok} (O : Ok w A (hideAll s.heap [P]) mean mg mb n) (hn : 1 ≤ n) (hP : PoolAt s.heap P) (hm : 1 ≤ many) (hm2 : many ≤ 256)
    (hret : ∀ x t h' tk', (hideAll s.heap [P]).StaysIn h' → PoolAt h' P → 0 ≤ x → x < many → Q (.int x t) { s with heap := h', toks := tk' }) :
    wpAny (model PySem.Challenge.rw_no0366_01.row.prog w) A (call (.ref 179) [.ref P, .int many tm]) Q E s := by
  walk_at "mine fill"
  obtain ⟨vs, ns, k, hp, hi, hl⟩ := hP
  refine' enterOk [(Str.ofString "many", .int many tm), (Str.ofString "pool", .ref P)] (O.keeps (but_stays _ _)) ?kn ?k3 ?k4 ?k6 ?k7 ?c1 ?c2 ?c3 ?c4 ?_
  (case kn => omega); (case k3 => k_is); (case k4 => k_is); (case k6 => exact rfl); (case k7 => exact locs rfl); (case c1 => exact rfl); (case c2 => exact rfl); (case c3 => exact rfl); (case c4 => decide)
  k_whole
  intro L₁ h₁ tk₁ F₀ N₀ X₀ T₀ hh₁
  (try k_fold)
  have F₁ := but_fr (P := P) F₀
  have N₁ := but_news F₀ hp
  have X₁ := O.X
  have T₁ := O.T
  clear F₀ N₀ X₀ T₀
  have hz := hi.length
  cases hi with
  | nil =>
    k_steps
    exact hret 0 _ _ _ F₁.keep ⟨[], [], k, (N₁ _ (.head _)).1, .nil, by simp⟩ (by omega) (by omega)
  | cons x t hi =>
    simp only [List.length_cons] at hl hz
    k_steps
    · exfalso; omega
    all_goals
      rename Fr _ _ _ _ => F
      rename News _ _ _ _ => N
      first
        | exact hret _ _ _ _ F.keep ⟨_, _, _, (N _ (.head _)).1, hi, by omega⟩ (Int.fmod_nonneg_of_pos _ (by omega)) (Int.fmod_lt_of_pos _ (by omega))
        | exact hret _ _ _ _ F.keep ⟨_, _, _, (N _ (.head _)).1, .cons _ _ hi, by simp only [List.length_cons]; omega⟩ (Int.fmod_nonneg_of_pos _ (by omega)) (Int.fmod_lt_of_pos _ (by omega))
end

end
section
-- after Q91
section
variable {prog : Program} {w : World} {A : Around} {E : Value → Shared → Prop} {s : Shared} {h₀ : Heap} {L P : Addr} {m : Str → Option Value} {news : List (Addr × Obj)} {mean : ExcName → Option Value} {mg mb : Str → Option Value} {n k : Nat} {env : Env}
theorem pool_back {h h' : Heap} {o o' : Obj} {g : Obj → List (Addr × Obj)} (F : Fr h₀ L h m) (N : News h₀ L h news) (U : UpdF P o news g) (st : (hideAll h [P]).StaysIn h') (hP : h'.get? P = some o') : Fr h₀ L h' m ∧ News h₀ L h' (g o') := by
  obtain ⟨pre, post, rfl, hg, a, b⟩ := U.split
  have z := N (P, o) (List.mem_append.mpr (.inr (.head _)))
  have k : ∀ b x, b ≠ P → h.get? b = some x → h'.get? b = some x := fun b x hb e => st b x (hideAll_get _ e fun q => hb (List.mem_singleton.mp q))
  refine ⟨frBut F k (Ne.symm z.2.1) z.2.2, ?_⟩
  rw [hg]
  intro p hp
  rcases List.mem_append.mp hp with hp | hp
  · have y := N p (List.mem_append.mpr (.inl hp))
    exact ⟨k _ _ (a p hp) y.1, y.2⟩
  · rcases List.mem_cons.mp hp with rfl | hp
    · exact ⟨hP, z.2⟩
    · have y := N p (List.mem_append.mpr (.inr (.tail _ hp)))
      exact ⟨k _ _ (b p hp) y.1, y.2⟩
theorem Ok.pool {h : Heap} {o : Obj} {g : Obj → List (Addr × Obj)} (O : Ok w A h₀ mean mg mb n) (F : Fr h₀ L h m) (N : News h₀ L h news) (U : UpdF P o news g) (hk : k + 1 ≤ n) : Ok w (A.deeper env) (hideAll h [P]) mean mg mb k := by
  obtain ⟨pre, post, rfl, hg, a, b⟩ := U.split
  have z := N (P, o) (List.mem_append.mpr (.inr (.head _)))
  have st : h₀.StaysIn (hideAll h [P]) := fun b x e => hideAll_get _ (F.keep b x e) fun q => by rw [List.mem_singleton.mp q, z.2.2] at e; cases e
  have O' := O.callee (env := env) F hk
  exact ⟨O.X.keeps st, O.T.keeps st, O'.hh, O'.hd, O'.hu⟩
theorem take_K {vs : List Value} {ns : List Int} {c : Nat} {g : Obj → List (Addr × Obj)} {many : Int} {tm : Tok} {Q : Value → Shared → Prop} (O : Ok w A h₀ mean mg mb n) (hn : 2 ≤ n) (F : Fr h₀ L s.heap m) (N : News h₀ L s.heap news) (U : UpdF P (PySem.W.listOf vs.toArray c) news g)
    (hi : IntsAre vs ns) (hl : ns.length ≤ 63) (hm : 1 ≤ many) (hm2 : many ≤ 256)
    (h : ∀ x t h' tk' vs' ns' c', Fr h₀ L h' m → News h₀ L h' (g (PySem.W.listOf vs'.toArray c')) → IntsAre vs' ns' → ns'.length ≤ 63 → 0 ≤ x → x < many → Q (.int x t) { s with heap := h', toks := tk' }) :
    wpAny (model PySem.Challenge.rw_no0366_01.row.prog w) (A.deeper env) (call (.ref 179) [.ref P, .int many tm]) Q E s := by
  have hP : PoolAt s.heap P := by
    obtain ⟨pre, post, rfl, hg, a, b⟩ := U.split
    exact ⟨vs, ns, c, (N (P, _) (List.mem_append.mpr (.inr (.head _)))).1, hi, hl⟩
  refine law_take_spec (O.pool (k := 1) F N U (by omega)) (Nat.le_refl _) hP hm hm2 fun x t h' tk' st hP' h0 h1 => ?_
  obtain ⟨vs', ns', c', hp', hi', hl'⟩ := hP'
  obtain ⟨F', N'⟩ := pool_back F N U st hp'
  exact h x t h' tk' vs' ns' c' F' N' hi' hl' h0 h1
theorem item_any {value slice : Expr} {D : Addr} {xs : List Value} {k : Int} {u : Tok} {R : Value → Prop} {Q : Value → Shared → Prop} (N : News h₀ L s.heap news) (hm : (D, tupO xs) ∈ news) (h0 : 0 ≤ k) (h1 : k < xs.length) (hz : xs.length ≤ 100) (hall : ∀ v ∈ xs, R v) (h : ∀ v, R v → Q v s)
    (hs : subscripted slice false (.ref D) (.int k u) = operate [.ref D, .int k u] (getItem (.ref D) (.int k u)) := by with_unfolding_all rfl) : wpAny (model prog w) A (subscriptTail value slice (.ref D) (.int k u)) Q E s := by
  obtain ⟨j, rfl⟩ := Int.eq_ofNat_of_zero_le h0
  have hj : j < xs.length := by omega
  refine item_tupleT (j := j) (x := xs[j]) ⟨_, (N _ hm).1, rfl, _, rfl⟩ (by omega) (by omega) ?_ (by simp [hj]) (h _ (hall _ (List.getElem_mem hj))) hs
  unfold seqIndex?
  simp
  omega
end
/-- the law's pieces -/
abbrev menu : List (List UInt8) := [[97, 98], [46], [34, 99, 32, 100, 34], [40, 101, 41], [74], [34, 46, 34], [195], [60], [91, 102, 93], [64], [32], [], [13, 10, 32]]
def IsPiece (v : Value) : Prop := ∃ b t, v = .bytes (b : List UInt8).toArray t ∧ b ∈ menu
def IsCode (v : Value) : Prop := ∃ c t, v = .int c t ∧ 0 ≤ c ∧ c < 256

end
local macro_rules | `(tactic| walk_at "mine take") => `(tactic| (k_dflt (refine' take_K ?o ?n ?F ?N ?U ?i ?l ?m ?z ?_; (case o => assumption); (case n => omega); (case F => k_asm); (case N => k_asm); (case U => k_updF); (case i => with_reducible assumption); (case l => omega); (case m => decide); (case z => decide)); intro x9 t9 h9 tk9 vs9 ns9 c9 F' N' hi9 hl9 h09 h19; (try dsimp only at N'); (try k_sweep)))
local macro_rules | `(tactic| walk_at "subscriptTail Name") => `(tactic| (k_here; (with_reducible show wpAny _ _ (subscriptTail (Expr.Name _ _) _ (Value.ref _) (Value.int _ _)) _ _ _); k_dflt (first
  | (refine' item_any (R := IsPiece) ?N ?m ?a ?b ?z ?c ?_; (case N => k_asm); (case m => k_mem); (case a => omega); (case b => (simp only [List.length_cons, List.length_nil]; omega)); (case z => exact Nat.le_of_ble_eq_true rfl); (case c => (simp only [List.forall_mem_cons, List.not_mem_nil, false_implies, implies_true, and_true]; repeat' (first | exact ⟨_, _, rfl, by decide⟩ | refine ⟨⟨_, _, rfl, by decide⟩, ?_⟩))); intro v9 p9; obtain ⟨b9, t9, e9, m9⟩ := p9; subst e9)
  | (refine' item_any (R := IsCode) ?N ?m ?a ?b ?z ?c ?_; (case N => k_asm); (case m => k_mem); (case a => omega); (case b => (simp only [List.length_cons, List.length_nil]; omega)); (case z => exact Nat.le_of_ble_eq_true rfl); (case c => (simp only [List.forall_mem_cons, List.not_mem_nil, false_implies, implies_true, and_true]; repeat' (first | exact ⟨_, _, rfl, by omega, by omega⟩ | refine ⟨⟨_, _, rfl, by omega, by omega⟩, ?_⟩))); intro v9 p9; obtain ⟨b9, t9, e9, m9, m8⟩ := p9; subst e9))))
local macro_rules | `(tactic| walk_at "subscriptTail Tuple") => `(tactic| (k_here; (with_reducible show wpAny _ _ (subscriptTail (Expr.Tuple _ _ _) _ (Value.ref _) (Value.int _ _)) _ _ _); k_dflt (first
  | (refine' item_any (R := IsPiece) ?N ?m ?a ?b ?z ?c ?_; (case N => k_asm); (case m => k_mem); (case a => omega); (case b => (simp only [List.length_cons, List.length_nil]; omega)); (case z => exact Nat.le_of_ble_eq_true rfl); (case c => (simp only [List.forall_mem_cons, List.not_mem_nil, false_implies, implies_true, and_true]; repeat' (first | exact ⟨_, _, rfl, by decide⟩ | refine ⟨⟨_, _, rfl, by decide⟩, ?_⟩))); intro v9 p9; obtain ⟨b9, t9, e9, m9⟩ := p9; subst e9)
  | (refine' item_any (R := IsCode) ?N ?m ?a ?b ?z ?c ?_; (case N => k_asm); (case m => k_mem); (case a => omega); (case b => (simp only [List.length_cons, List.length_nil]; omega)); (case z => exact Nat.le_of_ble_eq_true rfl); (case c => (simp only [List.forall_mem_cons, List.not_mem_nil, false_implies, implies_true, and_true]; repeat' (first | exact ⟨_, _, rfl, by omega, by omega⟩ | refine ⟨⟨_, _, rfl, by omega, by omega⟩, ?_⟩))); intro v9 p9; obtain ⟨b9, t9, e9, m9, m8⟩ := p9; subst e9))))
local macro_rules | `(tactic| walk_at "getMethod ref") => `(tactic| ((with_reducible show wpAny _ _ (getMethod (Value.ref _) (PySem.Str.ofString "append") _) _ _ _); k_dflt (refine' listMethod_K ?nn ?mm PySem.F.slot_list_append PySem.F.type_list_append ?_; (case nn => k_asm); (case mm => k_mem))))
local macro_rules | `(tactic| walk_at "callWith") => `(tactic| ((with_reducible show wpAny _ _ (callWith _ (Value.builtin _) (_ :: _) (backTo _ (starEach (_ :: _) _)) _) _ _ _); (with_reducible refine' callWith_method1 ?_ ?aa ?bb); (case aa => exact rfl); (case bb => exact rfl)))

section
-- after Q92
section
local macro_rules | `(tactic| walk_at "call ref") => `(tactic| (refine hold ?_))
variable {w : World} {A : Around} {E Q : Value → Shared → Prop} {s : Shared} {mean : ExcName → Option Value} {mg mb : Str → Option Value} {n : Nat}
inductive InvP (P : Addr) (i : Nat) (m : Str → Option Value) (nx : List (Addr × Obj)) : Prop
  | mk (B : Addr) (c : Nat) (lb : List (List UInt8 × Tok)) (vs : List Value) (ns : List Int) (c' : Nat) : nx = [(B, PySem.W.listOf (bvals lb).toArray c), (P, PySem.W.listOf vs.toArray c')] → @LT.lt Nat _ P B → IntsAre vs ns → ns.length ≤ 63 → (∀ p ∈ lb, p.1 ∈ menu) → lb.length = 2 * i →
      m (Str.ofString "parts") = some (.ref B) → m (Str.ofString "pool") = some (.ref P) → InvP P i m nx
theorem law_pieces_spec {P : Addr} (O : Ok w A (hideAll s.heap [P]) mean mg mb n) (hn : 3 ≤ n) (hP : PoolAt s.heap P)
    (hret : ∀ r h' tk' (ps : List (List UInt8)), (hideAll s.heap [P]).StaysIn h' → PoolAt h' P → (∀ b ∈ ps, b ∈ menu) → ps.length ≤ 16 → IsBytes ps.flatten r → Q r { s with heap := h', toks := tk' }) :
    wpAny (model PySem.Challenge.rw_no0366_01.row.prog w) A (call (.ref 186) [.ref P]) Q E s := by
  walk_at "mine fill"
  obtain ⟨vs, ns, k, hp, hi, hl⟩ := hP
  refine' enterOk [(Str.ofString "pool", .ref P)] (O.keeps (but_stays _ _)) ?kn ?k3 ?k4 ?k6 ?k7 ?c1 ?c2 ?c3 ?c4 ?_
  (case kn => omega); (case k3 => k_is); (case k4 => k_is); (case k6 => exact rfl); (case k7 => exact locs rfl); (case c1 => exact rfl); (case c2 => exact rfl); (case c3 => exact rfl); (case c4 => decide)
  k_whole
  intro L₁ h₁ tk₁ F₀ N₀ X₀ T₀ hh₁
  (try k_fold)
  have F₁ := but_fr (P := P) F₀
  have N₁ := but_news F₀ hp
  have X₁ := O.X
  have T₁ := O.T
  clear F₀ N₀ X₀ T₀ hp
  k_steps
  refine wpAny_For ?_
  k_steps
  walk_at "mine take"
  k_steps
  rename Fr _ _ _ _ => F
  rename News _ _ _ _ => N
  rename IsRange _ _ _ _ _ _ _ _ => rg
  rename IntsAre _ _ => hi
  rename (_ : Int) < 9 => hx9
  rename 0 ≤ (_ : Int) => hx0
  rename List.length _ ≤ 63 => hl
  rename P < _ => hlt
  rename Int => x9
  obtain ⟨nn, rfl⟩ := Int.eq_ofNat_of_zero_le hx0
  refine For_rangeB (n := nn) (InvP P) ?_ rg ?_ F N ?_ ?_ ?_ ?_
  · exact O.hh
  · exact small_nat (by omega)
  · exact ⟨_, _, [], _, _, _, rfl, hlt, hi, hl, (by intro p hp; cases hp), rfl, rfl, rfl⟩
  · rintro i t m₁ news₁ h₁ tk₁ It o hi' F' N' hn' ⟨B, c, lb, vs, ns, c', rfl, hlt', hi, hl, hmen, hlb, m1, m2⟩
    clear F N rg
    have hnB : @Ne Nat B It := hn' _ (.head _)
    have hnP : @Ne Nat P It := hn' _ (.tail _ (.head _))
    clear hn'
    k_steps
    all_goals
      walk_at "mine take"
      k_steps
      walk_at "mine take"
      k_steps
      rename Fr _ _ _ _ => F
      rename News _ _ _ _ => N
      refine ⟨_, _, _, _, rfl, F, (fun p hp => N p (.tail _ (.tail _ hp))), ?_, B, _, _, _, _, _, rfl, hlt', by assumption, by assumption, ?_, ?_, m1, m2⟩
      · intro p hp
        rcases List.mem_cons.mp hp with rfl | hp
        · exact hnB
        · rw [List.mem_singleton.mp hp]; exact hnP
      · intro p hp
        rcases List.mem_append.mp hp with hp | hp
        · rcases List.mem_append.mp hp with hp | hp
          · exact hmen p hp
          · rw [List.mem_singleton.mp hp]; assumption
        · rw [List.mem_singleton.mp hp]; assumption
      · simp only [List.length_append, List.length_cons, List.length_nil]; omega
  · rintro m₁ news₁ h₁ tk₁ F' N' ⟨B, c, lb, vs, ns, c', rfl, hlt', hi, hl, hmen, hlb, m1, m2⟩
    clear F N rg
    have hfl : (lb.map (·.1)).flatten.length ≤ 5 * lb.length := by
      clear hlb m1 m2 F' N'
      induction lb with
      | nil => simp
      | cons p l ih =>
        have h1 : p.1.length ≤ 5 := by
          have := hmen p (.head _)
          revert this
          generalize p.1 = b
          intro hb
          simp only [menu, List.mem_cons, List.not_mem_nil, or_false] at hb
          rcases hb with rfl | rfl | rfl | rfl | rfl | rfl | rfl | rfl | rfl | rfl | rfl | rfl | rfl <;> decide
        have := ih fun q hq => hmen q (.tail _ hq)
        simp only [List.map_cons, List.flatten_cons, List.length_append, List.length_cons]
        omega
    k_steps
    rename Fr _ _ _ _ => F
    rename News _ _ _ _ => N
    exact hret _ _ _ (lb.map (·.1)) F.keep ⟨_, _, _, (N _ (.tail _ (.head _))).1, hi, hl⟩ (fun b hb => by obtain ⟨p, hp, rfl⟩ := List.mem_map.mp hb; exact hmen p hp) (by rw [List.length_map]; omega) ⟨_, rfl⟩
  · passes_own
end

end
section
-- after Q92
section
variable {d s : List UInt8} {i : Nat} {c : UInt8}
theorem sfx_lt (h : d.drop i = c :: s) : i < d.length := by
  have := congrArg List.length h
  rw [List.length_drop, List.length_cons] at this
  omega
theorem sfx_getD (h : d.drop i = c :: s) : d.getD i 0 = c := by
  have hi := sfx_lt h
  rw [List.drop_eq_getElem_cons hi] at h
  rw [List.getD_eq_getElem?_getD, List.getElem?_eq_getElem hi]
  exact (List.cons.inj h).1
theorem sfx_at (h : d.drop i = c :: s) : at_ d (i : Int) = (c.toNat : Int) := by
  unfold at_
  rw [show ((i : Int)).toNat = i from rfl, sfx_getD h]
theorem sfx_next (h : d.drop i = c :: s) : d.drop (i + 1) = s := by
  have hi := sfx_lt h
  rw [List.drop_eq_getElem_cons hi] at h
  exact (List.cons.inj h).2
theorem sfx_app {a : List UInt8} (h : d.drop i = a ++ s) : d.drop (i + a.length) = s := by
  rw [← List.drop_drop, h, List.drop_left]
theorem sfx_cut (k : Nat) : cut d (i : Int) ((i : Int) + (k : Int)) = (d.drop i).take k := by
  unfold cut
  rw [show ((i : Int)).toNat = i from rfl, show ((i : Int) + (k : Int)).toNat - i = k by omega]
theorem sfx_lineEnd (h : d.drop i = c :: s) (h1 : c ≠ 10) (h2 : c ≠ 13) : lineEnd d (i : Int) = -1 := by
  unfold lineEnd
  have e1 : cut d (i : Int) ((i : Int) + 1) = (d.drop i).take 1 := sfx_cut 1
  have e2 : cut d (i : Int) ((i : Int) + 2) = (d.drop i).take 2 := sfx_cut 2
  rw [e1, e2, h]
  rw [if_neg, if_neg]
  · intro q
    have q' := beq_iff_eq.mp q
    rw [List.take_succ_cons] at q'
    exact h2 (List.cons.inj q').1
  · intro q
    have q' := beq_iff_eq.mp q
    rw [List.take_succ_cons] at q'
    exact h1 (List.cons.inj q').1
theorem sfx_crlf (h : d.drop i = 13 :: 10 :: s) : lineEnd d (i : Int) = (i : Int) + 2 := by
  unfold lineEnd
  have e1 : cut d (i : Int) ((i : Int) + 1) = (d.drop i).take 1 := sfx_cut 1
  have e2 : cut d (i : Int) ((i : Int) + 2) = (d.drop i).take 2 := sfx_cut 2
  rw [e1, e2, h]
  rfl
theorem u8_int_ne {a b : UInt8} (h : a ≠ b) : ((a.toNat : Nat) : Int) ≠ ((b.toNat : Nat) : Int) := fun q => h (UInt8.toNat.inj (by omega))
theorem never_of (h0 : c ≠ 0) (h1 : c ≠ 10) (h2 : c ≠ 13) : never (c.toNat : Int) = false := by
  have a0 : (0 : Int) ≠ (c.toNat : Int) := fun q => u8_int_ne h0 q.symm
  have a1 : (10 : Int) ≠ (c.toNat : Int) := fun q => u8_int_ne h1 q.symm
  have a2 : (13 : Int) ≠ (c.toNat : Int) := fun q => u8_int_ne h2 q.symm
  simp [never, a0, a1, a2]
section
variable {cl : UInt8} {bar x : List UInt8} {e : Int}
theorem closed_done (h : d.drop i = cl :: s) : Closed d cl bar (i : Int) [] ((i : Int) + 1) :=
  .done (by omega) (by have := sfx_lt h; omega) (sfx_at h)
theorem closed_plain (h : d.drop i = c :: s) (h0 : c ≠ 0) (h1 : c ≠ 10) (h2 : c ≠ 13) (h3 : c ≠ 92) (h4 : c ≠ cl) (h5 : bar.contains c = false) (r : Closed d cl bar ((i + 1 : Nat) : Int) x e) : Closed d cl bar (i : Int) (c :: x) e := by
  have hl := sfx_lineEnd h h1 h2
  have ha := sfx_at h
  have n92 : at_ d (i : Int) ≠ 92 := by rw [ha]; exact u8_int_ne h3
  have eB : insideB d (i : Int) = [c] := by
    unfold insideB
    rw [if_neg n92, if_neg (by omega), cut1 (by omega) (by have := sfx_lt h; omega), show ((i : Int)).toNat = i from rfl, sfx_getD h]
  have eN : insideN d (i : Int) = ((i + 1 : Nat) : Int) := by
    unfold insideN
    rw [if_neg n92, if_neg (by omega)]; omega
  have ok : InsideOk d (i : Int) := ⟨by omega, by have := sfx_lt h; omega, fun q => absurd q n92, fun _ _ => by rw [ha]; exact never_of h0 h1 h2⟩
  rw [show c :: x = insideB d (i : Int) ++ x by rw [eB]; rfl]
  refine .step ok (by rw [ha]; exact u8_int_ne h4) ?_ (by rw [eN]; exact r)
  rw [ha]; simpa using h5
theorem closed_esc (h : d.drop i = 92 :: c :: s) (h0 : c ≠ 0) (h1 : c ≠ 10) (h2 : c ≠ 13) (h4 : (92 : UInt8) ≠ cl) (h5 : bar.contains 92 = false) (r : Closed d cl bar ((i + 2 : Nat) : Int) x e) : Closed d cl bar (i : Int) (c :: x) e := by
  have ha := sfx_at h
  have hn := sfx_next h
  have ha' := sfx_at hn
  have e92 : at_ d (i : Int) = 92 := ha
  have hlt := sfx_lt hn
  have e1 : ((i + 1 : Nat) : Int) = (i : Int) + 1 := by omega
  have eB : insideB d (i : Int) = [c] := by
    unfold insideB
    rw [if_pos e92, show (i : Int) + 2 = ((i + 1 : Nat) : Int) + 1 by omega, ← e1, cut1 (by omega) (by omega), show ((i + 1 : Nat) : Int).toNat = i + 1 from rfl, sfx_getD hn]
  have eN : insideN d (i : Int) = ((i + 2 : Nat) : Int) := by
    unfold insideN
    rw [if_pos e92]; omega
  have ok : InsideOk d (i : Int) := ⟨by omega, by omega, fun _ => ⟨by omega, by rw [← e1, ha']; exact never_of h0 h1 h2⟩, fun q => absurd e92 q⟩
  rw [show c :: x = insideB d (i : Int) ++ x by rw [eB]; rfl]
  refine .step ok (by rw [ha]; exact u8_int_ne h4) ?_ (by rw [eN]; exact r)
  rw [ha]; simpa using h5
theorem closed_len {d : List UInt8} {cl : UInt8} {bar x : List UInt8} {i e : Int} (h : Closed d cl bar i x e) : i < e ∧ e ≤ d.length ∧ (x.length : Int) ≤ e - i := by
  induction h with
  | done a b c => exact ⟨by omega, by omega, by simp; omega⟩
  | step ok ne nb r ih =>
    have g := insideN_gt (d := d) ok.lo
    refine ⟨by omega, ih.2.1, ?_⟩
    rw [List.length_append]
    have := ih.2.2
    rename_i j _ _
    have := @insideB_len d j
    omega
end
theorem takeWhile_run {p : UInt8 → Bool} : ∀ (a s : List UInt8), a.all p = true → (∀ c r, s = c :: r → p c = false) → (a ++ s).takeWhile p = a
  | [], [], _, _ => rfl
  | [], c :: r, _, h => by rw [List.nil_append, List.takeWhile_cons, if_neg (by rw [h c r rfl]; decide)]
  | b :: a, s, ha, h => by
    rw [List.all_cons, Bool.and_eq_true] at ha
    rw [List.cons_append, List.takeWhile_cons, if_pos ha.1, takeWhile_run a s ha.2 h]
theorem sfx_run {a : List UInt8} (h : d.drop i = a ++ s) (ha : a.all atomB = true) (hs : ∀ c r, s = c :: r → atomB c = false) : atomRun d (i : Int) = a := by
  unfold atomRun
  rw [show ((i : Int)).toNat = i from rfl, h]
  exact takeWhile_run a s ha hs
theorem white_stop (h : d.drop i = c :: s) (h9 : c ≠ 9) (h32 : c ≠ 32) (h10 : c ≠ 10) (h13 : c ≠ 13) : White d (i : Int) (i : Int) :=
  .stop (by have := sfx_lt h; omega) (by rw [sfx_at h]; exact u8_int_ne h9) (by rw [sfx_at h]; exact u8_int_ne h32) (by rw [sfx_lineEnd h h10 h13]; omega)
theorem sfx_nil (h : d.drop i = []) : (d.length : Int) ≤ (i : Int) := by
  have := congrArg List.length h
  rw [List.length_drop, List.length_nil] at this
  omega
theorem atom_white : ∀ n : Fin 256, atomB (UInt8.ofNat n.1) = true → UInt8.ofNat n.1 ≠ 9 ∧ UInt8.ofNat n.1 ≠ 32 ∧ UInt8.ofNat n.1 ≠ 10 ∧ UInt8.ofNat n.1 ≠ 13 ∧ UInt8.ofNat n.1 ≠ 0 := by decide +kernel
theorem atom_white' {c : UInt8} (h : atomB c = true) : c ≠ 9 ∧ c ≠ 32 ∧ c ≠ 10 ∧ c ≠ 13 ∧ c ≠ 0 := by
  have := atom_white ⟨c.toNat, c.toNat_lt⟩
  simp only [UInt8.ofNat_toNat] at this
  exact this h
/-- what follows a place: white, then tokens -/
def After (d : List UInt8) (i : Int) : Prop := ∃ e ks, White d i e ∧ i ≤ e ∧ Toks d e ks
theorem toks_sign (h : d.drop i = c :: s) (hc : SIGNS.contains c = true) (r : After d ((i + 1 : Nat) : Int)) : ∃ ks, Toks d (i : Int) ks := by
  obtain ⟨e, ks, hw, he, ht⟩ := r
  have hg := sfx_getD h
  exact ⟨_, .cons (by have := sfx_lt h; omega) (.sign (by rw [show ((i : Int)).toNat = i from rfl, hg]; exact hc)) (by omega) (by rw [show (i : Int) + 1 = ((i + 1 : Nat) : Int) by omega]; exact hw) (by omega) ht⟩
theorem toks_atom {a : List UInt8} (h : d.drop i = a ++ s) (h0 : a ≠ []) (ha : a.all atomB = true) (hs : ∀ c r, s = c :: r → atomB c = false) (r : After d ((i + a.length : Nat) : Int)) : ∃ ks, Toks d (i : Int) ks := by
  obtain ⟨e, ks, hw, he, ht⟩ := r
  obtain ⟨c, a', rfl⟩ : ∃ c a', a = c :: a' := by
    cases a with
    | nil => exact absurd rfl h0
    | cons c a' => exact ⟨c, a', rfl⟩
  have hg := sfx_getD h
  have hr := sfx_run h ha hs
  rw [List.all_cons, Bool.and_eq_true] at ha
  have hk : TokenAt d (i : Int) ⟨"atom", atomRun d i, i⟩ ((i : Int) + (atomRun d i).length) := .atom (by rw [show ((i : Int)).toNat = i from rfl, hg]; exact ha.1)
  rw [hr] at hk
  exact ⟨_, .cons (by have := sfx_lt h; omega) hk (by rw [List.length_cons]; omega) (by rw [show (i : Int) + ((c :: a').length : Nat) = ((i + (c :: a').length : Nat) : Int) by omega]; exact hw) (by omega) ht⟩
theorem toks_closed {k : Tk} {e : Nat} (h : d.drop i = c :: s) (hk : TokenAt d (i : Int) k (e : Int)) (he : i < e) (r : After d (e : Int)) : ∃ ks, Toks d (i : Int) ks := by
  obtain ⟨e', ks, hw, he', ht⟩ := r
  exact ⟨_, .cons (by have := sfx_lt h; omega) hk (by omega) hw he' ht⟩
theorem after_tok (h : d.drop i = c :: s) (h9 : c ≠ 9) (h32 : c ≠ 32) (h10 : c ≠ 10) (h13 : c ≠ 13) (t : ∃ ks, Toks d (i : Int) ks) : After d (i : Int) := by
  obtain ⟨ks, ht⟩ := t
  exact ⟨_, ks, white_stop h h9 h32 h10 h13, Int.le_refl _, ht⟩
theorem pieces_toks : ∀ (ps : List (List UInt8)), (∀ b ∈ ps, b ∈ menu) → ∀ i : Nat,
    (d.drop i = ps.flatten → After d (i : Int)) ∧ (∀ a, a ≠ [] → a.all atomB = true → d.drop i = a ++ ps.flatten → ∃ ks, Toks d (i : Int) ks)
  | [], _, i => by
    refine ⟨fun h => ⟨_, [], .fin (sfx_nil h), Int.le_refl _, .nil (sfx_nil h)⟩, fun a h0 ha h => ?_⟩
    have hn := sfx_nil (sfx_app h)
    exact toks_atom h h0 ha (fun c r q => by cases q) ⟨_, [], .fin hn, Int.le_refl _, .nil hn⟩
  | p :: ps, hp, i => by
    have ih := pieces_toks ps fun b hb => hp b (.tail _ hb)
    have hpm := hp p (.head _)
    -- the first part serves the second where the piece begins with no sign of an atom
    have second (h1 : ∀ i : Nat, d.drop i = (p :: ps).flatten → After d (i : Int)) (hs : ∀ c r, (p :: ps).flatten = c :: r → atomB c = false) :
        ∀ a, a ≠ [] → a.all atomB = true → d.drop i = a ++ (p :: ps).flatten → ∃ ks, Toks d (i : Int) ks :=
      fun a h0 ha h => toks_atom h h0 ha hs (h1 _ (sfx_app h))
    have word (h0 : p ≠ []) (hpa : p.all atomB = true) : (d.drop i = (p :: ps).flatten → After d (i : Int)) ∧ (∀ a, a ≠ [] → a.all atomB = true → d.drop i = a ++ (p :: ps).flatten → ∃ ks, Toks d (i : Int) ks) := by
      refine ⟨fun h => ?_, fun a h0 ha h => (ih i).2 (a ++ p) (by simp [h0]) (by rw [List.all_append, ha, hpa]; rfl) (by rw [h, List.flatten_cons, List.append_assoc])⟩
      have t := (ih i).2 p h0 hpa h
      obtain ⟨c, p', rfl⟩ : ∃ c p', p = c :: p' := by
        cases p with
        | nil => exact absurd rfl h0
        | cons c a' => exact ⟨c, a', rfl⟩
      rw [List.all_cons, Bool.and_eq_true] at hpa
      obtain ⟨w9, w32, w10, w13, _⟩ := atom_white' hpa.1
      exact after_tok h w9 w32 w10 w13 t
    have one (c : UInt8) (e : p = [c]) (hc : SIGNS.contains c = true) (h9 : c ≠ 9) (h32 : c ≠ 32) (h10 : c ≠ 10) (h13 : c ≠ 13) : ∀ i : Nat, d.drop i = (p :: ps).flatten → After d (i : Int) := fun i h => by
      subst e
      exact after_tok h h9 h32 h10 h13 (toks_sign h hc ((ih _).1 (sfx_next h)))
    simp only [menu, List.mem_cons, List.not_mem_nil, or_false] at hpm
    rcases hpm with rfl | rfl | rfl | rfl | rfl | rfl | rfl | rfl | rfl | rfl | rfl | rfl | rfl
    · exact word (by decide) (by decide +kernel)
    · have h1 := one 46 rfl (by decide) (by decide) (by decide) (by decide) (by decide)
      exact ⟨h1 i, second h1 fun c r q => by cases q; decide +kernel⟩
    · have h1 : ∀ i : Nat, d.drop i = ([34, 99, 32, 100, 34] :: ps).flatten → After d (i : Int) := fun i h => by
        have g1 := sfx_next h
        have g2 := sfx_next g1
        have g3 := sfx_next g2
        have g4 := sfx_next g3
        have g5 := sfx_next g4
        refine after_tok h (by decide) (by decide) (by decide) (by decide) (toks_closed (e := i + 5) h (.quoted (x := [99, 32, 100]) (by rw [show ((i : Int)).toNat = i from rfl, sfx_getD h]) ?_) (by omega) ((ih _).1 g5))
        exact closed_plain g1 (by decide) (by decide) (by decide) (by decide) (by decide) rfl (closed_plain g2 (by decide) (by decide) (by decide) (by decide) (by decide) rfl (closed_plain g3 (by decide) (by decide) (by decide) (by decide) (by decide) rfl (closed_done g4)))
      exact ⟨h1 i, second h1 fun c r q => by cases q; decide +kernel⟩
    · have h1 : ∀ i : Nat, d.drop i = ([40, 101, 41] :: ps).flatten → After d (i : Int) := fun i h => by
        have g1 := sfx_next h
        have g2 := sfx_next g1
        have g3 := sfx_next g2
        refine after_tok h (by decide) (by decide) (by decide) (by decide) (toks_closed (e := i + 3) h (.comment (x := [101]) (by rw [show ((i : Int)).toNat = i from rfl, sfx_getD h]) ?_) (by omega) ((ih _).1 g3))
        exact closed_plain g1 (by decide) (by decide) (by decide) (by decide) (by decide) (by decide) (closed_done g2)
      exact ⟨h1 i, second h1 fun c r q => by cases q; decide +kernel⟩
    · exact word (by decide) (by decide +kernel)
    · have h1 : ∀ i : Nat, d.drop i = ([34, 46, 34] :: ps).flatten → After d (i : Int) := fun i h => by
        have g1 := sfx_next h
        have g2 := sfx_next g1
        have g3 := sfx_next g2
        refine after_tok h (by decide) (by decide) (by decide) (by decide) (toks_closed (e := i + 3) h (.quoted (x := [46]) (by rw [show ((i : Int)).toNat = i from rfl, sfx_getD h]) ?_) (by omega) ((ih _).1 g3))
        exact closed_plain g1 (by decide) (by decide) (by decide) (by decide) (by decide) (by decide) (closed_done g2)
      exact ⟨h1 i, second h1 fun c r q => by cases q; decide +kernel⟩
    · exact word (by decide) (by decide +kernel)
    · have h1 := one 60 rfl (by decide) (by decide) (by decide) (by decide) (by decide)
      exact ⟨h1 i, second h1 fun c r q => by cases q; decide +kernel⟩
    · have h1 : ∀ i : Nat, d.drop i = ([91, 102, 93] :: ps).flatten → After d (i : Int) := fun i h => by
        have g1 := sfx_next h
        have g2 := sfx_next g1
        have g3 := sfx_next g2
        refine after_tok h (by decide) (by decide) (by decide) (by decide) (toks_closed (e := i + 3) h (.literal (x := [102]) (by rw [show ((i : Int)).toNat = i from rfl, sfx_getD h]) ?_) (by omega) ((ih _).1 g3))
        exact closed_plain g1 (by decide) (by decide) (by decide) (by decide) (by decide) (by decide) (closed_done g2)
      exact ⟨h1 i, second h1 fun c r q => by cases q; decide +kernel⟩
    · have h1 := one 64 rfl (by decide) (by decide) (by decide) (by decide) (by decide)
      exact ⟨h1 i, second h1 fun c r q => by cases q; decide +kernel⟩
    · have h1 : ∀ i : Nat, d.drop i = ([32] :: ps).flatten → After d (i : Int) := fun i h => by
        obtain ⟨e, ks, hw, he, ht⟩ := (ih _).1 (sfx_next h)
        exact ⟨e, ks, .blank (by have := sfx_lt h; omega) (.inr (sfx_at h)) hw, by omega, ht⟩
      exact ⟨h1 i, second h1 fun c r q => by cases q; decide +kernel⟩
    · exact ⟨fun h => (ih i).1 h, fun a h0 ha h => (ih i).2 a h0 ha h⟩
    · have h1 : ∀ i : Nat, d.drop i = ([13, 10, 32] :: ps).flatten → After d (i : Int) := fun i h => by
        have g1 := sfx_next h
        have g2 := sfx_next g1
        have hl := sfx_crlf h
        obtain ⟨e, ks, hw, he, ht⟩ := (ih _).1 (sfx_next g2)
        refine ⟨e, ks, .line (by have := sfx_lt h; omega) (by rw [sfx_at h]; decide) (by rw [sfx_at h]; decide) (by rw [hl]; omega) ?_, by omega, ht⟩
        rw [hl]
        exact .blank (by have := sfx_lt g2; omega) (.inr (sfx_at g2)) hw
      exact ⟨h1 i, second h1 fun c r q => by cases q; decide +kernel⟩
end

end
section
-- after Q90 Q95
theorem token_len {d : List UInt8} {i e : Int} {k : Tk} (h : TokenAt d i k e) (h0 : 0 ≤ i) (h1 : i < d.length) : e ≤ d.length ∧ (k.worth.length : Int) ≤ e - i ∧ k.spot = i := by
  cases h with
  | quoted a b => have := closed_len b; exact ⟨by omega, by dsimp only; omega, rfl⟩
  | literal a b => have := closed_len b; exact ⟨by omega, by dsimp only; omega, rfl⟩
  | comment a b => have := closed_len b; exact ⟨by omega, by dsimp only; omega, rfl⟩
  | sign a => exact ⟨by omega, by dsimp only [List.length_cons, List.length_nil]; omega, rfl⟩
  | atom a => have := (atomRun_facts h0 (Int.le_of_lt h1)).1; exact ⟨by omega, by dsimp only; omega, rfl⟩
theorem toks_worths {d : List UInt8} {i : Int} {ks : List Tk} (h : Toks d i ks) : 0 ≤ i → worths ks ≤ 2 * ((d.length : Int) - i).toNat ∧ ks.length ≤ worths ks ∧ ∀ k ∈ ks, 0 ≤ k.spot := by
  induction h with
  | nil a => intro _; exact ⟨by simp [worths], by simp [worths], by intro k hk; cases hk⟩
  | cons a b c f g r ih =>
    intro h0
    have t := token_len b h0 a
    have ih := ih (by omega)
    refine ⟨?_, ?_, ?_⟩
    · rw [worths_cons]; omega
    · rw [worths_cons, List.length_cons]; omega
    · intro k hk
      rcases List.mem_cons.mp hk with rfl | hk
      · omega
      · exact ih.2.2 k hk
def glue : Option Tk → Int
  | none => 0
  | some p => if isPoint p then p.spot + 1 else -1
theorem phr_lp : ∀ (ks : List Tk) (prev : Option Tk) (acc : List UInt8), (∀ k ∈ ks, 0 ≤ k.spot ∧ (k.kind = "quoted" ∨ k.kind = "literal" ∨ k.kind = "sign" ∨ k.kind = "atom")) →
    phr ks acc prev.isSome (glue prev) = lp prev acc ks
  | [], _, _, _ => rfl
  | k :: ks, prev, acc, h => by
    have ih := phr_lp ks (some k)
    have hk := h k (.head _)
    have hr := fun x hx => h x (.tail _ hx)
    cases hb : lawBad k with
    | true =>
      rw [lp_bad hb, phr_bad]
      unfold lawBad at hb
      rw [Bool.and_eq_true, Bool.not_eq_true'] at hb
      unfold wordOk
      rw [hb.2]
      rcases hk.2 with q | q | q | q <;> rw [q] <;> rw [q] at hb <;> first | rfl | (exact absurd hb.1 (by decide))
    | false =>
      rw [lp_cons hb]
      have hw : wordOk k = true := by
        unfold lawBad at hb
        unfold wordOk
        cases hp : isPoint k with
        | true => rw [Bool.or_true]
        | false =>
          rw [hp] at hb
          rcases hk.2 with q | q | q | q <;> rw [q] <;> rw [q] at hb <;> first | rfl | (exact absurd hb (by decide))
      cases hp : isPoint k with
      | true =>
        rw [phr_point hp]
        have := ih (acc ++ sepOf prev k ++ k.worth) hr
        rw [← this]
        have e1 : glue (some k) = k.spot + 1 := by simp [glue, hp]
        have e2 : sepOf prev k = [] := by unfold sepOf; cases prev <;> simp [hp]
        rw [e1, e2, List.append_nil]
        rfl
      | false =>
        rw [phr_word hw hp]
        have := ih (acc ++ sepOf prev k ++ k.worth) hr
        rw [← this]
        have e1 : glue (some k) = -1 := by simp [glue, hp]
        have e2 : (if (prev.isSome && k.spot != glue prev) = true then [32] else []) = sepOf prev k := by
          unfold sepOf
          cases prev with
          | none => rfl
          | some p =>
            dsimp only
            rw [hp, if_neg (by decide : ¬ (false = true))]
            cases hpp : isPoint p with
            | true =>
              have e3 : glue (some p) = p.spot + 1 := by simp [glue, hpp]
              rw [e3]
              by_cases q : p.spot + 1 = k.spot
              · simp [q]
              · have q' : k.spot ≠ p.spot + 1 := fun z => q z.symm
                simp [q, q']
            | false =>
              have e3 : glue (some p) = -1 := by simp [glue, hpp]
              rw [e3]
              have q' : k.spot ≠ -1 := by omega
              simp [q']
        rw [e1, e2]
        rfl
theorem same_of_toks {d : List UInt8} {i : Int} {ks : List Tk} (h : Toks d i ks) (h0 : 0 ≤ i) : phr (ks.filter noComment) [] false 0 = lp none [] (ks.filter noComment) := by
  refine phr_lp (ks.filter noComment) none [] fun k hk => ?_
  obtain ⟨hm, hn⟩ := List.mem_filter.mp hk
  refine ⟨(toks_worths h h0).2.2 k hm, ?_⟩
  rcases kindsAll h k hm with q | q | q | q | q
  · exact .inl q
  · exact .inr (.inl q)
  · exfalso; unfold noComment at hn; rw [q] at hn; exact absurd hn (by decide)
  · exact .inr (.inr (.inl q))
  · exact .inr (.inr (.inr q))
theorem pieces_read {ps : List (List UInt8)} (hp : ∀ b ∈ ps, b ∈ menu) (hl : ps.length ≤ 16) : ∃ i ks, White ps.flatten 0 i ∧ 0 ≤ i ∧ Toks ps.flatten i ks ∧ ps.flatten.length ≤ 80 ∧ worths ks ≤ 160 ∧ ks.length ≤ 160 ∧ phr (ks.filter noComment) [] false 0 = lp none [] (ks.filter noComment) := by
  obtain ⟨i, ks, hw, hi, ht⟩ := (pieces_toks (d := ps.flatten) ps hp 0).1 rfl
  have hz : ∀ l : List (List UInt8), (∀ b ∈ l, b ∈ menu) → l.flatten.length ≤ 5 * l.length := by
    intro l
    induction l with
    | nil => intro _; simp
    | cons b l ih =>
      intro h
      have := ih fun x hx => h x (.tail _ hx)
      have hb : b.length ≤ 5 := by
        have := h b (.head _)
        simp only [menu, List.mem_cons, List.not_mem_nil, or_false] at this
        rcases this with rfl | rfl | rfl | rfl | rfl | rfl | rfl | rfl | rfl | rfl | rfl | rfl | rfl <;> decide
      simp only [List.flatten_cons, List.length_append, List.length_cons]
      omega
  have hz' := hz ps hp
  have hi' : (0 : Int) ≤ i := hi
  obtain ⟨w1, w2, w3⟩ := toks_worths ht hi'
  exact ⟨i, ks, hw, hi', ht, by omega, by omega, by omega, same_of_toks ht hi'⟩
/-- octets that are read back as one token -/
def Reads (out : List UInt8) (k : Str) (o : List UInt8) : Prop := White out 0 0 ∧ Toks out 0 [⟨k, o, 0⟩]
theorem badB_not {c : UInt8} (h : badB c = false) : c ≠ 0 ∧ c ≠ 10 ∧ c ≠ 13 := by
  unfold badB at h
  simpa [not_or, and_assoc] using h
theorem esc_closed {d sg bar : List UInt8} {cl : UInt8} (hcl : sg.contains cl = true) (h92 : sg.contains 92 = true) (hb : ∀ c, sg.contains c = false → bar.contains c = false) (hb92 : bar.contains 92 = false) (hc92 : (92 : UInt8) ≠ cl) :
    ∀ (o : List UInt8) (i : Nat), (∀ c ∈ o, badB c = false) → d.drop i = esc sg o ++ [cl] → Closed d cl bar (i : Int) o (d.length : Int)
  | [], i, _, h => by
    have := sfx_nil (sfx_next h)
    have h2 := sfx_lt h
    have := closed_done (bar := bar) h
    rw [show ((i : Int) + 1) = (d.length : Int) by omega] at this
    exact this
  | c :: o, i, hn, h => by
    obtain ⟨n0, n1, n2⟩ := badB_not (hn c (.head _))
    have ih := fun j => esc_closed (d := d) hcl h92 hb hb92 hc92 o j fun x hx => hn x (.tail _ hx)
    have e : esc sg (c :: o) = escB sg c ++ esc sg o := rfl
    rw [e] at h
    cases hc : sg.contains c with
    | true =>
      rw [escB_in hc] at h
      exact closed_esc h n0 n1 n2 hc92 hb92 (ih (i + 2) (sfx_next (sfx_next h)))
    | false =>
      rw [escB_out hc] at h
      refine closed_plain h n0 n1 n2 (fun q => ?_) (fun q => ?_) (hb c hc) (ih (i + 1) (sfx_next h))
      · rw [q, h92] at hc; cases hc
      · rw [q, hcl] at hc; cases hc
theorem reads_of {c : UInt8} {s : List UInt8} {k : Str} {o : List UInt8} (h9 : c ≠ 9) (h32 : c ≠ 32) (h10 : c ≠ 10) (h13 : c ≠ 13) (h : TokenAt (c :: s) 0 ⟨k, o, 0⟩ ((c :: s).length : Int)) : Reads (c :: s) k o := by
  have hd : (c :: s).drop 0 = c :: s := rfl
  refine ⟨white_stop hd h9 h32 h10 h13, ?_⟩
  exact .cons (by rw [List.length_cons]; omega) h (by rw [List.length_cons]; omega) (.fin (Int.le_refl _)) (Int.le_refl _) (.nil (Int.le_refl _))
theorem read_quoted {o : List UInt8} (h : ∀ c ∈ o, badB c = false) : Reads (quoted o) "quoted" o := by
  refine reads_of (by decide) (by decide) (by decide) (by decide) (.quoted rfl ?_)
  exact esc_closed (d := quoted o) (sg := [34, 92]) (bar := []) (cl := 34) (by decide) (by decide) (fun _ _ => rfl) rfl (by decide) o 1 h rfl
theorem sub_bar {sg : List UInt8} {b c : UInt8} (hb : sg.contains b = true) (h : sg.contains c = false) : ([b] : List UInt8).contains c = false := by
  cases q : ([b] : List UInt8).contains c with
  | false => rfl
  | true =>
    rw [List.contains_iff_mem, List.mem_singleton] at q
    rw [q, hb] at h; cases h
theorem read_literal {o : List UInt8} (h : ∀ c ∈ o, badB c = false) : Reads (literal o) "literal" o := by
  refine reads_of (by decide) (by decide) (by decide) (by decide) (.literal rfl ?_)
  exact esc_closed (d := literal o) (sg := [91, 93, 92]) (bar := [91]) (cl := 93) (by decide) (by decide) (fun c hc => sub_bar (by decide) hc) (by decide) (by decide) o 1 h rfl
theorem read_comment {o : List UInt8} (h : ∀ c ∈ o, badB c = false) : Reads (comment o) "comment" o := by
  refine reads_of (by decide) (by decide) (by decide) (by decide) (.comment rfl ?_)
  exact esc_closed (d := comment o) (sg := [40, 41, 92]) (bar := [40]) (cl := 41) (by decide) (by decide) (fun c hc => sub_bar (by decide) hc) (by decide) (by decide) o 1 h rfl
theorem read_atom {o : List UInt8} (h : isAtom o = true) : Reads o "atom" o := by
  unfold isAtom at h
  rw [Bool.and_eq_true, decide_eq_true_eq] at h
  obtain ⟨c, s, rfl⟩ : ∃ c s, o = c :: s := by
    cases o with
    | nil => exact absurd h.1 (by decide)
    | cons c s => exact ⟨c, s, rfl⟩
  have hr : atomRun (c :: s) ((0 : Nat) : Int) = c :: s := sfx_run (d := c :: s) (i := 0) (s := []) (by rw [List.append_nil]; rfl) h.2 (fun c r q => by cases q)
  have ha := h.2
  rw [List.all_cons, Bool.and_eq_true] at ha
  obtain ⟨w9, w32, w10, w13, _⟩ := atom_white' ha.1
  refine reads_of w9 w32 w10 w13 ?_
  have hk : TokenAt (c :: s) 0 ⟨"atom", atomRun (c :: s) 0, 0⟩ (0 + (atomRun (c :: s) 0).length) := .atom ha.1
  rw [show atomRun (c :: s) 0 = c :: s from hr, Int.zero_add] at hk
  exact hk
theorem atom_good {o : List UInt8} (h : isAtom o = true) : ∀ c ∈ o, badB c = false := by
  intro c hc
  unfold isAtom at h
  rw [Bool.and_eq_true] at h
  obtain ⟨_, _, w10, w13, w0⟩ := atom_white' (List.all_eq_true.mp h.2 c hc)
  simp [badB, w0, w10, w13]
/-- the law's own word for a plain octet -/
def plainB (c : UInt8) : Bool := !(decide ((c.toNat : Int) < 33) || ((c.toNat : Int) == 127) || ([40, 41, 60, 62, 91, 93, 58, 59, 64, 92, 44, 46, 34] : List UInt8).contains c)
theorem plain_fin : ∀ n : Fin 256, plainB (UInt8.ofNat n.1) = atomB (UInt8.ofNat n.1) := by decide +kernel
theorem plain_atom (c : UInt8) : plainB c = atomB c := by
  have := plain_fin ⟨c.toNat, c.toNat_lt⟩
  simpa only [UInt8.ofNat_toNat] using this

end
section
-- after Q90 Q96
theorem Stk.pushX {w : World} {A : Around} {h h' : Heap} {l : List Env} {L : Addr} {m : Str → Option Value} {env : Env} {mean : ExcName → Option Value} {mg mb : Str → Option Value} (K : Stk w A l h mean mg mb) (F : Fr h L h' m) (hf : env.frame = some L) (hk : env.scope.kind = .function) :
    Stk w (A.deeper env) (env :: l) h' mean mg mb := by
  have B : Below A (hideAll h (frs l)) l h := ⟨K.fr, fun b o q => of_hideAll _ q, K.ff⟩
  have B' := PySem.W.pushX B F hf hk
  exact ⟨B'.stack, funFrames_hide B'.frames fun env he a ha => List.mem_filterMap.mpr ⟨env, he, ha⟩, K.X.keeps (hide_stays F hf), K.T.keeps (hide_stays F hf)⟩
/-- a call of a def whose locals are captured -/
theorem enterX {w : World} {A : Around} {E : Value → Shared → Prop} {s : Shared} {mean : ExcName → Option Value} {mg mb : Str → Option Value} {Q : Value → Shared → Prop} {n : Nat}
    {name qual : Str} {params : Arguments} {body : List Stmt} {scope : Scope} {dV kV doc pm cdv ct oc : Value} {an od : Option Addr} {osl : Array (Option Value)} {f : Addr} {vals : List Value} (binds : List (Str × Value))
    (O : Ok w A s.heap mean mg mb n) (hn : 1 ≤ n)
    (ho : (top0.heap_39 w.params).lookup f = some ⟨oc, od, .func (fnOf name qual params body scope dV kV doc pm an cdv ct), osl⟩) (hcd : codeIn (top0.heap_39 w.params) cdv qual = true)
    (hbind : bindArgs (fnOf name qual params body scope dV kV doc pm an cdv ct) ⟨vals, []⟩ = pure binds)
    (hkind : (binds.all fun y => scope.names.lookup y.1 == some .local || scope.names.lookup y.1 == some .cell) = true) (hnd : ((cellsFrom 0 scope.names []).map (·.1)).Nodup)
    (hco : scope.isCoroutine = false) (hgen : scope.isGenerator = false) (hk : scope.kind = .function)
    (h : ∀ L h₁ tk cells, Fr s.heap L h₁ (bindL (envOfC qual scope L f cdv).kindOf binds fun _ => none) → News s.heap L h₁ cells → CellsAre (bindC (envOfC qual scope L f cdv).kindOf binds fun _ => none) (cellsFrom (L + 1) scope.names []) cells →
      (top0.heap_39 w.params).In s.heap → Top topView (looseW topView [Str.ofString "PostError"]) mean mg mb s.heap → A.handled = none →
      wpAny (model PySem.Challenge.rw_no0366_01.row.prog w) (A.deeper (envOfC qual scope L f cdv)) (execs body (envOfC qual scope L f cdv))
        (fun fl s' => Q (match fl with | .ret v => v | _ => .none) s')
        (fun e s' => wpAny (model PySem.Challenge.rw_no0366_01.row.prog w) (A.deeper (envOfC qual scope L f cdv)) (leaving (envOfC qual scope L f cdv) e) (fun _ s'' => E e s'') (fun e' s'' => E e' s'') s')
        { s with heap := h₁, toks := tk }) : wpAny (model PySem.Challenge.rw_no0366_01.row.prog w) A (call (.ref f) vals) Q E s := by
  refine wpAny_call ?_
  refine codeAny_call_function (by have := O.hd; omega) (O.X _ _ ho) rfl hco hgen rfl (codeRec_of O.X hcd) (BindsTo.of_eq hbind _ _ _ _ ?_)
  refine wpAny_newFunctionEnv_cells hk (kindsX hkind _) fun env' he s' x => ?_
  subst he
  refine ⟨O.T.nolimit.keeps x.toInCall.keep, codeAny_func ?_⟩
  obtain ⟨h₁, tk, rfl, _⟩ := x.done
  obtain ⟨cells, NC, Y⟩ := Cl.news (h₀ := s.heap) (Nat.le_refl _) fun n c hm => ⟨x.cell n c (lookup_of_mem_nodup (cellsFrom_names scope.names 0 (s.heap.objs.size + 1) [] [] rfl ▸ hnd) hm), x.above n c hm⟩
  exact h s.heap.objs.size h₁ tk cells ⟨x.toInCall.ns, x.toInCall.keep, Nat.le_refl _⟩ NC Y O.X O.T O.hh
section
variable {w : World} {A : Around} {E : Value → Shared → Prop} {s : Shared} {mean : ExcName → Option Value} {mg mb : Str → Option Value} {g h : Heap} {l : List Env} {L a e D : Addr} {m : Str → Option Value} {name : Str} {scope : Scope} {cd : Value} {cl : List (Str × Addr)} {v : Int} {Q : Flow → Shared → Prop} {news : List (Addr × Obj)}
  {x n : Str} {np pos : Pos} {b₀ : Stmt} {suite : List Stmt} {rest : List ExceptHandler}
theorem caught_X (K : Stk w A l g mean mg mb) (F : Fr g L h m) (N : News g L h news) (R : Thrown h (envX name scope L a cd cl :: l) e D v s.heap)
    (hx : nsIn (top0.heap_39 w.params) mainGlobals x = some (some (.ref 59))) (hm : exmOne (top0.heap_39 w.params) (.ref 59) (.ref 59) = some true)
    (k : ∀ h' g' tk o oD, KtsTurn (frs l) g g' → Fr g' L h' (fun y => if y = n then some (.ref e) else m y) → News g' L h' ((e, o) :: (D, oD) :: news) → ExcP D o → (∃ vs, o.data = .fields vs) → AtP v oD →
      (top0.heap_39 w.params).In g' → Top topView (looseW topView [Str.ofString "PostError"]) mean mg mb g' →
      wpAny (model PySem.Challenge.rw_no0366_01.row.prog w) ((A.deeper (envX name scope L a cd cl)).mark (some (.ref e))) (execs (b₀ :: suite) (envX name scope L a cd cl))
        (fun f s₄ => wpAny (model PySem.Challenge.rw_no0366_01.row.prog w) (A.deeper (envX name scope L a cd cl)) (do bindName (envX name scope L a cd cl) n .none; unbindBehindTheSuite (envX name scope L a cd cl) n pos) (fun _ s₅ => Q f s₅) E s₄)
        (AsSuiteRaised (model PySem.Challenge.rw_no0366_01.row.prog w) ((A.deeper (envX name scope L a cd cl)).mark (some (.ref e))) (envX name scope L a cd cl) n pos (notedBy (model PySem.Challenge.rw_no0366_01.row.prog w) ((A.deeper (envX name scope L a cd cl)).mark (some (.ref e))) (envX name scope L a cd cl) (cameBackBy (model PySem.Challenge.rw_no0366_01.row.prog w) (A.deeper (envX name scope L a cd cl)) (envX name scope L a cd cl) E)))
        { s with heap := h', toks := tk })
    (hk : scope.kind = .function := by rfl) (hlo : (envX name scope L a cd cl).kindOf n = some .local := by rfl) (hgl : (envX name scope L a cd cl).kindOf x = some .globalImplicit := by rfl) (hdb : (x == ("__debug__" : Str)) = false := by decide) :
    wpAny (model PySem.Challenge.rw_no0366_01.row.prog w) (A.deeper (envX name scope L a cd cl)) (noteFrame (.ref e) (envX name scope L a cd cl))
      (fun _ s₂ => wpAny (model PySem.Challenge.rw_no0366_01.row.prog w) (A.deeper (envX name scope L a cd cl)) (setFlight (.ref e) none) (fun _ s₃ =>
        wpAny (model PySem.Challenge.rw_no0366_01.row.prog w) (A.deeper (envX name scope L a cd cl)) (handleBy (.ref e) (envX name scope L a cd cl) (.ExceptHandler (some (.Name x np)) (some n) (b₀ :: suite) pos :: rest)) Q E s₃) E s₂) E s := by
  have K' := K.pushX (env := envX name scope L a cd cl) F rfl hk
  have hb : (hideAll h (frs (envX name scope L a cd cl :: l))).get? e = none := by
    cases q : (hideAll h (frs (envX name scope L a cd cl :: l))).get? e with
    | none => rfl
    | some o => have := of_hideAll _ q; rw [R.new] at this; cases this
  refine note_nextD excP_map K'.fr R.ff rfl R.tr R.stays hb fun h₁ k₁ t₁ => ?_
  refine flightD k₁.1 k₁.2.1 t₁ fun h₂ k₂ t₂ => ?_
  have ka := kept_trans k₁ k₂
  obtain ⟨g₂, T₂, F₂, X₂, P₂⟩ := ground K F rfl ka.1 (R.slots.trans ka.2.2)
  have Lt : Looks (model PySem.Challenge.rw_no0366_01.row.prog w) h₂ (typeOf (.ref e)) (.ref 59) := by
    obtain ⟨oe, vs, _, _, _, he, hpe, _⟩ := t₂
    rw [← hpe.1]
    exact (Looks.ld he).andThen .now
  refine wpAny_handleBy_cons (codeAny_handlers_test (nameX_K F₂ X₂ (topRead_of P₂) hx ((exm_one (X₂.keeps F₂.keep) Lt hm).here ?_) hk hgl hdb)) (by intro q; cases q)
  refine codeAny_handlers_suite_as ?_
  have kp : h₂.StaysIn h₂ := fun _ _ z => z
  generalize hh₅ : h₂ = h₅ at kp
  have t₅ : TrD (ExcP D) h₅ (hideAll h (frs (envX name scope L a cd cl :: l))) e .none := by rw [← hh₅]; exact t₂
  have ka₁ : (hideAll h (frs (envX name scope L a cd cl :: l))).StaysIn h₅ := by rw [← hh₅]; exact ka.1
  have ka₂ : h₅.FunFrames (hideAll h (frs (envX name scope L a cd cl :: l))) (envX name scope L a cd cl :: l) := by rw [← hh₅]; exact ka.2.1
  have ka₃ : s.heap.UpToSlots h₅ := by rw [← hh₅]; exact ka.2.2
  refine flightD ka₁ ka₂ t₅ fun h₆ k₆ t₆ => ?_
  have sm₆ : s.heap.UpToSlots h₆ := ka₃.trans k₆.2.2
  obtain ⟨g₆, T₆, F₆, X₆, P₆⟩ := ground K F rfl k₆.1 (R.slots.trans sm₆)
  obtain ⟨oD, hD, hAt⟩ := atP_slots sm₆ R.dict
  have N₆ := news_ground T₆ N (fun b hb => ⟨_, (K.ff.mem hb).2.choose_spec.1⟩) rfl k₆.1
  obtain ⟨oL, _, _, hoL, _⟩ := id F.ns
  obtain ⟨oe, vs, Tb, oT, ts, he, hpe, hd, _⟩ := t₆
  have N₇ : News g₆ L h₆ ((e, oe) :: (D, oD) :: news) := by
    intro p hp
    rcases List.mem_cons.mp hp with rfl | hp
    · exact ⟨he, (fun q => by have q' : e = L := q; have := R.new; rw [q', hoL] at this; cases this), T₆.none_ _ (Fr.noneBack F R.new)⟩
    · rcases List.mem_cons.mp hp with rfl | hp
      · exact ⟨hD, (fun q => by have q' : D = L := q; have := R.newD; rw [q', hoL] at this; cases this), T₆.none_ _ (Fr.noneBack F R.newD)⟩
      · exact N₆ p hp
  exact storeX_L F₆ N₇ (fun h₇ F₇ N₇ => k h₇ g₆ _ oe oD T₆ F₇ N₇ hpe ⟨vs, hd⟩ hAt X₆ P₆) hk hlo
end

end
section
-- after Q97 Q94
theorem getD_mem {d : List UInt8} {i : Nat} (h : i < d.length) : d.getD i 0 ∈ d := by
  rw [List.getD_eq_getElem?_getD, List.getElem?_eq_getElem h]
  exact List.getElem_mem h
theorem bad_none {d : List UInt8} (h : ∀ c ∈ d, badB c = false) : (rangeInts 0 1 d.length).filter (fun i => badB (d.getD i.toNat 0)) = [] := by
  rw [List.filter_eq_nil_iff]
  intro a ha
  have hr := mem_rangeInts ha
  rw [h _ (getD_mem (by omega))]
  decide
theorem bad_some {d : List UInt8} {i : Nat} (h : d.findIdx? badB = some i) : ∃ rest, (rangeInts 0 1 d.length).filter (fun i => badB (d.getD i.toNat 0)) = (i : Int) :: rest := by
  rw [List.findIdx?_eq_some_iff_getElem] at h
  obtain ⟨hi, hb, hn⟩ := h
  obtain ⟨k, hk⟩ : ∃ k, d.length = i + (k + 1) := ⟨d.length - i - 1, by omega⟩
  unfold rangeInts
  rw [hk, List.range_add, List.range_succ_eq_map]
  simp only [List.map_append, List.map_cons, List.filter_append]
  have e1 : List.filter (fun i => badB (d.getD i.toNat 0)) (List.map (fun i => (0 : Int) + (i : Nat) * 1) (List.range i)) = [] := by
    rw [List.filter_eq_nil_iff]
    intro a ha
    obtain ⟨j, hj, rfl⟩ := List.mem_map.mp ha
    have hj' := List.mem_range.mp hj
    have := hn j hj'
    rw [show (0 + (j : Int) * 1).toNat = j by omega, List.getD_eq_getElem?_getD, List.getElem?_eq_getElem (by omega)]
    exact this
  have e2 : badB (d.getD ((0 : Int) + ((i + 0 : Nat) : Int) * 1).toNat 0) = true := by
    rw [show (0 + ((i + 0 : Nat) : Int) * 1).toNat = i by omega, List.getD_eq_getElem?_getD, List.getElem?_eq_getElem hi]
    exact hb
  rw [e1, List.nil_append, List.filter_cons, if_pos e2]
  exact ⟨_, by congr 1; omega⟩
section
variable {prog : Program} {w : World} {A : Around} {E Q : Value → Shared → Prop} {s : Shared}
theorem held {α : Type} {M : Model} {t : Sem α} {Q : α → Shared → Prop} (h : wpAny M A t (fun a s' => Hold (Q a s')) E s) : wpAny M A t Q E s := h
theorem any_badI {d : List UInt8} {i : Int} (h0 : 0 ≤ i) : (([0, 10, 13] : List Int).any fun x => x == at_ d i) = badB (d.getD i.toNat 0) := by
  obtain ⟨j, rfl⟩ := Int.eq_ofNat_of_zero_le h0
  exact any_bad d j
/-- the test of the comprehension that seeks the bad places -/
theorem bad_test {d : List UInt8} {td t : Tok} {cenv : Env} {c : Addr} {xo xa : Str} {m : Str → Option Value} {i : Int} {p1 p2 p3 p4 p5 p6 p7 p8 : Pos} {k : Nat} (hk : cenv.scope.kind = .function) (hO : cenv.kindOf xo = some .cell) (hA : cenv.kindOf xa = some .local)
    (hc : cenv.cells.lookup xo = some c) (hv : s.heap.IsCell c (some (.bytes d.toArray td))) (hn : s.heap.Ns cenv.locals m) (hm : m xa = some (.int i t)) (h0 : 0 ≤ i) (h1 : i < d.length) (hz : d.length ≤ 100)
    (b1 : (xo == ("__debug__" : Str)) = false) (b2 : (xa == ("__debug__" : Str)) = false) :
    wpAny (model prog w) A (forIn [Expr.Compare (.Subscript (.Name xo p1) (.Name xa p2) p3) [.In] [.Tuple [.Constant (.int 0) 0 p4, .Constant (.int 10) 0 p5, .Constant (.int 13) 0 p6] k p7] p8] true
      fun c r => if r = true then do let ok ← isTrue c cenv (eval c cenv); pure (ForInStep.yield ok) else pure (ForInStep.yield r)) (fun ok s₄ => ok = badB (d.getD i.toNat 0) ∧ Keeps s s₄) E s := by
  rw [List.forIn_cons]
  refine wpAny_bind ?_
  rw [if_pos rfl]
  refine wpAny_bind (wpAny_isTrue_Compare1 ?_)
  refine Subscript_ (wpAny_Name (wpAny_loadName_cell hk hO hc hv ?_) b1)
  refine wpAny_Name (wpAny_loadName_local hk hA hn hm ?_) b2
  refine item_B (by omega) h0 h1 (fun t' k _ _ => ?_)
  refine wpAny_Tuple (wpAny_items_cons (wpAny_Constant_int (wpAny_items_cons (wpAny_Constant_int (wpAny_items_cons (wpAny_Constant_int (wpAny_items_nil ⟨?_, ?_⟩)))))))
  · rw [sizeLine_eq]; exact Nat.le_of_ble_eq_true rfl
  · refine in_tuple_ints ⟨_, Heap.get?_push_size _ rfl, rfl, _, rfl⟩ (by repeat constructor) ?_
    refine wpAny_truthy_bool ?_
    refine wpAny_pure (wpAny_pure ⟨?_, _, _, rfl, fun _ _ e => Heap.get?_push_of_some _ e⟩)
    exact any_badI h0
end
section
open PySem.SeqAt
variable {prog : Program} {w : World} {A : Around} {E : Value → Shared → Prop} {s : Shared}
theorem eq_one_tok {a b la lb : Addr} {k : Str} {o : List UInt8} {i : Int} {t1 t2 t3 u1 u2 u3 : Tok} {Q : Value → Shared → Prop} (hla : s.heap.IsList la #[.ref a]) (hlb : s.heap.IsList lb #[.ref b])
    (ha : IsTup s.heap a #[.str k t1, .bytes o.toArray t2, .int i t3]) (hb : IsTup s.heap b #[.str k u1, .bytes o.toArray u2, .int i u3]) (hne : a ≠ b) (hu : A.units + 60 < cLine) (h : Q (.bool true) s) :
    wpAny (model prog w) A (compareOp .Eq (.ref la) (.ref lb)) Q E s := by
  refine eq_listAt (e := fun _ => true) hla hlb rfl (by omega) (fun j h1 h2 => ?_) h
  have hj : j = 0 := by simp at h1; omega
  subst hj
  refine EqAt.of_refs hne ?_
  have := RcAt.tuples (A := A.in1) (e := fun _ => true) (isTuple_of ha) (isTuple_of hb) (by rw [units_in1]; omega) (fun j h1 h2 => ?_)
  · exact this
  · have hj : j = 0 ∨ j = 1 ∨ j = 2 := by simp at h1; omega
    rcases hj with rfl | rfl | rfl
    · have := (eqGives_str k k t1 u1).at A.in1.in1 s
      rw [show (k == k) = true by simp] at this
      exact this
    · have := eqAt_bytes (A := A.in1.in1) (s := s) o o t2 u2
      rw [show (o == o) = true by simp] at this
      exact this
    · have := EqAt.int_int (A := A.in1.in1) (s := s) i t3 i u3
      rw [show (i == i) = true by simp] at this
      exact this
end
section
local macro_rules | `(tactic| walk_at "call ref") => `(tactic| (refine hold ?_))
local macro_rules | `(tactic| walk_at "eval Name") => `(tactic| ((first | (with_reducible show wpAny _ _ (eval (Expr.Name _ _) (envOfC _ _ _ _ _)) _ _ _) | (with_reducible show wpAny _ _ (eval (Expr.Name _ _) (envX _ _ _ _ _ _)) _ _ _)); k_dflt (first
  | (refine' nameX_L ?F ?v ?_ ?a ?b; (case F => k_asm); (case a => rfl); (case b => rfl); (case v => rfl); k_whole)
  | (refine' nameX_C ?N ?c ?m ?d ?_ ?a ?b; (case a => rfl); (case b => rfl); (case N => k_asm); (case c => rfl); (case m => k_mem); (case d => k_asm); k_whole)
  | (refine' nameX_K ?F ?X ?T ?e ?_ ?a ?b; (case F => k_asm); (case X => k_asm); (case T => k_asm); (case a => rfl); (case b => rfl); (case e => k_is); k_whole)
  | (refine' nameX_B ?F ?X ?T ?e ?v ?n ?_ ?a ?b; (case F => k_asm); (case X => k_asm); (case T => k_asm); (case a => rfl); (case b => rfl); (case e => k_is); (case v => boot_fast); (case n => decide); k_whole))))
local macro_rules | `(tactic| walk_at "exec Try") => `(tactic| (refine hold ?_))
local macro_rules | `(tactic| walk_at "compareOp Eq ref ref") => `(tactic| (refine hold ?_))
local macro_rules | `(tactic| walk_at "compareOp NotEq ref ref") => `(tactic| (refine hold ?_))
local macro_rules | `(tactic| walk_at "callWith ref") => `(tactic| (k_dflt (refine' callWith_K ?kx ?kk ?_; (case kx => k_asm); (case kk => with_reducible assumption); k_whole)))
variable {w : World} {A : Around} {E Q : Value → Shared → Prop} {s : Shared} {mean : ExcName → Option Value} {mg mb : Str → Option Value} {n : Nat} {l : List Env}
theorem law_one_spec {f : Addr} {d out : List UInt8} {kd : Str} {td tk : Tok} (hf : ShowOk w f d out) (hkp : keepIn (top0.heap_39 w.params) (.ref f) = true) (O : Ok w A s.heap mean mg mb n) (K : Stk w A l s.heap mean mg mb) (hn : 11 ≤ n) (hd : d.length ≤ 100) (ho : out.length ≤ 1000)
    (hgood : (isAtom d = true ∨ ∀ c ∈ d, badB c = false) → Reads out kd d ∧ ∀ c ∈ d, badB c = false)
    (hret : ∀ h' tk' g', KtsTurn (frs l) s.heap g' → g'.StaysIn h' → Q (.bool true) { s with heap := h', toks := tk' }) :
    wpAny (model PySem.Challenge.rw_no0366_01.row.prog w) A (call (.ref 203) [.ref f, .bytes d.toArray td, .str kd tk]) Q E s := by
  walk_at "mine fill"
  refine' enterX [(Str.ofString "show", .ref f), (Str.ofString "octets", .bytes d.toArray td), (Str.ofString "kind", .str kd tk)] O ?kn ?k3 ?k4 ?k6 ?k7 ?k8 ?c1 ?c2 ?c3 ?_
  case kn => omega
  case k3 => k_is
  case k4 => k_is
  case k6 => exact rfl
  case k7 => exact rfl
  case k8 => decide +kernel
  case c1 => exact rfl
  case c2 => exact rfl
  case c3 => exact rfl
  k_whole
  intro L₁ h₁ tk₁ cells F₀ N₁ Y₁ X₁ T₁ hh₁
  have hY := CellsAre.one Y₁
  obtain ⟨oc, hE, d0⟩ := hY
  subst hE
  have d1 : oc.data = .cell (some (.bytes d.toArray td)) := d0
  have F₁ : Fr s.heap L₁ h₁ (fun y => if y = Str.ofString "kind" then some (.str kd tk) else if y = Str.ofString "show" then some (.ref f) else none) := F₀
  clear F₀ d0 Y₁
  (try dsimp only)
  (try k_fold)
  k_steps
  refine Assign_ListComp_DCr (h₀ := s.heap) (L := L₁) (m := fun y => if y = Str.ofString "kind" then some (.str kd tk) else if y = Str.ofString "show" then some (.ref f) else none) (pz := fun i => badB (d.getD i.toNat 0)) (d := PyData.int) (cl := [(Str.ofString "octets", L₁ + 1)]) (by rfl) rfl hh₁ (by rfl) (by decide) rfl (by decide) rfl rfl rfl ?_ (by intro _; rfl)
  refine held ?_
  k_steps
  rename Fr _ _ _ _ => F
  rename News _ _ _ _ => N
  rename IsRange _ _ _ _ _ _ _ _ => rg
  refine ⟨[(L₁ + 1, oc)], _, 0, (d.length : Int), 1, _, _, _, d.length, rfl, rg, small_nat (by omega), rangeSize_nat _ _, by rw [sizeLine_eq]; omega, F, N, ?_, ?_, ?_⟩
  · intro C a v s₂ m₂ E' hC ha hv hns hm hk
    obtain ⟨t, rfl⟩ : ∃ t, v = .int a t := hv
    have hr := mem_rangeInts ha
    exact bad_test rfl rfl rfl rfl ⟨oc, hk _ _ (N _ (.head _)).1, d1⟩ hns hm hr.1 (by omega) hd (by decide) (by decide)
  · intro C a v s₂ m₂ E' hC ha hv hb hns hm hk
    obtain ⟨t, rfl⟩ : ∃ t, v = .int a t := hv
    refine wpAny_Name (wpAny_loadName_local rfl rfl hns hm ?_) (by decide)
    exact ⟨.int _ _, _, _, rfl, fun _ _ e => e⟩
  · intro D ys h' tk' F' N' hD hlD hpl hC
    have hi : IntsAre ys ((rangeInts 0 1 d.length).filter fun i => badB (d.getD i.toNat 0)) := IntsAre.ofCarried hC
    obtain ⟨⟨kD, hkD⟩, hneD⟩ := hpl
    have hDL : D ≠ L₁ := fun q => by
      obtain ⟨oL, es, ep, hL, hLd, _⟩ := F'.ns
      rw [← q, hkD] at hL
      cases hL
      cases hLd
    have N₂ : News s.heap L₁ h' [(D, PySem.W.listOf ys.toArray kD), (L₁ + 1, oc)] := by
      intro p hp
      rcases List.mem_cons.mp hp with rfl | hp
      · exact ⟨hkD, hDL, hD⟩
      · exact N' p hp
    have hneC : @Ne Nat (L₁ + 1) D := hneD _ (.head _)
    clear F N rg N' hC hlD hkD hneD
    k_steps
    refine wpAny_Try_except ?_
    k_steps
    rename Fr _ _ _ _ => F
    rename News _ _ _ _ => N
    refine' hf _ _ _ _ mean mg mb 10 _ td ?o ?k ?n1 ?n2 ?r ?e
    case o => exact Ok.callee (k := 10) O F (by omega)
    case k =>
      refine Stk.pushX K F ?_ ?_
      · rfl
      · rfl
    case n1 => omega
    case n2 => omega
    case r =>
      intro r h₃ tk₃ st hg out
      obtain ⟨t₃, rfl⟩ := out
      have F₃ := frStay F st
      have N₃ := newsStay N st
      clear F N st
      obtain ⟨hread, hnb⟩ := hgood hg
      rw [bad_none hnb] at hi
      cases hi
      dsimp only
      k_steps
      rename Fr _ _ _ _ => F
      rename News _ _ _ _ => N
      refine eq_intsK (ns := []) (ms := []) (N.isList (.tail _ (.head _))) .nil (N.isList (.head _)) .nil (by have := O.hu; show A.units + 3 + 64 < _; omega) ?_
      rw [show decide (([] : List Int) = []) = true from rfl]
      k_steps
      rename Fr _ _ _ _ => F
      rename News _ _ _ _ => N
      refine' tokens_of_spec (Ok.callee (k := 5) O F (by omega)) (by omega) ho (Int.le_refl 0) hread.1 hread.2 ?_
      intro r h₄ tk₄ st₄ out
      obtain ⟨P, q, k, rfl, hqk, hqP, hled⟩ := out
      obtain ⟨⟨pa, pk, u1, u2, u3⟩, rfl⟩ : ∃ p, q = [p] := by
        cases q with
        | nil => cases hqk
        | cons p q =>
          cases q with
          | nil => exact ⟨p, rfl⟩
          | cons p' q =>
            have := congrArg List.length hqk
            simp at this
      have hpk : pk = ⟨kd, d, 0⟩ := (List.cons.inj hqk).1
      subst hpk
      have N₄ : News s.heap L₁ h₄ [(P, PySem.W.listOf #[.ref pa] k), (pa, tkO ⟨kd, d, 0⟩ u1 u2 u3), (L₁ + 1, oc)] := by
        have N₅ := newsApp F (newsStay N st₄) hled
        intro p hp
        rcases List.mem_cons.mp hp with rfl | hp
        · exact N₅ _ (.head _)
        · rcases List.mem_cons.mp hp with rfl | hp
          · exact N₅ _ (.tail _ (.head _))
          · exact N₅ _ (.tail _ (.tail _ (.tail _ (.tail _ hp))))
      have F₄ := frStay F st₄
      have neP : @Ne Nat pa P := hqP (pa, tkO ⟨kd, d, 0⟩ u1 u2 u3) (.head _)
      clear F N st₄ hqk hqP hled
      dsimp only
      k_steps
      rename Fr _ _ _ _ => F
      rename News _ _ _ _ => N
      refine eq_one_tok (N.isList (.tail _ (.tail _ (.head _)))) (N.isList (.head _)) (N.isTup (.tail _ (.tail _ (.tail _ (.head _))))) (N.isTup (.tail _ (.head _))) ?_ (by have := O.hu; show A.units + 3 + 60 < _; omega) ?_
      · refine Nat.ne_of_lt ?_; omega
      exact hret _ _ _ KtsTurn.refl F.keep
    case e =>
      intro e D' i h₃ tk₃ Th hb
      obtain ⟨rest, hb'⟩ := bad_some hb
      rw [hb'] at hi
      cases hi with
      | cons x t hi =>
        dsimp only
        refine caught_X K F N Th rfl rfl fun h₅ g' tk₅ o oD TT F₅ N₅ hP hvs hAt X₅ T₅ => ?_
        clear F N Th
        k_steps
        rename Fr _ _ _ _ => F
        rename News _ _ _ _ => N
        refine ne_intsK (ns := (i : Int) :: rest) (ms := []) (N.isList (.tail _ (.tail _ (.tail _ (.head _))))) (.cons _ _ hi) (N.isList (.head _)) .nil (by have := O.hu; show A.units + 3 + 64 < _; omega) ?_
        rw [show (!decide ((i : Int) :: rest = [])) = true from by simp]
        k_steps
        rename Fr _ _ _ _ => F
        rename News _ _ _ _ => N
        refine get_fault (X₅.keeps F.keep) (N _ (.tail _ (.head _))).1 hP hvs (N _ (.tail _ (.tail _ (.head _)))).1 hAt fun t₉ tk₉ => ?_
        dsimp only
        k_steps
        rename Fr _ _ _ _ => F
        refine wpAny_nameGoes_keeps rfl F.ns (by rfl) fun h' v hn hs => ?_
        show Q (.bool ((i : Int) == (i : Int))) _
        rw [show ((i : Int) == (i : Int)) = true from by simp]
        exact hret _ _ g' TT (F.set hn hs).keep
end

end
section
-- after Q98
section
variable {w : World} {A : Around} {E : Value → Shared → Prop} {s : Shared} {h₀ g : Heap} {L P : Addr} {m : Str → Option Value} {news : List (Addr × Obj)} {mean : ExcName → Option Value} {mg mb : Str → Option Value} {n k : Nat} {env : Env} {Q : Value → Shared → Prop}
theorem up_of {fs : List Addr} {h g' h' : Heap} (T : KtsTurn fs h g') (k : g'.StaysIn h') : h.UpToSlots h' := fun b o e _ => by
  obtain ⟨sl, hs⟩ := T.up e
  exact ⟨sl, k _ _ hs⟩
/-- behind a call that caught within: the frame below all -/
theorem back0 {h g' h' : Heap} (F : Fr g L h m) (N : News g L h news) (T : KtsTurn [L] h g') (k : g'.StaysIn h') : Fr g L h' m ∧ News g L h' news := by
  refine ⟨⟨(up_of T k).ns F.ns, fun b o e => k _ _ (T.other b o (F.keep b o e) fun q => ?_), F.above⟩, fun p hp => ⟨k _ _ (T.other _ _ (N p hp).1 fun q => (N p hp).2.1 (List.mem_singleton.mp q)), (N p hp).2⟩⟩
  rw [List.mem_singleton.mp q] at e
  exact absurd (Nat.lt_of_lt_of_le (Heap.lt_size e) F.above) (Nat.lt_irrefl _)
theorem pieces_K {vs : List Value} {ns : List Int} {c : Nat} {g : Obj → List (Addr × Obj)} (O : Ok w A h₀ mean mg mb n) (hn : 4 ≤ n) (F : Fr h₀ L s.heap m) (N : News h₀ L s.heap news) (U : UpdF P (PySem.W.listOf vs.toArray c) news g)
    (hi : IntsAre vs ns) (hl : ns.length ≤ 63)
    (h : ∀ ps t h' tk' vs' ns' c', Fr h₀ L h' m → News h₀ L h' (g (PySem.W.listOf vs'.toArray c')) → IntsAre vs' ns' → ns'.length ≤ 63 → (∀ b ∈ ps, b ∈ menu) → ps.length ≤ 16 → Q (.bytes (ps : List (List UInt8)).flatten.toArray t) { s with heap := h', toks := tk' }) :
    wpAny (model PySem.Challenge.rw_no0366_01.row.prog w) (A.deeper env) (call (.ref 186) [.ref P]) Q E s := by
  have hP : PoolAt s.heap P := by
    obtain ⟨pre, post, rfl, hg, a, b⟩ := U.split
    exact ⟨vs, ns, c, (N (P, _) (List.mem_append.mpr (.inr (.head _)))).1, hi, hl⟩
  refine law_pieces_spec (O.pool (k := 3) F N U (by omega)) (Nat.le_refl _) hP fun r h' tk' ps st hP' hm hz out => ?_
  obtain ⟨t, rfl⟩ := out
  obtain ⟨vs', ns', c', hp', hi', hl'⟩ := hP'
  obtain ⟨F', N'⟩ := pool_back F N U st hp'
  exact h ps t h' tk' vs' ns' c' F' N' hi' hl' hm hz
theorem right_K {name : Str} {scope : Scope} {a : Addr} {cd : Value} {ps : List (List UInt8)} {td : Tok} (O : Ok w A h₀ mean mg mb n) (K : Stk w A [] h₀ mean mg mb) (hn : 10 ≤ n) (F : Fr h₀ L s.heap m) (N : News h₀ L s.heap news)
    (hp : ∀ b ∈ ps, b ∈ menu) (hl : ps.length ≤ 16) (hk : scope.kind = .function)
    (h : ∀ h' tk', Fr h₀ L h' m → News h₀ L h' news → Q (.bool true) { s with heap := h', toks := tk' }) :
    wpAny (model PySem.Challenge.rw_no0366_01.row.prog w) (A.deeper (envOf name scope L a cd)) (call (.ref 198) [.bytes ps.flatten.toArray td]) Q E s := by
  obtain ⟨i, ks, hw, h0, ht, hz, h1, h2, hs⟩ := pieces_read hp hl
  refine law_right_spec (O.callee (k := 9) F (by omega)) (K.push F hk) (by omega) (by omega) h0 hw ht (by omega) (by omega) hs fun h' tk' g' T k => ?_
  obtain ⟨F', N'⟩ := back0 F N T k
  exact h h' tk' F' N'
theorem one_K {name : Str} {scope : Scope} {a f : Addr} {cd : Value} {d out : List UInt8} {kd : Str} {td tk : Tok} (hf : ShowOk w f d out) (hkp : keepIn (top0.heap_39 w.params) (.ref f) = true) (O : Ok w A h₀ mean mg mb n) (K : Stk w A [] h₀ mean mg mb) (hn : 12 ≤ n) (F : Fr h₀ L s.heap m) (N : News h₀ L s.heap news)
    (hd : d.length ≤ 100) (ho : out.length ≤ 1000) (hgood : (isAtom d = true ∨ ∀ c ∈ d, badB c = false) → Reads out kd d ∧ ∀ c ∈ d, badB c = false) (hk : scope.kind = .function)
    (h : ∀ h' tk', Fr h₀ L h' m → News h₀ L h' news → Q (.bool true) { s with heap := h', toks := tk' }) :
    wpAny (model PySem.Challenge.rw_no0366_01.row.prog w) (A.deeper (envOf name scope L a cd)) (call (.ref 203) [.ref f, .bytes d.toArray td, .str kd tk]) Q E s := by
  refine law_one_spec hf hkp (O.callee (k := 11) F (by omega)) (K.push F hk) (by omega) hd ho hgood fun h' tk' g' T k => ?_
  obtain ⟨F', N'⟩ := back0 F N T k
  exact h h' tk' F' N'
end
section
variable {o : List UInt8}
theorem good_or (h : isAtom o = true ∨ ∀ c ∈ o, badB c = false) : ∀ c ∈ o, badB c = false := h.elim atom_good id
theorem good_quoted (h : isAtom o = true ∨ ∀ c ∈ o, badB c = false) : Reads (quoted o) "quoted" o ∧ ∀ c ∈ o, badB c = false := ⟨read_quoted (good_or h), good_or h⟩
theorem good_literal (h : isAtom o = true ∨ ∀ c ∈ o, badB c = false) : Reads (literal o) "literal" o ∧ ∀ c ∈ o, badB c = false := ⟨read_literal (good_or h), good_or h⟩
theorem good_comment (h : isAtom o = true ∨ ∀ c ∈ o, badB c = false) : Reads (comment o) "comment" o ∧ ∀ c ∈ o, badB c = false := ⟨read_comment (good_or h), good_or h⟩
theorem quoted_len : (quoted o).length ≤ 2 * o.length + 2 := by
  have := esc_len [34, 92] o
  unfold quoted
  simp only [List.length_append, List.length_cons, List.length_nil]; omega
theorem literal_len : (literal o).length ≤ 2 * o.length + 2 := by
  have := esc_len [91, 93, 92] o
  unfold literal
  simp only [List.length_append, List.length_cons, List.length_nil]; omega
theorem comment_len : (comment o).length ≤ 2 * o.length + 2 := by
  have := esc_len [40, 41, 92] o
  unfold comment
  simp only [List.length_append, List.length_cons, List.length_nil]; omega
theorem kept_fns (w : World) : keepIn (top0.heap_39 w.params) (.ref 165) = true ∧ keepIn (top0.heap_39 w.params) (.ref 151) = true ∧ keepIn (top0.heap_39 w.params) (.ref 210) = true ∧ keepIn (top0.heap_39 w.params) (.ref 217) = true := ⟨rfl, rfl, rfl, rfl⟩
end
def octs (ns : List Int) : List UInt8 := ns.map fun n => n.toNat.toUInt8
def codeBad (c : Int) : Bool := decide (c < 33) || c == 127 || ([40, 41, 60, 62, 91, 93, 58, 59, 64, 92, 44, 46, 34] : List UInt8).contains c.toNat.toUInt8
theorem code_plain {c : Int} (h0 : 0 ≤ c) (h1 : c < 256) : codeBad c = !atomB c.toNat.toUInt8 := by
  rw [← plain_atom]
  unfold plainB codeBad
  rw [byte_back h0 h1, Bool.not_not]
theorem plain_is {ns : List Int} (h : ∀ c ∈ ns, 0 ≤ c ∧ c < 256) : (decide (0 < (octs ns).length) && decide ((ns.filter codeBad).length = 0)) = isAtom (octs ns) := by
  unfold isAtom
  congr 1
  rw [Bool.eq_iff_iff, decide_eq_true_eq, List.length_eq_zero_iff, List.filter_eq_nil_iff, List.all_eq_true]
  unfold octs
  constructor
  · intro q x hx
    obtain ⟨c, hc, rfl⟩ := List.mem_map.mp hx
    have := q c hc
    rw [code_plain (h c hc).1 (h c hc).2] at this
    simpa using this
  · intro q c hc
    rw [code_plain (h c hc).1 (h c hc).2, q _ (List.mem_map.mpr ⟨c, hc, rfl⟩)]
    decide
section
variable {prog : Program} {w : World} {A : Around} {E : Value → Shared → Prop} {s : Shared}
/-- the test of the comprehension that seeks what bars an atom -/
theorem code_test {t : Tok} {cenv : Env} {xa : Str} {m : Str → Option Value} {c : Int} {p1 p2 p3 p4 p5 p6 p7 p8 p9 p10 : Pos} (hk : cenv.scope.kind = .function) (hA : cenv.kindOf xa = some .local)
    (hn : s.heap.Ns cenv.locals m) (hm : m xa = some (.int c t)) (h0 : 0 ≤ c) (h1 : c < 256) (b2 : (xa == ("__debug__" : Str)) = false) :
    wpAny (model prog w) A (forIn [Expr.BoolOp .Or [.Compare (.Name xa p1) [.Lt] [.Constant (.int 33) 0 p2] p3, .Compare (.Name xa p4) [.Eq] [.Constant (.int 127) 0 p5] p6,
        .Compare (.Name xa p7) [.In] [.Constant (.bytes [40, 41, 60, 62, 91, 93, 58, 59, 64, 92, 44, 46, 34]) 0 p8] p9] p10] true
      fun c r => if r = true then do let ok ← isTrue c cenv (eval c cenv); pure (ForInStep.yield ok) else pure (ForInStep.yield r)) (fun ok s₄ => ok = codeBad c ∧ Keeps s s₄) E s := by
  have nm : ∀ (p : Pos) (s' : Shared) (Q' : Value → Shared → Prop), s'.heap = s.heap → Q' (.int c t) s' → wpAny (model prog w) A (eval (.Name xa p) cenv) Q' E s' := fun p s' Q' e hq => wpAny_Name (wpAny_loadName_local hk hA (by rw [e]; exact hn) hm hq) b2
  rw [List.forIn_cons]
  refine wpAny_bind ?_
  rw [if_pos rfl]
  refine wpAny_bind (isTrue_or (wpAny_isTrue_Compare1 (nm _ _ _ rfl (wpAny_Constant_int (lt_int (wpAny_truthy_bool ?_))))))
  cases e1 : decide (c < 33) with
  | true =>
    rw [if_pos rfl]
    exact wpAny_pure (wpAny_pure ⟨by unfold codeBad; rw [e1]; rfl, _, _, rfl, fun _ _ e => e⟩)
  | false =>
    rw [if_neg (by decide)]
    refine isTrue_or (wpAny_isTrue_Compare1 (nm _ _ _ rfl (wpAny_Constant_int (eq_int (wpAny_truthy_bool ?_)))))
    cases e2 : (c == 127) with
    | true =>
      rw [if_pos rfl]
      exact wpAny_pure (wpAny_pure ⟨by unfold codeBad; rw [e1, e2]; rfl, _, _, rfl, fun _ _ e => e⟩)
    | false =>
      rw [if_neg (by decide)]
      refine isTrue_or (wpAny_isTrue_Compare1 (nm _ _ _ rfl (PySem.W.Constant_bytes (in_int_B h0 h1 (wpAny_truthy_bool ?_)))))
      cases e3 : ([40, 41, 60, 62, 91, 93, 58, 59, 64, 92, 44, 46, 34] : List UInt8).contains c.toNat.toUInt8 with
      | true =>
        rw [if_pos rfl]
        exact wpAny_pure (wpAny_pure ⟨by unfold codeBad; rw [e1, e2, e3]; rfl, _, _, rfl, fun _ _ e => e⟩)
      | false =>
        rw [if_neg (by decide)]
        refine isTrue_or_nil ?_
        exact wpAny_pure (wpAny_pure ⟨by unfold codeBad; rw [e1, e2, e3]; rfl, _, _, rfl, fun _ _ e => e⟩)
def codeV : Value → Bool
  | .int c _ => codeBad c
  | _ => false
theorem codes_filter : ∀ {vs : List Value} {cs : List Int}, IntsAre vs cs → (vs.filter codeV).length = (cs.filter codeBad).length
  | _, _, .nil => rfl
  | _, _, .cons c t h => by
    have ih := codes_filter h
    rw [List.filter_cons, List.filter_cons]
    show (if codeBad c = true then _ else _ : List Value).length = _
    split
    · rw [List.length_cons, List.length_cons, ih]
    · exact ih
theorem ints_get : ∀ {vs : List Value} {cs : List Int}, IntsAre vs cs → ∀ (i : Nat) (v : Value), vs[i]? = some v → ∃ c t, v = .int c t ∧ c ∈ cs
  | _, _, .nil, _, _, e => by simp at e
  | _, _, .cons c t h, 0, v, e => ⟨c, t, by simpa using e.symm, .head _⟩
  | _, _, .cons c t h, i + 1, v, e => by
    obtain ⟨c', t', e', hm⟩ := ints_get h i v (by simpa using e)
    exact ⟨c', t', e', .tail _ hm⟩
theorem comp_codes {h₀ : Heap} {L P : Addr} {m : Str → Option Value} {vB : List Value} {c : Nat} {cs : List Int} {env : Env} {xa : Str} {p0 p1 p2 p3 p4 p5 p6 p7 p8 p9 p10 px pos : Pos} {scope : Scope} {iter : Expr} {Q : Value → Shared → Prop}
    (F : Fr h₀ L s.heap m) (N : News h₀ L s.heap [(P, PySem.W.listOf vB.toArray c)]) (hB : IntsAre vB cs) (hcs : ∀ c ∈ cs, 0 ≤ c ∧ c < 256) (hz : vB.length ≤ 100) (hh : A.handled = none)
    (hfree : ∀ y ∈ scope.names, y.2 ≠ .free) (hcell : ∀ y ∈ scope.names, y.2 ≠ .cell) (hkind : scope.kind = .function) (hnames : ∀ y ∈ scope.names, y.2 = .local → scope.names.lookup y.1 = some .local) (hx : scope.names.lookup xa = some .local) (b2 : (xa == ("__debug__" : Str)) = false)
    (hs : ∀ x, foldedSetIterable iter env x = pure x)
    (hit : ∀ Q' : Value → Shared → Prop, Q' (.ref P) s → wpAny (model prog w) A (eval iter env) Q' E s)
    (h : ∀ D h' tk' ys k, Fr h₀ L h' m → News h₀ L h' [(D, PySem.W.listOf (ys : List Value).toArray k)] → ys.length = (cs.filter codeBad).length → Q (.ref D) { s with heap := h', toks := tk' }) :
    wpAny (model prog w) A (eval (.ListComp (.Name xa p0) [⟨.Name xa px, iter, [Expr.BoolOp .Or [.Compare (.Name xa p1) [.Lt] [.Constant (.int 33) 0 p2] p3, .Compare (.Name xa p4) [.Eq] [.Constant (.int 127) 0 p5] p6,
        .Compare (.Name xa p7) [.In] [.Constant (.bytes [40, 41, 60, 62, 91, 93, 58, 59, 64, 92, 44, 46, 34]) 0 p8] p9] p10], 0⟩] scope pos) env) Q E s := by
  refine wpAny_ListComp_walk codeV (fun v y => v = y) hfree hcell hkind hnames hx ?_ hs
  refine hit _ ?_
  have hlP := (N _ (.head _)).1
  have hl : s.heap.IsList P vB.toArray := ⟨_, hlP, rfl, _, rfl⟩
  refine wpAny_pyIter_list hl ?_
  have hlt : P < s.heap.objs.size := Heap.lt_size hlP
  have hne : P ≠ s.heap.objs.size := Nat.ne_of_lt hlt
  refine ⟨_, _, _, _, _, _, rfl, Walks.list hh s.heap.objs.size P hne vB.toArray, ?_, ⟨⟨_, Heap.get?_push_size _ rfl, rfl, rfl⟩, ⟨_, Heap.get?_push_of_some _ hlP, rfl, _, rfl⟩⟩, ?_, ?_, ?_⟩
  · rw [sizeLine_eq, List.size_toArray]; omega
  · intro b hb
    show b < (s.heap.push _).objs.size
    rw [Heap.size_push]
    rcases List.mem_cons.mp hb with rfl | hb
    · exact Nat.lt_succ_self _
    · rw [List.mem_singleton.mp hb]; exact Nat.lt_succ_of_lt hlt
  · constructor
    · intro C i v s₃ m₃ E' hv hn hm hst htk
      obtain ⟨c, t, rfl, hc⟩ := ints_get hB i v (by simpa using hv)
      exact code_test hkind hx hn hm (hcs c hc).1 (hcs c hc).2 b2
    · intro C i v s₃ m₃ E' hv hp hn hm hst htk
      exact wpAny_Name (wpAny_loadName_local hkind hx hn hm ⟨rfl, _, _, rfl, fun _ _ e => e⟩) b2
  · intro D h' tk' ys vs hD hlD hpl hlen hP' hF hk
    have hvs : vs = vB := by
      apply List.ext_getElem?
      intro i
      by_cases hi : i < vs.length
      · have := hP' i _ (List.getElem?_eq_getElem hi)
        rw [List.getElem?_eq_getElem hi]
        simpa using this.symm
      · rw [List.getElem?_eq_none (by omega), List.getElem?_eq_none (by rw [hlen] at hi; simpa using hi)]
    have e1 := paired_eq (fun a b (e : a = b) => e.symm) hF
    rw [hvs] at e1
    obtain ⟨k', hk'⟩ := hpl
    have st : ∀ b o, s.heap.get? b = some o → h'.get? b = some o := fun b o e => hk b o (fun hb => by rw [List.mem_singleton.mp hb] at e; exact absurd (Heap.lt_size e) (Nat.lt_irrefl _)) (Heap.get?_push_of_some _ e)
    have hD0 : s.heap.get? D = none := by
      cases e : s.heap.get? D with
      | none => rfl
      | some o =>
        have := Heap.get?_push_of_some { cls := .type "list_iterator", data := .fields #[.ref P, .int 0 0] } e
        rw [this] at hD; cases hD
    have F' := frStay F st
    refine h D h' tk' ys.toList k' F' ?_ ?_
    · refine newsAdd F (News.nil) hD0 ?_
      rw [hk']
    · rw [e1, codes_filter hB]
end

end
section
-- after Q9a
theorem ok_caller {w : World} {h : Heap} {mean : ExcName → Option Value} {mg mb : Str → Option Value} (X : (top0.heap_39 w.params).In h) (T : Top topView (looseW topView [Str.ofString "PostError"]) mean mg mb h) : Ok w callerA h mean mg mb 20 :=
  ⟨X, T, rfl, by decide, by decide⟩
theorem stk_caller {w : World} {h : Heap} {mean : ExcName → Option Value} {mg mb : Str → Option Value} (X : (top0.heap_39 w.params).In h) (T : Top topView (looseW topView [Str.ofString "PostError"]) mean mg mb h) : Stk w callerA [] h mean mg mb :=
  ⟨rfl, trivial, X, T⟩
theorem named2 {h₀ h : Heap} {L B P : Addr} {o o' : Obj} {rest : List (Addr × Obj)} {C : Prop} (_N : News h₀ L h ((P, o) :: (B, o') :: rest)) (f : ∀ B' P', B' = B → P' = P → C) : C := f B P rfl rfl
theorem news_one {h₀ h : Heap} {L P : Addr} {o : Obj} {rest : List (Addr × Obj)} (N : News h₀ L h ((P, o) :: rest)) : News h₀ L h [(P, o)] := fun p hp => by
  rw [List.mem_singleton.mp hp]
  exact N _ (.head _)
theorem bytes_o {prog : Program} {w : World} {A : Around} {E : Value → Shared → Prop} {s : Shared} {h₀ : Heap} {L l : Addr} {m : Str → Option Value} {news : List (Addr × Obj)} {vs : List Value} {ns : List Int} {Q : Value → Shared → Prop} (F : Fr h₀ L s.heap m) (N : News h₀ L s.heap news) (hl : s.heap.IsList l vs.toArray) (hi : IntsAre vs ns) (hr : ∀ n ∈ ns, 0 ≤ n ∧ n < 256) (hz : vs.length ≤ sizeLine) (hh : A.handled = none)
    (h : ∀ h' t k, Fr h₀ L h' m → News h₀ L h' news → Q (.bytes (octs ns).toArray t) { s with heap := h', toks := k }) : wpAny (model prog w) A (call (.type "bytes") [.ref l]) Q E s :=
  bytes_K F N hl hi hr hz hh fun h' t k F N _ => h h' t k F N
theorem step_to {α : Type} {M : Model} {A : Around} {E : Value → Shared → Prop} {s : Shared} {h₀ : Heap} {L : Addr} {m : Str → Option Value} {news : List (Addr × Obj)} {e : Sem α} {Q : α → Shared → Prop} (R : α → Prop) (_F : Fr h₀ L s.heap m) (_N : News h₀ L s.heap news)
    (h : wpAny M A e (fun v s' => Hold (∃ h' tk', s' = { s with heap := h', toks := tk' } ∧ Fr h₀ L h' m ∧ News h₀ L h' news ∧ R v)) E s) (k : ∀ v h' tk', Fr h₀ L h' m → News h₀ L h' news → R v → Q v { s with heap := h', toks := tk' }) : wpAny M A e Q E s :=
  wpAny_mono h (fun v s' ⟨h', tk', e, F, N, r⟩ => by rw [e]; exact k v h' tk' F N r) fun _ _ x => x
theorem no_bad {o : List UInt8} {i : Nat} (h : ∀ c ∈ o, badB c = false) : ¬ o.findIdx? badB = some i := fun q => by
  rw [List.findIdx?_eq_some_iff_getElem] at q
  obtain ⟨hi, hb, _⟩ := q
  rw [h _ (List.getElem_mem hi)] at hb
  cases hb
theorem newsNil {h₀ h : Heap} {L : Addr} {m : Str → Option Value} (_F : Fr h₀ L h m) : News h₀ L h [] := News.nil
theorem held0 {P : Prop} (h : P) : Hold P := h
theorem pool_only {h₀ h : Heap} {L P : Addr} {ys : List Value} {rest : List (Addr × Obj)} (N : News h₀ L h ((P, LCg.lst ys) :: rest)) : News h₀ L h [(P, PySem.W.listOf ys.toArray ys.length)] := fun p hp => by
  rw [List.mem_singleton.mp hp]
  exact N _ (.head _)
section
local macro_rules | `(tactic| walk_at "exec If BoolOp") => `(tactic| (refine hold ?_))
local macro_rules | `(tactic| walk_at "call builtin:len") => `(tactic| ((with_reducible show wpAny _ _ (call (Value.builtin "len") [Value.ref _]) _ _ _); refine hold ?_))
local macro_rules | `(tactic| walk_at "call ref") => `(tactic| ((with_reducible show wpAny _ _ (call (Value.ref 165) _) _ _ _); refine hold ?_))
local macro_rules | `(tactic| walk_at "call ref") => `(tactic| ((with_reducible show wpAny _ _ (call (Value.ref 172) _) _ _ _); refine hold ?_))
local macro_rules | `(tactic| walk_at "exec Assign cons BoolOp") => `(tactic| (refine hold ?_))
local macro_rules | `(tactic| walk_at "eval ListComp") => `(tactic| (refine hold ?_))
local macro_rules | `(tactic| walk_at "execs cons Assign cons") => `(tactic| ((with_reducible refine wpAny_execs_cons ?_); (try dsimp only)))
local macro_rules | `(tactic| walk_at "call ref") => `(tactic| ((with_reducible show wpAny _ _ (call (Value.ref 179) _) _ _ _); refine hold ?_))
local macro_rules | `(tactic| walk_at "call ref") => `(tactic| ((with_reducible show wpAny _ _ (call (Value.ref 186) _) _ _ _); refine hold ?_))
local macro_rules | `(tactic| walk_at "call ref") => `(tactic| ((with_reducible show wpAny _ _ (call (Value.ref 198) _) _ _ _); refine hold ?_))
local macro_rules | `(tactic| walk_at "call ref") => `(tactic| ((with_reducible show wpAny _ _ (call (Value.ref 203) _) _ _ _); refine hold ?_))
local macro_rules | `(tactic| walk_at "call type:bytes") => `(tactic| (refine hold ?_))
inductive InvO (P B : Addr) (i : Nat) (m : Str → Option Value) (nx : List (Addr × Obj)) : Prop
  | mk (vB : List Value) (c : Nat) (cs : List Int) (vs : List Value) (ns : List Int) (c' : Nat) : nx = [(P, PySem.W.listOf vB.toArray c), (B, PySem.W.listOf vs.toArray c')] → IntsAre vs ns → ns.length ≤ 63 → IntsAre vB cs → (∀ c ∈ cs, 0 ≤ c ∧ c < 256) → vB.length = i → cs.length = i →
      m (Str.ofString "codes") = some (.ref P) → m (Str.ofString "pool") = some (.ref B) → InvO P B i m nx
theorem law_holds : PySem.Challenge.rw_no0366_01.Holds := top0 (by
  k_go0
  (all_goals (try k_unmd))
  k_fold
  k_steps
  rename World => w
  rename Frag.In _ _ => KX
  rename Top _ _ _ _ _ _ => T
  have O := ok_caller KX T
  have K := stk_caller KX T
  rename Fr _ _ _ _ => F
  rename News _ _ _ _ => N
  rename IntsAre _ _ => hi
  obtain ⟨ns, hi, hl⟩ : ∃ ns, IntsAre ys ns ∧ ns.length ≤ 63 := ⟨_, hi, by simp only [List.length_map, List.length_take]; omega⟩
  have N := pool_only N
  rename Below _ _ _ _ => K0
  have HK0 := held0 K0
  clear K0
  refine' pieces_K O ?n F N ?U hi hl ?_
  case n => omega
  case U => k_updF
  clear F N hi hl
  intro ps t h' tk' vs ns c F N hi hl hm hz
  dsimp only at N ⊢
  k_steps
  refine right_K O K (by omega) F N hm hz rfl fun h' tk' F N => ?_
  clear hm hz
  dsimp only
  k_steps
  refine wpAny_For ?_
  k_steps
  walk_at "mine take"
  k_steps
  rename Fr _ _ _ _ => F
  rename News _ _ _ _ => N
  rename IsRange _ _ _ _ _ _ _ _ => rg
  rename IntsAre _ _ => hi
  rename (_ : Int) < 9 => hx9
  rename 0 ≤ (_ : Int) => hx0
  rename List.length _ ≤ 63 => hl
  refine named2 N fun B P e1 e2 => ?_
  subst e1 e2
  rename B < P => hlt
  rename Int => x9
  obtain ⟨nn, rfl⟩ := Int.eq_ofNat_of_zero_le hx0
  refine For_rangeB (n := nn) (InvO P B) ?_ rg ?_ F N ?_ ?_ ?_ ?_
  · rfl
  · exact small_nat (by omega)
  · exact ⟨[], _, [], _, _, _, rfl, hi, hl, .nil, (by intro c hc; cases hc), rfl, rfl, rfl, rfl⟩
  · rintro i t m₁ news₁ h₁ tk₁ It o hi' F' N' hn' ⟨vB, c, cs, vs, ns, c', rfl, hi, hl, hB, hcs, hz1, hz2, m1, m2⟩
    clear F N rg
    have hnB : @Ne Nat P It := hn' _ (.head _)
    have hnP : @Ne Nat B It := hn' _ (.tail _ (.head _))
    clear hn'
    k_steps
    walk_at "mine take"
    k_steps
    walk_at "mine take"
    k_steps
    rename Fr _ _ _ _ => F
    rename News _ _ _ _ => N
    rename 0 ≤ (_ : Int) => b0
    rename (_ : Int) < 256 => b1
    simp only [List.push_toArray] at N
    refine ⟨_, _, _, _, rfl, F, (fun p hp => N p (.tail _ hp)), ?_, _, _, cs ++ [_], _, _, _, rfl, by assumption, by assumption, ksk_snoc hB, ?_, ?_, ?_, m1, m2⟩
    · intro p hp
      rcases List.mem_cons.mp hp with rfl | hp
      · exact hnB
      · rw [List.mem_singleton.mp hp]; exact hnP
    · intro x hx
      rcases List.mem_append.mp hx with hx | hx
      · exact hcs x hx
      · rw [List.mem_singleton.mp hx]; exact ⟨by assumption, by assumption⟩
    · simp only [List.length_append, List.length_cons, List.length_nil]; omega
    · simp only [List.length_append, List.length_cons, List.length_nil]; omega
  · rintro m₁ news₁ h₁ tk₁ F' N' ⟨vB, c, cs, vs, ns, c', rfl, hi, hl, hB, hcs, hz1, hz2, m1, m2⟩
    clear F N rg
    k_steps
    have N := news_one N'
    clear N'
    refine bytes_o F' N (N.isList (.head _)) hB hcs (by rw [sizeLine_eq]; omega) rfl fun h' t k F N => ?_
    clear F'
    have hoz : (octs cs).length = cs.length := by unfold octs; rw [List.length_map]
    have hpl := plain_is hcs
    dsimp only
    k_steps
    refine wpAny_Assign_Name ?_
    clear F
    rename Fr _ _ _ _ => F
    clear N
    rename News _ _ _ _ => N
    refine step_to (news := []) (fun v => v = .bool (isAtom (octs cs))) F News.nil ?_ fun v h' tk' F N hv => ?_
    · k_steps
      · rename 0 < (_ : Int) => hpos
        refine comp_codes F N hB hcs (by omega) rfl (by decide) (by decide) rfl (by decide) rfl (by decide) (by intro _; rfl) (fun Q' hq => ld F m1 hq) (fun D h' tk' ys k F' N' hys => ?_)
        clear F N
        have hfl : (cs.filter codeBad).length ≤ cs.length := List.length_filter_le _ _
        dsimp only
        k_steps
        refine len_lst (N'.isList (.head _)) (by omega) fun z tz kz ez => ?_
        k_steps
        refine ⟨_, _, rfl, F', News.nil, congrArg Value.bool ?_⟩
        rw [← hpl, ez, hys, decide_eq_true (show 0 < (octs cs).length by omega), Bool.true_and, Bool.eq_iff_iff, beq_iff_eq, decide_eq_true_eq]
        omega
      · rename ¬ (_ : Int) < _ => hneg
        rename Fr _ _ _ _ => F
        refine ⟨_, _, rfl, F, News.nil, congrArg Value.bool ?_⟩
        rw [← hpl, decide_eq_false hneg, decide_eq_false (show ¬ 0 < (octs cs).length by omega), Bool.false_and]
    · subst hv
      have hoz' : (octs cs).length ≤ 100 := by omega
      clear hpl hcs hB hoz
      generalize octs cs = o at *
      have hne : (isAtom o != isAtom o) = false := by simp
      have hoo : (o != o) = false := by simp
      dsimp only
      k_steps
      rename Fr _ _ _ _ => F
      refine step_to (news := []) (fun f => f = Flow.next) F News.nil ?_ fun f h' tk' F₁ N₁ hf => ?_
      · refine wpAny_If ?_
        rcases Bool.eq_false_or_eq_true (isAtom o) with ha | ha
        · k_steps
          rename Fr _ _ _ _ => F
          rename News _ _ _ _ => N
          refine one_K show_maybe (kept_fns w).1 O K (by omega) F N hoz' (by rw [if_pos ha]; omega) (fun q => by rw [if_pos ha]; exact ⟨read_atom ha, good_or q⟩) rfl fun h' tk' F' N' => ?_
          clear F N
          dsimp only
          k_steps
          exact ⟨_, _, rfl, F', News.nil, rfl⟩
        · k_steps
          rename Fr _ _ _ _ => F
          rename News _ _ _ _ => N
          refine one_K show_maybe (kept_fns w).1 O K (by omega) F N hoz' (by rw [if_neg (by rw [ha]; decide)]; have := quoted_len (o := o); omega) (fun q => by rw [if_neg (by rw [ha]; decide)]; exact good_quoted q) rfl fun h' tk' F' N' => ?_
          clear F N
          dsimp only
          k_steps
          exact ⟨_, _, rfl, F', News.nil, rfl⟩
      subst hf
      clear F
      dsimp only
      k_steps
      refine step_to (news := []) (fun f => f = Flow.next) F₁ News.nil ?_ fun f h' tk' F' N' hf => ?_
      · refine wpAny_If ?_
        rcases Bool.eq_false_or_eq_true (isAtom o) with ha | ha
        · k_steps
          refine atom_or_quoted_spec (O.callee (k := 9) F₁ (by omega)) (K.push F₁ rfl) (by omega) (by omega) (fun r h' tk' st _ out => ?_) (fun e D i h' tk' Th hb => ?_)
          rotate_left
          · exact absurd hb (no_bad (atom_good ha))
          obtain ⟨t', rfl⟩ := out ha
          have F₂ := frStay F₁ st
          have N₂ := newsNil F₂
          clear F₁ N₁ out st
          dsimp only
          k_steps
          rename Fr _ _ _ _ => F
          rename News _ _ _ _ => N
          refine show_token_spec (k := ⟨"atom", o, 5⟩) (O.callee (k := 9) F (by omega)) (K.push F rfl) (by omega) (by dsimp only; omega) (N _ (.head _)).1 (.inr (.inr (.inl rfl))) (fun r h' tk' st _ _ out => ?_) (fun e D i h' tk' Th hb => ?_)
          rotate_left
          · exact absurd hb (no_bad (atom_good ha))
          obtain ⟨t', rfl⟩ := out (.inl rfl)
          have F' := frStay F st
          have N' := newsNil F'
          clear F N out st
          dsimp only
          k_steps
          exact ⟨_, _, rfl, F', News.nil, rfl⟩
        · k_steps
          exact ⟨_, _, rfl, F₁, News.nil, rfl⟩
      subst hf
      clear F₁ N₁
      dsimp only
      k_steps
      refine wpAny_If ?_
      k_steps
      refine one_K show_quoted (kept_fns w).2.1 O K (by omega) F' N' hoz' (by have := quoted_len (o := o); omega) good_quoted rfl fun h' tk' F N => ?_
      clear F' N'
      dsimp only
      k_steps
      refine one_K show_literal (kept_fns w).2.2.1 O K (by omega) F N hoz' (by have := literal_len (o := o); omega) good_literal rfl fun h' tk' F' N' => ?_
      clear F N
      dsimp only
      k_steps
      rename Fr _ _ _ _ => F
      rename News _ _ _ _ => N
      refine show_token_spec (k := ⟨"sign", [64], 3⟩) (O.callee (k := 9) F (by omega)) (K.push F rfl) (by omega) (by decide) (N _ (.head _)).1 (.inr (.inr (.inr rfl))) (fun r h' tk' st _ _ out => ?_) (fun e D i h' tk' Th hb => ?_)
      rotate_left
      · exact absurd hb (no_bad (by decide))
      obtain ⟨t', rfl⟩ := out (.inr rfl)
      have F₁ := frStay F st
      have N₁ := newsNil F₁
      clear F N out st
      dsimp only
      k_steps
      rename Fr _ _ _ _ => F
      rename News _ _ _ _ => N
      refine one_K show_comment (kept_fns w).2.2.2 O K (by omega) F N hoz' (by have := comment_len (o := o); omega) good_comment rfl fun h' tk' F' N' => ?_
      clear F N
      have K0 : Below _ _ _ _ := HK0
      dsimp only
      k_steps
  · passes_own)
end

end
end
end Mine
set_option maxRecDepth 100000 in
set_option maxHeartbeats 8000000 in
theorem PySem.Challenge.cw_no0366_01_holds : PySem.Challenge.rw_no0366_01.Holds := by
  exact Mine.law_holds
