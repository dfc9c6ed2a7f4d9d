import PyProof.Rows.All
import Wide.All
import OpenK.AllK
import Wide.FinOn
import PySem.Challenge.RW_qz0006_03
open PySem PySem.W PySem.Calls PyProof.Rows
set_option Elab.async false
set_option maxRecDepth 100000
set_option maxHeartbeats 8000000
namespace Mine
section
/-- the statements of the text that stay in view -/
def hd.view_39 : Program := view PySem.Challenge.rw_qz0006_03.row.toRowW.prog [0, 2, 3, 5, 6, 7, 8, 9, 10, 11, 13, 14, 15, 16, 17, 18, 19, 20, 21, 22, 23]
-- The head in one check of the kernel, without the library's twins of the text: they make the compiled file 25 MB. The library's twins of its own functions (of topRun, treeTable, openSeen) make the check lighter.
local macro_rules | `(tactic| o_head $H) => `(tactic|
  (refine holds_open (q := hd.view_39) (loose := [Str.ofString "SIMPLE"]) (Xt := fun s => xlAt hd.view_39 [] s && recOk (RowW.records PySem.Challenge.rw_qz0006_03.row.toRowW) s) (XP := XL hd.view_39 []) (Yf := Hook.obs $H) (Ya := Hook.val $H) (YP := Hook.says $H) (N := 3162) ?hl (Hook.of $H) (Hook.keeps $H) (fun s e => xl_of s (Bool.and_eq_true_iff.mp e).1) XL.keeps (by rfl) (by rfl) (by rfl) (fun s e => recFacts_of (Bool.and_eq_true_iff.mp e).2) (by rfl) (by first | assumption | decide +kernel) (by decide +kernel) ⟨rfl, rfl, rfl, rfl, rfl, by decide +kernel⟩ ?hw ?hc; (case hl => first | (intro w; unfold openEnds topFrom; rewrite [PySem.W.Fast.te14082659384304107361, PySem.W.Fast.te14364793385576792824, PySem.W.Fast.te4187177175401517315]; kernel_rfl) | (intro w; kernel_rfl))))
open_top hd for PySem.Challenge.rw_qz0006_03

end
section
section
open PySem.Spec

section
variable {prog : Program} {w : World} {A : Around} {E : Value → Shared → Prop} {h : Heap} {g : Array GenState} {d : Drawn} {t : Nat} {os : OsState}
variable {nm q : Str} {C N : Addr} {bs bm : List Value} {hdct : Bool} {sn : List Str} {sub : List Value} {ab : Bool} {col : Option Bool} {dd : Option Addr} {k0 k1 k2 k3 k5 : Option Value}

/-- Exception.__new__ upon an own class, whatever stands between -/
theorem new_made {R : Result → Shared → Prop} {rest : List Value} (hB : bm.contains (.type "Exception") = true) (hA : bm.contains (.type "AttributeError") = false) (hN : bm.contains (.type "NameError") = false)
    (hC : h.get? C = some (excClassObj nm q C N bs bm hdct sn sub ab col dd k0 k1 k2 k3 k5 "Exception.__new__"))
    (hq : R (.ok (.ret (.ref (h.objs.size + 1)))) ⟨(h.push { cls := .type "tuple", data := .seq rest.toArray }).push
      { cls := .ref C, data := .fields #[.ref h.objs.size, .none, .none, .none, .bool false, .none] }, g, d, t, os⟩) (hrest : rest.length ≤ sizeLine) :
    codeAny (model prog w) A (.builtin "Exception.__new__" ⟨.ref C :: rest, []⟩) R ⟨h, g, d, t, os⟩ := by
  have F := PySem.F.excBase_Exception
  have hends := F.ends
  have c1 : (Value.ref C :: bm).contains (.type "Exception") = true := by rw [List.contains_cons, hB, Bool.or_true]
  have c2 : (Value.ref C :: bm).contains (.type "AttributeError") = false := by rw [List.contains_cons, hA]; rfl
  have c3 : (Value.ref C :: bm).contains (.type "NameError") = false := by rw [List.contains_cons, hN]; rfl
  refine codeAny_builtinAt F.entry ?_
  unfold Builtin.«BaseException.__new__»
  refine _root_.PySem.wpAt_bind ?_
  show _root_.PySem.wpAt _ _ _ (stack >>= _) _ _ _
  refine _root_.PySem.wpAt_bind (_root_.PySem.wpAt_stack fun p below => _root_.PySem.wpAt_of_wpAny ?_)
  wp_walk
  refine _root_.PySem.wpAt_of_wpAny ?_
  rw [F.owner]
  repeat (first | with_reducible refine wpAny_madeHere_exc F.canon hC ?_ | with_reducible refine wpAny_loadPart_at hC ?_ | (with_reducible refine wpAny_isSubtype_exc hC ?_; first | rw [c1] | rw [c2] | rw [c3]) | wp_step)
  show R _ _
  rw [Heap.size_push]
  exact hq

theorem new_checked {M : Model} {rest : List Value} {Q : Unit → Shared → Prop} (hB : bm.contains (.type "Exception") = true)
    (hC : h.get? C = some (excClassObj nm q C N bs bm hdct sn sub ab col dd k0 k1 k2 k3 k5 "Exception.__new__"))
    (hq : Q () ⟨h, g, d, t, os⟩) : wpAny M A (checkBuiltinCall "Exception.__new__" ⟨.ref C :: rest, []⟩) Q E ⟨h, g, d, t, os⟩ :=
  wpAny_check_new_subU (bmB := bm) PySem.F.excBase_Exception hB .base hC hq

theorem type_called {mN : Str → Option Value} {rest : List Value} {fI : Addr} {oI : Obj} {Q : Fin → Shared → Prop} (hB : bm.contains (.type "Exception") = true) (hA : bm.contains (.type "AttributeError") = false) (hN : bm.contains (.type "NameError") = false)
    (hC : h.get? C = some (excClassObj nm q C N bs bm hdct sn sub ab col dd k0 k1 k2 k3 k5 "Exception.__new__")) (hn : h.Ns N mN) (hi : mN "__init__" = some (.ref fI))
    (hfI : h.get? fI = some oI) (hfc : oI.cls = .type "function")
    (hq : ∀ h' e, Heap.MadeExcOf h h' e (.ref C) rest →
      wpAny (model prog w) A (call (.ref fI) (.ref e :: rest)) (fun r s' => r = .none ∧ Q (.done (.ret (.ref e))) s') E ⟨h', g, d, t, os⟩) (hrest : rest.length ≤ sizeLine) :
    wpAny (model prog w) A (Builtin.«type.__call__» ⟨.ref C :: rest, []⟩) Q E ⟨h, g, d, t, os⟩ := by
  repeat (first | with_reducible refine wpAny_loadPart_at hC ?_ | with_reducible refine wpAny_madeBy_exc hC ?_ | wp_step)
  refine codeAny_call_builtin_code (Code.quiet_builtin _ PySem.F.excBase_Exception.quiet) (new_checked hB hC ?_)
  refine new_made hB hA hN hC ?_ hrest
  show wpAny _ _ _ _ _ _
  have up : ∀ b o, h.get? b = some o → ((h.push { cls := .type "tuple", data := .seq rest.toArray }).push { cls := .ref C, data := .fields #[.ref h.objs.size, .none, .none, .none, .bool false, .none] }).get? b = some o :=
    fun b o e => Heap.get?_push_of_some _ (Heap.get?_push_of_some _ e)
  have hC₁ := up _ _ hC
  have hfI₁ := up _ _ hfI
  have hn₁ := hn.keeps up
  have hget : ((h.push { cls := .type "tuple", data := .seq rest.toArray }).push
      { cls := .ref C, data := .fields #[.ref h.objs.size, .none, .none, .none, .bool false, .none] }).get? (h.objs.size + 1) = some
      { cls := .ref C, data := .fields #[.ref h.objs.size, .none, .none, .none, .bool false, .none] } := by heap_get
  have hcC : (Value.ref C :: bm).contains (.ref C) = true := by simp
  unfold isInstance
  repeat (first | with_reducible refine wpAny_loadPart_at hget ?_ | (with_reducible refine wpAny_isSubtype_exc hC₁ ?_; rw [hcC]) | wp_step)
  show wpAny _ _ (typeLookup (.ref C) _) _ _ _
  rw [typeLookup_eq]
  refine wpAny_bind (wpAny_mroOf_exc hC₁ ?_)
  rw [lookupAlong_cons]
  refine wpAny_bind (wpAny_classOwn_exc hC₁ hn₁ ?_)
  rw [hi]
  refine wpAny_pure ?_
  refine wpAny_holding (wpAny_bind ?_)
  unfold bindSpecial
  refine wpAny_bind (wpAny_typeOf (T := "function") ⟨_, hfI₁, hfc⟩ ?_)
  rw [if_pos (by decide)]
  refine wpAny_pure (wpAny_bind (wpAny_mono (hq _ (h.objs.size + 1) ⟨up, Heap.get?_none_of_le (Nat.le_succ _), h.objs.size, hget, Heap.get?_none_of_le (Nat.le_refl _), ?_⟩) (fun r s' hr => ?_) fun _ _ x => x))
  · exact Heap.get?_push_of_some _ (Heap.get?_push_at rfl rfl)
  · obtain ⟨rfl, hQ⟩ := hr
    wp_walk
    exact hQ

theorem exc_call {mN : Str → Option Value} {rest : List Value} {fI : Addr} {oI : Obj} {Q : Value → Shared → Prop} (hB : bm.contains (.type "Exception") = true) (hA : bm.contains (.type "AttributeError") = false) (hN : bm.contains (.type "NameError") = false)
    (hC : h.get? C = some (excClassObj nm q C N bs bm hdct sn sub ab col dd k0 k1 k2 k3 k5 "Exception.__new__")) (hn : h.Ns N mN) (hi : mN "__init__" = some (.ref fI))
    (hfI : h.get? fI = some oI) (hfc : oI.cls = .type "function")
    (hq : ∀ h' e, Heap.MadeExcOf h h' e (.ref C) rest →
      wpAny (model prog w) (A.under (.builtin "type.__call__" ⟨.ref C :: rest, []⟩)) (call (.ref fI) (.ref e :: rest)) (fun r s' => r = .none ∧ Q (.ref e) s') E ⟨h', g, d, t, os⟩) (hrest : rest.length ≤ sizeLine) :
    wpAny (model prog w) A (call (.ref C) rest) Q E ⟨h, g, d, t, os⟩ := by
  have f1 := tc_lookup
  have f2 := tc_bind (.ref C)
  have hT : (⟨h, g, d, t, os⟩ : Shared).TypeIs (.ref C) "type" := ⟨_, hC, rfl⟩
  refine wpAny_call (codeAny_of_tree ?_)
  show wpAny _ _ (callAny (.ref C) _) _ _ _
  repeat (any_goals (first | assumption | with_reducible refine wpAny_loadPart_at hC ?_ | wp_step))
  refine ⟨rfl, ?_⟩
  exact codeAny_call_builtin_at (Code.quiet_builtin _ (by decide +kernel)) entry_typeCall (wpAny_check_type_call_sub hC (type_called hB hA hN hC hn hi hfI hfc hq hrest))
end

theorem wd_slot : Slot "wrapper_descriptor" "__get__" "wrapper_descriptor.__get__" := .of (owner := "wrapper_descriptor") (n := "__get__") (by rw [typeLookup_type, builtinLookup_eq_fast]; kernel_rfl) (by decide +kernel) (by decide +kernel) (by decide +kernel)
  (by first | exact .inl (by decide +kernel) | exact .inr (by decide +kernel)) (by rw [isSubtype_type]; kernel_rfl)
theorem wd_entry : entryFor table "wrapper_descriptor.__get__" = some Builtin.«wrapper_descriptor.__get__» := entryFor_of_tree (by kernel_rfl)
theorem wd_args (a b c : Value) : argsOk "wrapper_descriptor.__get__" ⟨[a, b, c], []⟩ := by unfold argsOk; kernel_rfl
theorem wd_get {prog : Program} {w : World} {A : Around} {h : Heap} {g : Array GenState} {d : Drawn} {t : Nat} {os : OsState} {x C : Addr} {ox : Obj} {R : Result → Shared → Prop}
    (hx : h.get? x = some ox) (hc : ox.cls = .ref C) (hs : Looks (model prog w) h (isSubtype (.ref C) (.type "Exception")) true)
    (hq : R (.ok (.ret (.ref h.objs.size))) ⟨h.push { cls := .type "method-wrapper", data := .fields #[.builtin "Exception.__init__", .ref x] }, g, d, t, os⟩) :
    codeAny (model prog w) A (.call (.builtin "wrapper_descriptor.__get__") ⟨[.builtin "Exception.__init__", .ref x, .ref C], []⟩) R ⟨h, g, d, t, os⟩ := by
  refine codeAny_call_builtin wd_slot.plain wd_entry (wd_slot.check _ _ _ _ _ _ _ _ (by show typeOf _ = _; kernel_rfl) (wd_args _ _ _) ?_)
  unfold Builtin.«wrapper_descriptor.__get__»
  repeat (first | (with_reducible refine wpAny_loadPart_at hx ?_; rw [hc]) | (with_reducible refine Looks.at hs ?_) | (with_reducible refine wpAny_newObj_type ?_ (by size_fits)) | wp_step | dsimp only)
  rw [show ".".intercalate (("Exception.__init__" : String).cutAt '.').dropLast = "Exception" from by decide +kernel]
  unfold newFields
  repeat (first | (with_reducible refine Looks.at hs ?_) | (with_reducible refine wpAny_newObj_type ?_ (by size_fits)) | wp_step | dsimp only)
  exact hq

/-- super().__init__ at Exception's own: the road to the method-wrapper -/
theorem sup_ga {prog : Program} {w : World} {A : Around} {E : Value → Shared → Prop} {h : Heap} {g : Array GenState} {d : Drawn} {t : Nat} {os : OsState} {so D x C : Addr} {l₀ l : List Value} {K : Frag} {tk : Tok} {Q : Fin → Shared → Prop}
    (hso : h.get? so = some { cls := .type "super", dict := none, data := .fields #[.ref D, .ref x, .ref C], slots := #[] }) (hno : Looks (model prog w) h (opaqueClassAbove (.ref C)) none)
    (hC : Looks (model prog w) h (mroOf (.ref C)) l₀) (hl : (l₀.dropWhile (· != .ref D)).drop 1 = l) (X : K.In h)
    (hf : alongIn K "__init__" l = some (some (.builtin "Exception.__init__"))) (hxC : x ≠ C)
    {ox : Obj} (hx : h.get? x = some ox) (hc : ox.cls = .ref C) (hs : Looks (model prog w) h (isSubtype (.ref C) (.type "Exception")) true)
    (hq : Q (.done (.ret (.ref h.objs.size))) ⟨h.push { cls := .type "method-wrapper", data := .fields #[.builtin "Exception.__init__", .ref x] }, g, d, t, os⟩) :
    wpAny (model prog w) A (Builtin.«super.__getattribute__» ⟨[.ref so, .str "__init__" tk], []⟩) Q E ⟨h, g, d, t, os⟩ := by
  have hty : typeOf (.builtin "Exception.__init__") = pure (.type "wrapper_descriptor") := by kernel_rfl
  have hlk : typeLookup (.type "wrapper_descriptor") "__get__" = pure (some (.builtin "wrapper_descriptor.__get__")) := by rw [typeLookup_type, builtinLookup_eq_fast]; kernel_rfl
  have hne : (Value.ref x == Value.ref C) = false := by simp [hxC]
  have hn : (("__init__" : Str) == ("__class__" : Str)) = false := by decide
  have hdt : ({ cls := .type "super", dict := none, data := .fields #[.ref D, .ref x, .ref C], slots := #[] } : Obj).data = .fields #[.ref D, .ref x, .ref C] := rfl
  have f0 : (#[.ref D, .ref x, .ref C] : Array Value)[0]? = some (.ref D) := rfl
  have f1 : (#[.ref D, .ref x, .ref C] : Array Value)[1]? = some (.ref x) := rfl
  have f2 : (#[.ref D, .ref x, .ref C] : Array Value)[2]? = some (.ref C) := rfl
  unfold Builtin.«super.__getattribute__»
  repeat (first
    | (with_reducible refine wpAny_field hso hdt f0 ?_) | (with_reducible refine wpAny_field hso hdt f1 ?_) | (with_reducible refine wpAny_field hso hdt f2 ?_)
    | (with_reducible refine ks_wpAny_notOpaque hno ?_)
    | (with_reducible refine Looks.at hC ?_; rw [hl])
    | (refine ks_forIn_along X (fun _ _ => rfl) rfl ?_ hf)
    | (with_reducible refine wpAny_of_eq hty ?_)
    | (with_reducible refine wpAny_of_eq hlk ?_)
    | (simp only [hn, hne, Bool.or_false, Bool.false_eq_true, if_false])
    | wp_step
    | dsimp only)
  refine wd_get hx hc hs ?_
  dsimp only
  repeat (first | wp_step | dsimp only)
  exact hq
end
section
open PySem.Builtin PySem.Builtin.ObjectAttr

section
variable {prog : Program} {w : World} {A : Around} {s : Shared} {K : Frag} {h₀ : Heap} {L x C : Addr} {m : Str → Option Value} {R : Result → Shared → Prop} {ox : Obj} {od : Option Obj}

theorem mid_mem {α : Type} {a : α} {l r : List α} : a ∈ l ++ a :: r := List.mem_append_right _ (.head _)
theorem exc_refuse (self : Value) : refuseLoop self "__setattr__" [.type "Exception", .type "BaseException", .type "object"] = pure () := by kernel_rfl

theorem exc_refuse2 (self : Value) (C D : Addr) : refuseLoop self "__setattr__" [.ref C, .ref D, .type "Exception", .type "BaseException", .type "object"] = pure () := by
  rw [refuseLoop_ref, refuseLoop_ref]; exact exc_refuse self
def excStore (K : Frag) (C : Addr) : Bool := match clsIn K C with
  | some cd => cd.hasDict && (match cd.mro with
    | [.ref _, .ref _, .type a, .type b, .type c] => a == "Exception" && b == "BaseException" && c == "object"
    | _ => false)
  | none => false
theorem excStore_of {K : Frag} {C : Addr} (h : excStore K C = true) : ∃ cd, clsIn K C = some cd ∧ (∀ self, refuseLoop self "__setattr__" cd.mro = pure ()) ∧ cd.mro.contains (.type "object") = true ∧ cd.hasDict = true := by
  unfold excStore at h
  split at h
  · rename_i cd hc
    rw [Bool.and_eq_true] at h
    obtain ⟨h1, h2⟩ := h
    split at h2
    · rename_i A B a b c hm
      simp only [Bool.and_eq_true, beq_iff_eq] at h2
      obtain ⟨⟨rfl, rfl⟩, rfl⟩ := h2
      exact ⟨cd, hc, fun self => by rw [hm]; exact exc_refuse2 _ _ _, by rw [hm]; simp, h1⟩
    · cases h2
  · cases h
/-- object.__setattr__ upon an object of an own exception class -/
theorem osa_exc {cd : ClassData} {name : Str} {tk : Tok} {v : Value} (X : K.In s.heap) (I : InstAt s.heap x ox C od) (hc : clsIn K C = some cd) (hr : refuseLoop (.ref x) "__setattr__" cd.mro = pure ()) (ho : cd.mro.contains (.type "object") = true)
    (ht : findIn K (.ref C) name = some none)
    (h : ∀ b, wpAny (model prog w) A.in1 (storeInOwnDict (.ref x) (.ref C) (.str name tk) name v b)
      (fun fin s' => match fin with | PySem.Fin.done f => R (.ok f) s' | PySem.Fin.again c' => c'.quiet = true ∧ codeAny (model prog w) A c' R s') (fun e s' => R (.error e) s') s) :
    codeAny (model prog w) A (.call (.builtin "object.__setattr__") ⟨[.ref x, .str name tk, v], []⟩) R s := by
  have SF := PySem.F.store_object
  have ne : cd.mro.isEmpty = false := by cases q : cd.mro with | nil => rw [q] at ho; cases ho | cons _ _ => rfl
  have sub : Looks (model prog w) s.heap (isInstance (.ref x) (.type "object")) true := I.type.andThen (looks_mroIn X (by unfold mroIn; rw [hc, Option.bind_some, if_neg (by rw [ne]; decide), ho]))
  refine codeAny_call_builtin SF.slot.plain SF.entry (@check_slot (model prog w) _ _ s "object.__setattr__" "object" "__setattr__" (.ref x) [.str name tk, v] [] _ SF.kind SF.split sub (SF.args (.ref x) (.str name tk) v) ?_)
  have hm : Looks (model prog w) s.heap (mroOf (.ref C)) cd.mro := (looks_clsIn X hc).andThen .now
  have L3 : Looks (model prog w) s.heap (storeTaker? none) none := .now
  rw [osa_eq, refuse_eq]
  refine wpAny_bind (wpAny_bind (I.type.here (wpAny_bind (hm.here ?_))))
  rw [hr]
  refine wpAny_pure (wpAny_bind (I.type.here (wpAny_bind ((looks_findIn X ht).here (wpAny_bind (L3.here ?_))))))
  exact h _

/-- the first attribute of an exception: its dict is made -/
theorem osa_first {cd : ClassData} {name : Str} {tk : Tok} {v : Value} {pre post : List (Addr × Obj)} {vs : Array Value} (F : Fr h₀ L s.heap m) (N : News h₀ L s.heap (pre ++ (x, (⟨.ref C, none, .fields vs, #[]⟩ : Obj)) :: post)) (X : K.In s.heap)
    (hc : clsIn K C = some cd) (hr : refuseLoop (.ref x) "__setattr__" cd.mro = pure ()) (ho : cd.mro.contains (.type "object") = true) (hh : cd.hasDict = true)
    (ht : findIn K (.ref C) name = some none) (h1 : ∀ p ∈ pre, p.1 ≠ x) (h2 : ∀ p ∈ post, p.1 ≠ x)
    (h : ∀ dx h', Fr h₀ L h' m → News h₀ L h' ((dx, dictOf [⟨PyData.keyHash w.params name, .str name s.toks, v⟩] 1) :: (pre ++ (x, (⟨.ref C, some dx, .fields vs, #[]⟩ : Obj)) :: post)) → (∀ p ∈ pre ++ (x, (⟨.ref C, none, .fields vs, #[]⟩ : Obj)) :: post, p.1 < dx) → R (.ok (.ret .none)) { s with heap := h', toks := s.toks + 1 }) :
    codeAny (model prog w) A (.call (.builtin "object.__setattr__") ⟨[.ref x, .str name tk, v], []⟩) R s := by
  have hx : s.heap.get? x = some (⟨.ref C, none, .fields vs, #[]⟩ : Obj) := (N _ mid_mem).1
  have I : InstAt s.heap x ⟨.ref C, none, .fields vs, #[]⟩ C none := ⟨hx, rfl, rfl, trivial⟩
  refine osa_exc X I hc hr ho ht fun b => ?_
  have N1 := N.push F emptyDict
  have F1 := F.push emptyDict
  have lt : ∀ p ∈ pre ++ (x, (⟨.ref C, none, .fields vs, #[]⟩ : Obj)) :: post, p.1 < s.heap.objs.size := fun p hp => Heap.lt_size (N p hp).1
  rw [← List.cons_append] at N1
  obtain ⟨F2, N2⟩ := news_upd (f := fun o => { o with dict := some s.heap.objs.size }) F1 N1 (o' := (⟨.ref C, some s.heap.objs.size, .fields vs, #[]⟩ : Obj)) (fun p hp => by
    rcases List.mem_cons.mp hp with rfl | hp
    · exact Nat.ne_of_gt (lt _ mid_mem)
    · exact h1 p hp) h2 rfl rfl
  have D := (N2 (s.heap.objs.size, emptyDict) (.head _)).1
  obtain ⟨F3, N3⟩ := news_upd (pre := []) (f := Obj.putName name (PyData.keyHash w.params name) (.str name s.toks) v) F2 (by simpa using N2) (o' := dictOf [⟨PyData.keyHash w.params name, .str name s.toks, v⟩] 1) (by simp) (fun p hp => by
    refine Nat.ne_of_lt ?_
    rcases List.mem_append.mp hp with hp | hp
    · exact lt p (List.mem_append_left _ hp)
    · rcases List.mem_cons.mp hp with rfl | hp
      · exact lt (x, ⟨.ref C, none, .fields vs, #[]⟩) mid_mem
      · exact lt p (List.mem_append_right _ (.tail _ hp))) rfl rfl
  have D' := (N3 _ (.head _)).1
  obtain ⟨hp, g, d, t, os⟩ := s
  have hx1 : (hp.push emptyDict).get? x = some ⟨.ref C, none, .fields vs, #[]⟩ := (N1 (x, ⟨.ref C, none, .fields vs, #[]⟩) (.tail _ mid_mem)).1
  refine wpAny_bind (wpAny_pure (wpAny_bind (wpAny_bind (wpAny_loadPart hx (wpAny_bind ((looks_clsIn X hc).here ?_))))))
  rw [hh]
  refine wpAny_bind (wpAny_alloc ?_)
  refine wpAny_bind (wpAny_update hx1 ?_)
  refine wpAny_pure (a := some hp.objs.size) (wpAny_bind (wpAny_pure (wpAny_bind ?_)))
  unfold nsSet
  refine wpAny_bind (wpAny_bind (wpAny_askSetting (wpAny_pure (wpAny_bind (wpAny_mkText (wpAny_bind (wpAny_loadPart D ?_)))))))
  dsimp only
  rw [aRefKeyMayBeTheName_at, show ((!(#[] : Array DictEntry).any (·.key.isStr name)) && (#[] : Array DictEntry).any (·.refKey)) = false from by simp]
  refine wpAny_updatePart D ?_
  refine wpAny_bind (wpAny_lookBehind D' (pastItsLine_dict (by rw [sizeLine_eq]; exact Nat.le_of_ble_eq_true rfl)) ?_)
  exact wpAny_pure (h _ _ F3 N3 lt)

/-- a further one -/
theorem osa_next {cd : ClassData} {name : Str} {tk : Tok} {v : Value} {dx : Addr} {es es' : List DictEntry} {k n : Nat} {pre post : List (Addr × Obj)} {vs : Array Value} (F : Fr h₀ L s.heap m) (N : News h₀ L s.heap (pre ++ (dx, dictOf es k) :: post)) (hx : s.heap.get? x = some ⟨.ref C, some dx, .fields vs, #[]⟩) (X : K.In s.heap)
    (hc : clsIn K C = some cd) (hr : refuseLoop (.ref x) "__setattr__" cd.mro = pure ()) (ho : cd.mro.contains (.type "object") = true) (hh : cd.hasDict = true)
    (ht : findIn K (.ref C) name = some none) (h1 : ∀ p ∈ pre, p.1 ≠ dx) (h2 : ∀ p ∈ post, p.1 ≠ dx) (hk : es.any (·.refKey) = false)
    (e : Obj.putName name (PyData.keyHash w.params name) (.str name s.toks) v (dictOf es k) = dictOf es' n) (hz : es'.length ≤ 1000)
    (h : ∀ h', Fr h₀ L h' m → News h₀ L h' (pre ++ (dx, dictOf es' n) :: post) → R (.ok (.ret .none)) { s with heap := h', toks := s.toks + 1 }) :
    codeAny (model prog w) A (.call (.builtin "object.__setattr__") ⟨[.ref x, .str name tk, v], []⟩) R s := by
  have D : s.heap.get? dx = some (dictOf es k) := (N _ mid_mem).1
  have I : InstAt s.heap x ⟨.ref C, some dx, .fields vs, #[]⟩ C (some (dictOf es k)) := ⟨hx, rfl, rfl, D⟩
  refine osa_exc X I hc hr ho ht fun b => ?_
  obtain ⟨U1, U2⟩ := news_upd (f := Obj.putName name (PyData.keyHash w.params name) (.str name s.toks) v) F N h1 h2 e rfl
  have D' := (U2 (dx, dictOf es' n) mid_mem).1
  refine wpAny_bind (wpAny_pure (wpAny_bind (wpAny_bind (wpAny_loadPart hx (wpAny_bind ((looks_clsIn X hc).here ?_))))))
  rw [hh]
  refine wpAny_pure (a := some dx) (wpAny_bind (wpAny_pure (wpAny_bind ?_)))
  unfold nsSet
  refine wpAny_bind (wpAny_bind (wpAny_askSetting (wpAny_pure (wpAny_bind (wpAny_mkText (wpAny_bind (wpAny_loadPart D ?_)))))))
  dsimp only
  have c : (!(es.toArray).any (·.key.isStr name) && (es.toArray).any (·.refKey)) = false := by
    rw [← Array.any_toList, ← Array.any_toList]
    show (!(es.any _) && es.any _) = false
    rw [hk, Bool.and_false]
  rw [aRefKeyMayBeTheName_at, c]
  refine wpAny_updatePart D ?_
  refine wpAny_bind (wpAny_lookBehind D' (pastItsLine_dict (by rw [List.size_toArray, sizeLine_eq]; omega)) ?_)
  exact wpAny_pure (h _ U1 U2)
end
end
abbrev mwObj (x : Addr) : Obj := { cls := .type "method-wrapper", data := .fields #[.builtin "Exception.__init__", .ref x] }

section
variable {prog : Program} {w : World} {A : Around} {E : Value → Shared → Prop} {h : Heap} {g : Array GenState} {d : Drawn} {t : Nat} {os : OsState}

theorem sup_getMethod {so D x C : Addr} {l₀ l : List Value} {K : Frag} {ox : Obj} {pl : Sem Bool} {Q : Value × List Value → Shared → Prop}
    (hso : h.get? so = some { cls := .type "super", dict := none, data := .fields #[.ref D, .ref x, .ref C], slots := #[] }) (hno : Looks (model prog w) h (opaqueClassAbove (.ref C)) none)
    (hC : Looks (model prog w) h (mroOf (.ref C)) l₀) (hl : (l₀.dropWhile (· != .ref D)).drop 1 = l) (X : K.In h)
    (hf : alongIn K "__init__" l = some (some (.builtin "Exception.__init__"))) (hxC : x ≠ C) (hx : h.get? x = some ox) (hc : ox.cls = .ref C) (hs : Looks (model prog w) h (isSubtype (.ref C) (.type "Exception")) true)
    (hq : Q (.ref h.objs.size, []) ⟨h.push (mwObj x), g, d, t + 1, os⟩) :
    wpAny (model prog w) A (getMethod (.ref so) "__init__" pl) Q E ⟨h, g, d, t, os⟩ := by
  have hlk := F.ks_slot_super_ga.lookup
  have hcan := F.ks_canon_super_ga
  have hT : ∀ t', (⟨h, g, d, t', os⟩ : Shared).TypeIs (.ref so) "super" := fun _ => ⟨_, hso, rfl⟩
  unfold getMethod
  refine wpAny_bind (wpAny_specialOf (hT _) hlk ?_)
  show wpAny _ _ (if (Manifest.canonical "super.__getattribute__" != "object.__getattribute__") = true then _ else _) _ _ _
  rw [if_pos hcan]
  unfold getAttr getAttrBy
  refine wpAny_bind (wpAny_bind (wpAny_mkText (wpAny_holding (wpAny_bind (wpAny_typeOf (hT _) (wpAny_bind (wpAny_of_eq hlk ?_)))))))
  show wpAny _ _ (getAttrByItsOwn (.ref so) (.str _ t) (.type "super") (.builtin "super.__getattribute__") true false) _ _ _
  unfold getAttrByItsOwn hookBefore callGetattribute boundAndCalled
  refine wpAny_bind (wpAny_of_eq (show (if onTheHeap (.type "super") then typeLookup (.type "super") "__getattr__" else pure none) = pure none from rfl) ?_)
  refine wpAny_bind (wpAny_attempt (wpAny_holding ?_))
  show wpAny _ _ (bindSpecial (.builtin "super.__getattribute__") (.ref so) >>= _) _ _ _
  refine wpAny_bind (wpAny_of_eq (F.ks_slot_super_ga.bind _) ?_)
  refine wpAny_mono (Q := fun v s' => v = .ref h.objs.size ∧ s' = ⟨h.push (mwObj x), g, d, t + 1, os⟩) (E := fun _ _ => False)
    (wpAny_call_entry F.ks_slot_super_ga (hT _) F.ks_entry_super_ga (sup_ga hso hno hC hl X hf hxC hx hc hs ⟨_, rfl, rfl, rfl⟩) (F.ks_gaArgs_super _ _)) (fun v s' hv => ?_) fun _ _ z => z.elim
  obtain ⟨rfl, rfl⟩ := hv
  exact wpAny_pure (wpAny_pure hq)

/-- Exception.__init__, bound, called: the args are laid anew -/
theorem mw_call {cC : Value} {dC : Option Addr} {cd : ClassData} {slC : Array (Option Value)} {mw x C T : Addr} {dx : Option Addr} {vs : List Value} {Q : Value → Shared → Prop} (hm : h.get? mw = some (mwObj x)) (hx : h.get? x = some (⟨.ref C, dx, .fields #[.ref T, .none, .none, .none, .bool false, .none], #[]⟩ : Obj))
    (hC : h.get? C = some (⟨cC, dC, .cls cd, slC⟩ : Obj)) (hs : Looks (model prog w) h (isSubtype (.ref C) (.type "Exception")) true) (hv : vs.length ≤ sizeLine)
    (hq : Q .none ⟨(h.push { cls := .type "tuple", data := .seq vs.toArray }).update x (Obj.mapFields (·.setIfInBounds 0 (.ref h.objs.size))), g, d, t, os⟩) :
    wpAny (model prog w) A (call (.ref mw) vs) Q E ⟨h, g, d, t, os⟩ := by
  refine wpAny_call (codeAny_of_tree ?_)
  show wpAny _ _ (callAny (.ref mw) _) _ _ _
  unfold callAny
  refine wpAny_bind (wpAny_load hm ?_)
  unfold checkBoundCall
  repeat (first | (with_reducible refine wpAny_loadPart_at hx ?_) | (with_reducible refine wpAny_load hC ?_) | wp_step | dsimp only)
  refine wpAny_onRaise ?_
  rw [show ∀ (a b : String) (n : Nat), Bind.check ⟨.positional, "*", "Exception", .self, [⟨"args", .varPos, false⟩]⟩ a b n (List.map (fun (x : Str × Value) => x.fst) []) = pure () from
    fun a b n => check_star_args _ _ _ _ _ _]
  refine wpAny_pure ?_
  show wpAny _ _ (again (.builtin "Exception.__init__" ⟨.ref x :: vs, []⟩)) _ _ _
  refine wpAny_pure ⟨Code.quiet_builtin _ (by decide +kernel), codeAny_builtin PySem.F.excBase_Exception.initEntry ?_⟩
  have hx' := Heap.get?_push_of_some { cls := .type "tuple", data := .seq vs.toArray } hx
  unfold Builtin.«BaseException.__init__»
  repeat (first | (with_reducible refine wpAny_loadPart_at hx ?_) | (with_reducible refine wpAny_loadPart_at hx' ?_) | (with_reducible refine wpAny_newObj_type ?_ (by simpa using hv)) | wp_step | dsimp only)
  exact hq
end

def MwP (q x : Addr) (h : Heap) : Prop := h.get? q = some (mwObj x)
section
variable {prog : Program} {w : World} {A : Around} {E : Value → Shared → Prop} {s : Shared} {K : Frag} {h₀ : Heap} {L x C D : Addr} {m : Str → Option Value} {news : List (Addr × Obj)} {ox : Obj}

theorem sup_method_N {so : Addr} {pl : Sem Bool} {Q : Value × List Value → Shared → Prop} (F : Fr h₀ L s.heap m) (X₀ : K.In h₀) (N : News h₀ L s.heap news) (hso : (so, ks_superObj D x C) ∈ news) (hx : (x, ox) ∈ news) (hc : ox.cls = .ref C)
    (ho : nsIn K cStatics "thirdparty.any" = some none) (hm : ks_superIn K C D "__init__" = some (some (.builtin "Exception.__init__"))) (hsub : mroIn K C (.type "Exception") = some true)
    (h : ∀ q h', Fr h₀ L h' m → News h₀ L h' ((q, mwObj x) :: news) → (∀ p ∈ news, p.1 < q) → Q (.ref q, []) { s with heap := h', toks := s.toks + 1 }) : wpAny (model prog w) A (getMethod (.ref so) "__init__" pl) Q E s := by
  have X : K.In s.heap := X₀.keeps F.keep
  obtain ⟨hh, g, d, t, os⟩ := s
  cases hcl : clsIn K C with
  | none => unfold ks_superIn at hm; rw [hcl] at hm; cases hm
  | some cd =>
    unfold ks_superIn at hm
    rw [hcl] at hm
    have hne : x ≠ C := by
      rintro rfl
      have hin := (X₀ x)
      unfold clsIn at hcl
      split at hcl
      · rename_i q
        have := hin _ q
        rw [(N _ hx).2.2] at this
        cases this
      · cases hcl
    refine sup_getMethod (N _ hso).1 (looks_opaque X ho) (l₀ := cd.mro) ?_ rfl X hm hne (N _ hx).1 hc (looks_mroIn X hsub) ?_
    · exact fun A Q E s k q => wpAny_bind ((looks_clsIn X hcl) A _ E s k (wpAny_pure q))
    · obtain ⟨F', N', l'⟩ := ks_newsPush (s := ⟨hh, g, d, t, os⟩) (o := mwObj x) F N rfl (Heap.get?_push_at rfl rfl) (fun b o e => Heap.get?_push_of_some _ e)
      exact h _ _ F' N' l'

theorem mw_with {q : Addr} {pos : Pos} {e : PySem.Expr} {env : Env} {Q : Value → Shared → Prop}
    (h : wpAny (model prog w) A (spliced (backTo pos (starEach [e] env))) (fun vs s₁ => MwP q x s₁.heap ∧ wpAny (model prog w) A (call (.ref q) ([] ++ vs)) Q E s₁) E s)
    (he : starEach [e] env = (false, eval e env) :: starEach [] env := by rfl) :
    wpAny (model prog w) A (callWith pos (.ref q) [] (backTo pos (starEach [e] env)) []) Q E s := by
  rw [he] at h ⊢
  refine callWith_of (P := MwP q x) rfl (fun h hq => ⟨.machine, .inr (.inl rfl), (Looks.ld (part := none) hq).andThen .now⟩) (evalArgs_plain h)

theorem mw_call_N {q T : Addr} {dx : Option Addr} {vs : List Value} {cC : Value} {dC : Option Addr} {cd : ClassData} {slC : Array (Option Value)} {pre post : List (Addr × Obj)} {Q : Value → Shared → Prop} (F : Fr h₀ L s.heap m) (X₀ : K.In h₀)
    (N : News h₀ L s.heap (pre ++ (x, (⟨.ref C, dx, .fields #[.ref T, .none, .none, .none, .bool false, .none], #[]⟩ : Obj)) :: post)) (hq : (q, mwObj x) ∈ pre ++ (x, (⟨.ref C, dx, .fields #[.ref T, .none, .none, .none, .bool false, .none], #[]⟩ : Obj)) :: post)
    (h1 : ∀ p ∈ pre, p.1 ≠ x) (h2 : ∀ p ∈ post, p.1 ≠ x) (hC : K.lookup C = some (⟨cC, dC, .cls cd, slC⟩ : Obj)) (hsub : mroIn K C (.type "Exception") = some true) (hv : vs.length ≤ sizeLine)
    (h : ∀ T' h', Fr h₀ L h' m → News h₀ L h' ((T', { cls := .type "tuple", data := .seq vs.toArray }) :: (pre ++ (x, (⟨.ref C, dx, .fields #[.ref T', .none, .none, .none, .bool false, .none], #[]⟩ : Obj)) :: post)) →
      (∀ p ∈ pre ++ (x, (⟨.ref C, dx, .fields #[.ref T, .none, .none, .none, .bool false, .none], #[]⟩ : Obj)) :: post, p.1 < T') → Q .none { s with heap := h' }) :
    wpAny (model prog w) A (call (.ref q) vs) Q E s := by
  have X : K.In s.heap := X₀.keeps F.keep
  have lt : ∀ p ∈ pre ++ (x, (⟨.ref C, dx, .fields #[.ref T, .none, .none, .none, .bool false, .none], #[]⟩ : Obj)) :: post, p.1 < s.heap.objs.size := fun p hp => Heap.lt_size (N p hp).1
  have N1 := N.push F { cls := .type "tuple", data := .seq vs.toArray }
  have F1 := F.push { cls := .type "tuple", data := .seq vs.toArray }
  rw [← List.cons_append] at N1
  obtain ⟨F2, N2⟩ := news_upd (f := Obj.mapFields (·.setIfInBounds 0 (.ref s.heap.objs.size))) F1 N1 (o' := (⟨.ref C, dx, .fields #[.ref s.heap.objs.size, .none, .none, .none, .bool false, .none], #[]⟩ : Obj)) (fun p hp => by
    rcases List.mem_cons.mp hp with rfl | hp
    · exact Nat.ne_of_gt (lt (x, _) mid_mem)
    · exact h1 p hp) h2 rfl rfl
  obtain ⟨hh, g, d, t, os⟩ := s
  exact mw_call (N _ hq).1 (N _ mid_mem).1 (X _ _ hC) (looks_mroIn X hsub) hv (h _ _ F2 N2 lt)

theorem set_first {name : Str} {v : Value} {pre post : List (Addr × Obj)} {vs : Array Value} {Q : Unit → Shared → Prop} (F : Fr h₀ L s.heap m) (X₀ : K.In h₀) (N : News h₀ L s.heap (pre ++ (x, (⟨.ref C, none, .fields vs, #[]⟩ : Obj)) :: post))
    (hs : findIn K (.ref C) "__setattr__" = some (some (.builtin "object.__setattr__"))) (hcls : excStore K C = true)
    (ht : findIn K (.ref C) name = some none) (h1 : ∀ p ∈ pre, p.1 ≠ x) (h2 : ∀ p ∈ post, p.1 ≠ x)
    (h : ∀ dx h', Fr h₀ L h' m → News h₀ L h' ((dx, dictOf [⟨PyData.keyHash w.params name, .str name (s.toks + 1), v⟩] 1) :: (pre ++ (x, (⟨.ref C, some dx, .fields vs, #[]⟩ : Obj)) :: post)) → (∀ p ∈ pre ++ (x, (⟨.ref C, none, .fields vs, #[]⟩ : Obj)) :: post, p.1 < dx) → Q () { s with heap := h', toks := s.toks + 2 }) :
    wpAny (model prog w) A (setAttr (.ref x) name v) Q E s := by
  have hx : s.heap.get? x = some (⟨.ref C, none, .fields vs, #[]⟩ : Obj) := (N _ mid_mem).1
  have I : InstAt s.heap x ⟨.ref C, none, .fields vs, #[]⟩ C none := ⟨hx, rfl, rfl, trivial⟩
  obtain ⟨cd, hc, hr, ho, hh⟩ := excStore_of hcls
  exact set_plain (X₀.keeps F.keep) I hs (osa_first (s := { s with toks := s.toks + 1 }) F N (X₀.keeps F.keep) hc (hr _) ho hh ht h1 h2 fun dx h' F' N' l => h dx h' F' N' l)

theorem set_next {name : Str} {v : Value} {dx : Addr} {es es' : List DictEntry} {k n : Nat} {pre post : List (Addr × Obj)} {vs : Array Value} {Q : Unit → Shared → Prop} (F : Fr h₀ L s.heap m) (X₀ : K.In h₀) (N : News h₀ L s.heap (pre ++ (dx, dictOf es k) :: post)) (hx : (x, (⟨.ref C, some dx, .fields vs, #[]⟩ : Obj)) ∈ pre ++ (dx, dictOf es k) :: post)
    (hs : findIn K (.ref C) "__setattr__" = some (some (.builtin "object.__setattr__"))) (hcls : excStore K C = true)
    (ht : findIn K (.ref C) name = some none) (h1 : ∀ p ∈ pre, p.1 ≠ dx) (h2 : ∀ p ∈ post, p.1 ≠ dx) (hk : es.any (·.refKey) = false)
    (e : Obj.putName name (PyData.keyHash w.params name) (.str name (s.toks + 1)) v (dictOf es k) = dictOf es' n) (hz : es'.length ≤ 1000)
    (h : ∀ h', Fr h₀ L h' m → News h₀ L h' (pre ++ (dx, dictOf es' n) :: post) → Q () { s with heap := h', toks := s.toks + 2 }) :
    wpAny (model prog w) A (setAttr (.ref x) name v) Q E s := by
  have I : InstAt s.heap x ⟨.ref C, some dx, .fields vs, #[]⟩ C (some (dictOf es k)) := ⟨(N _ hx).1, rfl, rfl, (N _ mid_mem).1⟩
  obtain ⟨cd, hc, hr, ho, hh⟩ := excStore_of hcls
  exact set_plain (X₀.keeps F.keep) I hs (osa_next (s := { s with toks := s.toks + 1 }) F N (N _ hx).1 (X₀.keeps F.keep) hc (hr _) ho hh ht h1 h2 hk e hz fun h' F' N' => h h' F' N')
end

def Stop (P : Prop) : Prop := P
theorem stop_of {P : Prop} (h : Stop P) : P := h
theorem inst_exc0 {h₀ h : Heap} {L x C : Addr} {news : List (Addr × Obj)} {vs : Array Value} {sl : Array (Option Value)} (N : News h₀ L h news) (h1 : (x, (⟨.ref C, none, .fields vs, sl⟩ : Obj)) ∈ news) :
    InstAt h x ⟨.ref C, none, .fields vs, sl⟩ C none := ⟨(N _ h1).1, rfl, rfl, trivial⟩
theorem inst_exc1 {h₀ h : Heap} {L x C dx : Addr} {news : List (Addr × Obj)} {od : Obj} {vs : Array Value} {sl : Array (Option Value)} (N : News h₀ L h news) (h1 : (x, (⟨.ref C, some dx, .fields vs, sl⟩ : Obj)) ∈ news) (h2 : (dx, od) ∈ news) :
    InstAt h x ⟨.ref C, some dx, .fields vs, sl⟩ C (some od) := ⟨(N _ h1).1, rfl, rfl, (N _ h2).1⟩
abbrev excObj (C T : Addr) (dx : Option Addr) : Obj := ⟨.ref C, dx, .fields #[.ref T, .none, .none, .none, .bool false, .none], #[]⟩
abbrev tupObj (vs : List Value) : Obj := { cls := .type "tuple", data := .seq vs.toArray }
theorem allLt_mem {d : Addr} : ∀ {l : List (Addr × Obj)}, AllLt d l → ∀ p ∈ l, p.1 < d
  | [], _, _, hp => nomatch hp
  | _ :: _, h, _, .head _ => h.1
  | _ :: _, h, _, .tail _ hp => allLt_mem h.2 _ hp
theorem allLt_ne {d : Addr} {l : List (Addr × Obj)} (h : AllLt d l) : ∀ p ∈ l, p.1 ≠ d := fun p hp => Nat.ne_of_lt (allLt_mem h p hp)

end
section
/-- the exception e of the class C, its dict at dx, with a traceback whose flight is fl -/
def TracedD (h base : Heap) (e C dx : Addr) (fl : Value) : Prop :=
  ∃ vs Tb oT ts, h.get? e = some (⟨.ref C, some dx, .fields vs, #[]⟩ : Obj) ∧ vs[1]? = some (.ref Tb) ∧ base.get? Tb = none ∧ Tb ≠ e ∧ h.get? Tb = some oT ∧ oT.data = .fields ts ∧ ts[3]? = some fl
def StateD (base : Heap) (l : List Env) (e C dx : Addr) (fl : Value) (h h' : Heap) : Prop := base.StaysIn h' ∧ h'.FunFrames base l ∧ TracedD h' base e C dx fl ∧ h.UpToSlots h'

section
variable {M : Model} {A : Around} {E : Value → Shared → Prop} {s : Shared}

theorem entryD {base : Heap} {env : Env} {outer : List Env} {L e C dx : Addr} {vs : Array Value} {head : Value} {hadNext : Bool} {Q : Unit → Shared → Prop}
    (hfr : A.frames = some (env :: outer)) (hl : s.heap.FunFrames base (env :: outer)) (hf : env.frame = some L)
    (he : s.heap.get? e = some (⟨.ref C, some dx, .fields vs, #[]⟩ : Obj)) (hkb : base.StaysIn s.heap) (hen : base.get? e = none) (hsz : 1 < vs.size)
    (h : ∀ h', StateD base (env :: outer) e C dx (rawInt L) s.heap h' → Q () { s with heap := h' }) :
    wpAny M A (do let a ← frameOf env; let pl ← entryPlaceOf L hadNext; let b ← EntryCells.newEntry head a .none (rawInt L) .none pl; setField (.ref e) 1 b) Q E s := by
  have hne : e ∉ (env :: outer).filterMap (·.frame) := fun hm => by
    obtain ⟨_, o, ho, hnf⟩ := hl.mem hm
    rw [he] at ho; injection ho with ho; subst ho; exact hnf vs rfl
  refine wpAny_bind (wpAny_frameOf_fun hfr hl hf fun h₁ hs₁ => ?_)
  refine wpAny_bind (wpAny_entryPlaceOf fun pl hpl => ?_)
  unfold EntryCells.newEntry newFields
  refine wpAny_bind (wpAny_newObj_type ?_ (hpl.sizeOk5 _ _ _ _ _))
  have e₁ := (hs₁.2.1 e hne).trans he
  have k₁ : base.StaysIn h₁ := fun b o hb => (hs₁.2.1 b fun hm => by rw [(hl.mem hm).1] at hb; cases hb).trans (hkb b o hb)
  have e₂ := Heap.get?_push_of_some (h := h₁) { cls := .type "traceback", dict := none, data := .fields ([head, .ref L, .none, rawInt L, .none] ++ (if pl.isEmpty then List.replicate 6 Value.none else pl)).toArray } e₁
  refine wpAny_setField e₂ rfl hsz (h _ ?_)
  have hT : h₁.objs.size ≠ e := Nat.ne_of_gt (Heap.lt_size e₁)
  have e₃ := Heap.get?_update_self (Obj.mapFields (·.setIfInBounds 1 (Value.ref h₁.objs.size))) e₂ rfl
  have T₃ := (Heap.get?_update_other (h₁.push { cls := .type "traceback", dict := none, data := .fields ([head, .ref L, .none, rawInt L, .none] ++ (if pl.isEmpty then List.replicate 6 Value.none else pl)).toArray })
    (Obj.mapFields (·.setIfInBounds 1 (Value.ref h₁.objs.size))) (Ne.symm hT)).trans (Heap.get?_push_size h₁ rfl)
  have keep : ∀ b o, b ≠ e → h₁.get? b = some o →
      ((h₁.push { cls := .type "traceback", dict := none, data := .fields ([head, .ref L, .none, rawInt L, .none] ++ (if pl.isEmpty then List.replicate 6 Value.none else pl)).toArray }).update e (Obj.mapFields (·.setIfInBounds 1 (Value.ref h₁.objs.size)))).get? b = some o :=
    fun b o hb q => (Heap.get?_update_other _ _ (Ne.symm hb)).trans (Heap.get?_push_of_some _ q)
  have apart : ∀ b o, s.heap.get? b = some o → (∀ ws, o.data ≠ .fields ws) → b ≠ e := fun b o hb hn q => by
    rw [q, he] at hb; injection hb with hb; subst hb; exact hn vs rfl
  refine ⟨fun b o hb => keep b o (fun q => by rw [q, hen] at hb; cases hb) (k₁ b o hb), hl.of_keeps fun b o hb hn => ?_, ⟨_, h₁.objs.size, _, _, e₃, by simp [hsz], k₁.fresh, hT, T₃, rfl, by rcases hpl with rfl | ⟨_, _, _, _, _, _, _, rfl⟩ <;> simp⟩, fun b o hb hn => ?_⟩
  · obtain ⟨sl, hs⟩ := hs₁.2.2 b o hb
    exact ⟨_, keep b _ (apart b o hb hn) hs, rfl⟩
  · obtain ⟨sl, hs⟩ := hs₁.2.2 b o hb
    exact ⟨sl, keep b _ (apart b o hb hn) hs⟩

theorem noteD_first {base : Heap} {env : Env} {outer : List Env} {L e C dx T : Addr} {Q : Unit → Shared → Prop}
    (hfr : A.frames = some (env :: outer)) (hl : s.heap.FunFrames base (env :: outer)) (hf : env.frame = some L) (he : s.heap.get? e = some (excObj C T (some dx))) (hkb : base.StaysIn s.heap) (hen : base.get? e = none)
    (h : ∀ h', StateD base (env :: outer) e C dx (rawInt L) s.heap h' → Q () { s with heap := h' }) : wpAny M A (noteFrame (.ref e) env) Q E s := by
  unfold noteFrame
  simp only [hf]
  refine wpAny_bind (wpAny_field he rfl (x := .none) rfl ?_)
  rw [if_neg (by decide)]
  exact entryD hfr hl hf he hkb hen (by show 1 < 6; decide) h

theorem noteD_next {base : Heap} {env : Env} {outer : List Env} {L e C dx : Addr} {Q : Unit → Shared → Prop}
    (hfr : A.frames = some (env :: outer)) (hl : s.heap.FunFrames base (env :: outer)) (hf : env.frame = some L) (ht : TracedD s.heap base e C dx .none) (hkb : base.StaysIn s.heap) (hen : base.get? e = none)
    (h : ∀ h', StateD base (env :: outer) e C dx (rawInt L) s.heap h' → Q () { s with heap := h' }) : wpAny M A (noteFrame (.ref e) env) Q E s := by
  obtain ⟨vs, Tb, oT, ts, he, h1, hnT, hTe, hT, hdT, h3⟩ := ht
  unfold noteFrame
  simp only [hf]
  refine wpAny_bind (wpAny_field he rfl h1 ?_)
  rw [if_pos (show (Value.ref Tb != Value.none) = true from by simp)]
  refine wpAny_bind (wpAny_field hT hdT h3 ?_)
  rw [if_neg (show ¬ ((Value.none == rawInt L) = true) from by simp [rawInt])]
  refine wpAny_bind (wpAny_setField hT hdT (Array.getElem?_eq_some_iff.mp h3).1 ?_)
  have other : ∀ b, b ≠ Tb → (s.heap.update Tb (Obj.mapFields (·.setIfInBounds 3 Value.none))).get? b = s.heap.get? b := fun b hb => Heap.get?_update_other _ _ (Ne.symm hb)
  have apart : ∀ b o, s.heap.get? b = some o → (∀ ws, o.data ≠ .fields ws) → b ≠ Tb := fun b o hb hn q => by
    rw [q, hT] at hb; injection hb with hb; subst hb; exact hn ts hdT
  exact entryD hfr (hl.of_keeps fun b o hb hn => ⟨o, (other b (apart b o hb hn)).trans hb, rfl⟩) hf ((other e (Ne.symm hTe)).trans he)
    (fun b o hb => (other b fun q => by rw [q, hnT] at hb; cases hb).trans (hkb b o hb)) hen (Array.getElem?_eq_some_iff.mp h1).1
    fun h' ⟨x1, x2, x3, x4⟩ => h h' ⟨x1, x2, x3, fun b o hb hn => x4 b o ((other b (apart b o hb hn)).trans hb) hn⟩

theorem flightD {base : Heap} {l : List Env} {e C dx : Addr} {fl : Value} {fr : Option Addr} {Q : Unit → Shared → Prop}
    (hkb : base.StaysIn s.heap) (hl : s.heap.FunFrames base l) (ht : TracedD s.heap base e C dx fl)
    (h : ∀ h', StateD base l e C dx (fr.elim Value.none fun f => rawInt f) s.heap h' → Q () { s with heap := h' }) :
    wpAny M A (setFlight (.ref e) fr) Q E s := by
  obtain ⟨vs, Tb, oT, ts, he, h1, hnT, hTe, hT, hdT, h3⟩ := ht
  have hsz : 3 < ts.size := (Array.getElem?_eq_some_iff.mp h3).1
  have other : ∀ b, b ≠ Tb → (s.heap.update Tb (Obj.mapFields (·.setIfInBounds 3 (fr.elim Value.none fun f => rawInt f)))).get? b = s.heap.get? b := fun b hb => Heap.get?_update_other _ _ (Ne.symm hb)
  have apart : ∀ b o, s.heap.get? b = some o → (∀ ws, o.data ≠ .fields ws) → b ≠ Tb := fun b o hb hn q => by
    rw [q, hT] at hb; injection hb with hb; subst hb; exact hn ts hdT
  unfold setFlight
  refine wpAny_bind (wpAny_field he rfl h1 ?_)
  rw [if_pos (show (Value.ref Tb != Value.none) = true from by simp)]
  refine wpAny_setField hT hdT hsz (h _ ⟨fun b o hb => (other b fun q => by rw [q, hnT] at hb; cases hb).trans (hkb b o hb), hl.of_keeps fun b o hb hn => ⟨o, (other b (apart b o hb hn)).trans hb, rfl⟩, ?_, fun b o hb hn => ⟨o.slots, (other b (apart b o hb hn)).trans hb⟩⟩)
  exact ⟨vs, Tb, _, _, (other e (Ne.symm hTe)).trans he, h1, hnT, hTe, Heap.get?_update_self _ hT (Obj.isFreed_of_fields (Obj.data_mapFields hdT _)), Obj.data_mapFields hdT _, by simp [hsz]⟩

def FlyD (base : Heap) (l : List Env) (e C dx : Addr) (fl : Value) (h : Heap) : Prop := base.StaysIn h ∧ base.get? e = none ∧ h.FunFrames base l ∧ TracedD h base e C dx fl

theorem leavingD {base : Heap} {env : Env} {outer : List Env} {L e C dx : Addr} {h₁ : Heap} {Q : Unit → Shared → Prop} (hen : base.get? e = none)
    (hn : ∀ {Q' : Unit → Shared → Prop}, (∀ h', StateD base (env :: outer) e C dx (rawInt L) h₁ h' → Q' () { s with heap := h' }) → wpAny M A (noteFrame (.ref e) env) Q' E s)
    (h : ∀ h', FlyD base outer e C dx .none h' → h₁.UpToSlots h' → Q () { s with heap := h' }) : wpAny M A (leaving env (.ref e)) Q E s := by
  unfold leaving
  refine wpAny_bind (hn fun h' x => ?_)
  obtain ⟨x1, x2, x3, x4⟩ := x
  refine flightD (fr := none) (l := env :: outer) x1 x2 x3 fun h'' y => ?_
  obtain ⟨y1, ⟨_, _, y2⟩, y3, y4⟩ := y
  exact h h'' ⟨y1, hen, y2, y3⟩ (x4.trans y4)
end

/-- in flight above the frames l; the ledger stands -/
def RaisedD (base G : Heap) (l : List Env) (e C dx : Addr) (news : List (Addr × Obj)) (h : Heap) : Prop :=
  ∃ B, base.StaysIn B ∧ (∀ b o, G.get? b = some o → b ∉ l.filterMap (·.frame) → B.get? b = some o) ∧ (∀ q ∈ news, B.get? q.1 = some q.2 ∧ G.get? q.1 = none ∧ base.get? q.1 = none) ∧ FlyD B l e C dx .none h

section
variable {M : Model} {A : Around} {E : Value → Shared → Prop} {s' : Shared} {base g g₂ : Heap} {outer : List Env} {L a e C dx T : Addr} {m : Str → Option Value} {name : Str} {scope : Scope} {cd : Value} {Q : Unit → Shared → Prop} {news : List (Addr × Obj)}
theorem leave_firstD (K : Below A base outer g) (F : Fr g L s'.heap m) (N : News g L s'.heap news) (he : s'.heap.get? e = some (excObj C T (some dx))) (heL : e ≠ L) (hge : g.get? e = none) (hne : ∀ p ∈ news, p.1 ≠ e)
    (hQ : ∀ h', RaisedD base g outer e C dx news h' → g.UpToSlots h' → Q () { s' with heap := h' }) (hk : scope.kind = .function := by rfl) :
    wpAny M (A.deeper (envOf name scope L a cd)) (leaving (envOf name scope L a cd) (.ref e)) Q E s' := by
  have K' := K.push (name := name) (a := a) (cd := cd) F hk
  have hin : ∀ env ∈ (envOf name scope L a cd :: outer), ∀ b, env.frame = some b → b ∈ e :: (envOf name scope L a cd :: outer).filterMap (·.frame) := fun env he b hb => .tail _ (List.mem_filterMap.mpr ⟨env, he, hb⟩)
  have hbe : base.get? e = none := fresh_of_stays K.stays hge
  have st : base.StaysIn (hideAll s'.heap (e :: (envOf name scope L a cd :: outer).filterMap (·.frame))) := fun b o q => hideAll_get _ (K'.stays b o q) fun hm => by
    rcases List.mem_cons.mp hm with rfl | hm
    · rw [hbe] at q; cases q
    · rw [(K'.frames.mem hm).1] at q; cases q
  have sg : ∀ b o, g.get? b = some o → b ∉ outer.filterMap (·.frame) → (hideAll s'.heap (e :: (envOf name scope L a cd :: outer).filterMap (·.frame))).get? b = some o := fun b o q nm => hideAll_get _ (F.keep b o q) fun hm => by
    rcases List.mem_cons.mp hm with rfl | hm
    · rw [hge] at q; cases q
    · rcases kts_mem hm with z | z
      · rw [z, kts_self F] at q; cases q
      · exact nm z
  have hl : ∀ q ∈ news, (hideAll s'.heap (e :: (envOf name scope L a cd :: outer).filterMap (·.frame))).get? q.1 = some q.2 ∧ g.get? q.1 = none ∧ base.get? q.1 = none := fun q hq => by
    refine ⟨hideAll_get _ (N q hq).1 fun hm => ?_, (N q hq).2.2, fresh_of_stays K.stays (N q hq).2.2⟩
    rcases List.mem_cons.mp hm with z | hm
    · exact hne q hq z
    · obtain ⟨env, he, hf⟩ := List.mem_filterMap.mp hm
      rcases List.mem_cons.mp he with rfl | he
      · exact (N q hq).2.1 (Option.some.inj hf).symm
      · obtain ⟨o, ho, _⟩ := (K.frames.mem (List.mem_filterMap.mpr ⟨env, he, hf⟩)).2
        rw [(N q hq).2.2] at ho; cases ho
  have hBe := hideAll_none (h := s'.heap) (e :: (envOf name scope L a cd :: outer).filterMap (·.frame)) (List.mem_cons_self (a := e))
  exact leavingD (h₁ := s'.heap) (L := L) hBe (fun k => noteD_first K'.stack (funFrames_hide K'.frames hin) rfl he (fun b o q => of_hideAll _ q) hBe k) fun h' y u =>
    hQ h' ⟨_, st, sg, hl, y⟩ ((Heap.UpToSlots.of_keeps F.keep).trans u)

theorem leave_onD (K : Below A base outer g) (F : Fr g L g₂ m) (R : RaisedD base g₂ (envOf name scope L a cd :: outer) e C dx news s'.heap) (hsm : g₂.UpToSlots s'.heap)
    (hQ : ∀ h', RaisedD base g outer e C dx news h' → g.UpToSlots h' → Q () { s' with heap := h' }) :
    wpAny M (A.deeper (envOf name scope L a cd)) (leaving (envOf name scope L a cd) (.ref e)) Q E s' := by
  obtain ⟨B, hB, hBG, hl, k1, k2, k3, k4⟩ := R
  exact leavingD (h₁ := s'.heap) (L := L) k2 (fun k => noteD_next (Around.frames_deeper K.stack) k3 rfl k4 k1 k2 k) fun h' y u =>
    hQ h' ⟨B, hB, fun b o q nm => hBG b o (F.keep b o q) (fun hm => by
      rcases kts_mem hm with z | z
      · rw [z, kts_self F] at q; cases q
      · exact nm z), fun q hq => ⟨(hl q hq).1, kts_none F.keep (hl q hq).2.1, (hl q hq).2.2⟩, y⟩ ((Heap.UpToSlots.of_keeps F.keep).trans (hsm.trans u))
end

section
variable {prog : Program} {w : World} {A₀ : Around} {E : Value → Shared → Prop} {s' : Shared} {base g g₀ G : Heap} {outer : List Env} {L a e C dx : Addr} {m : Str → Option Value} {name : Str} {scope : Scope} {cd : Value}
  {n : Str} {b₀ : Stmt} {suite : List Stmt} {pos np : Pos} {rest : List ExceptHandler} {Q : Flow → Shared → Prop} {news : List (Addr × Obj)} {KF : Frag}
  {p : Program} {loose : List Str} {mean : ExcName → Option Value} {mg mb : Str → Option Value} {x : Str}

theorem caught_D (R : RaisedD base G (envOf name scope L a cd :: outer) e C dx news s'.heap) (F : Fr g L G m) (K : Below A₀ base outer g) (hsm : G.UpToSlots s'.heap) (XB : KF.In base) (TB : Top p loose mean mg mb base)
    (D : KtsDicts (outer.filterMap (·.frame)) g) (T0 : KtsTurn (outer.filterMap (·.frame)) g₀ g)
    (ex : nsIn KF mainGlobals x = some (some (.ref C))) (q : ktsIn KF C "BaseException" = true)
    (k : ∀ h' g' tk vs, KtsTurn (outer.filterMap (·.frame)) g₀ g' → Fr g' L h' (fun y => if y = n then some (.ref e) else m y) → News g' L h' ((e, (⟨.ref C, some dx, .fields vs, #[]⟩ : Obj)) :: news) → Below A₀ base outer g' → KF.In g' → Top p loose mean mg mb g' → KtsDicts (outer.filterMap (·.frame)) g' →
      wpAny (model prog w) ((A₀.deeper (envOf name scope L a cd)).mark (some (.ref e))) (execs (b₀ :: suite) (envOf name scope L a cd))
        (fun f s₄ => wpAny (model prog w) (A₀.deeper (envOf name scope L a cd)) (do bindName (envOf name scope L a cd) n .none; unbindBehindTheSuite (envOf name scope L a cd) n pos) (fun _ s₅ => Q f s₅) E s₄)
        (AsSuiteRaised (model prog w) ((A₀.deeper (envOf name scope L a cd)).mark (some (.ref e))) (envOf name scope L a cd) n pos (notedBy (model prog w) ((A₀.deeper (envOf name scope L a cd)).mark (some (.ref e))) (envOf name scope L a cd) (cameBackBy (model prog w) (A₀.deeper (envOf name scope L a cd)) (envOf name scope L a cd) E)))
        { s' with heap := h', toks := tk })
    (hk : scope.kind = .function := by rfl) (hlo : (envOf name scope L a cd).kindOf n = some .local := by rfl) (hx : (envOf name scope L a cd).kindOf x = some .globalImplicit := by rfl) (hd : (x == ("__debug__" : Str)) = false := by decide) :
    wpAny (model prog w) (A₀.deeper (envOf name scope L a cd)) (noteFrame (.ref e) (envOf name scope L a cd))
      (fun _ s₂ => wpAny (model prog w) (A₀.deeper (envOf name scope L a cd)) (setFlight (.ref e) none) (fun _ s₃ =>
        wpAny (model prog w) (A₀.deeper (envOf name scope L a cd)) (handleBy (.ref e) (envOf name scope L a cd) (.ExceptHandler (some (.Name x np)) (some n) (b₀ :: suite) pos :: rest)) Q E s₃) E s₂) E s' := by
  obtain ⟨B, hB, hBG, hl, f1, f2, f3, f4⟩ := R
  have hL : B.get? L = none := by
    obtain ⟨_, ⟨L', _, hf, hn', _⟩, _⟩ := f3
    obtain rfl : L = L' := Option.some.inj hf
    exact hn'
  refine noteD_next (Around.frames_deeper K.stack) f3 rfl f4 f1 f2 fun h₄ y₄ => ?_
  obtain ⟨y1, y2, y3, y4⟩ := y₄
  refine flightD (fr := none) y1 y2 y3 fun h₅ z₅ => ?_
  obtain ⟨z1, z2, z3, z4⟩ := z₅
  have hsm₅ := hsm.trans (y4.trans z4)
  obtain ⟨g₅, T₅, F₅, K₅⟩ := kts_ground K F hBG z1 hsm₅
  have X₅ : KF.In g₅ := XB.keeps K₅.stays
  have P₅ : TopRead p loose mg mb g₅ := topRead_of (TB.keeps K₅.stays)
  obtain ⟨nm, q', N, bs, bm, hdct, sn, sub, ab, col, dd, k0, k1, k2, k3, k5, newId, hC, hbase, hbT⟩ := kts_cls X₅ q
  have hC₅ := F₅.keep _ _ hC
  have hob := z3
  obtain ⟨ws, _, _, _, hoe, _⟩ := hob
  refine wpAny_handleBy_cons (codeAny_handlers_test (name_K F₅ X₅ P₅ ex ?_ hk hx hd)) (by intro q; cases q)
  refine wpAny_excMatches_sub_self hC₅ hoe rfl hbase (codeAny_handlers_suite_as ?_)
  refine flightD (fr := none) z1 z2 z3 fun h₆ u₆ => ?_
  obtain ⟨u1, u2, u3, u4⟩ := u₆
  have hsm₆ := hsm₅.trans u4
  obtain ⟨g₆, T₆, F₆, K₆⟩ := kts_ground K F hBG u1 hsm₆
  obtain ⟨vs, _, _, _, hoe₆, _⟩ := u3
  have ne₆ : g₆.get? e = none := T₆.none_ _ (kts_fresh F hBG f2 fun o ho m => by
    obtain ⟨_, o', ho', hd⟩ := K.frames.mem m
    rw [ho] at ho'
    cases ho'
    obtain ⟨sl, hs⟩ := hsm₆ _ _ (F.keep _ _ ho) hd
    rw [hoe₆] at hs
    exact hd vs (congrArg Obj.data (Option.some.inj hs)).symm)
  have N₆ : News g₆ L h₆ ((e, (⟨.ref C, some dx, .fields vs, #[]⟩ : Obj)) :: news) := fun q hq => by
    rcases List.mem_cons.mp hq with rfl | hq
    · refine ⟨hoe₆, fun z => ?_, ne₆⟩
      obtain ⟨oL, es, ep, hoL, hdL, _⟩ := F₆.ns
      have z' : e = L := z
      rw [← z', hoe₆] at hoL
      have z₂ := Option.some.inj hoL
      rw [← z₂] at hdL
      cases hdL
    · exact ⟨u1 _ _ (hl q hq).1, (fun z => by have := (hl q hq).1; rw [z, hL] at this; cases this), T₆.none_ _ (kts_none F.keep (hl q hq).2.1)⟩
  have X₆ : KF.In g₆ := XB.keeps K₆.stays
  have P₆ : Top p loose mean mg mb g₆ := TB.keeps K₆.stays
  have D₆ : KtsDicts (outer.filterMap (·.frame)) g₆ := D.turn T₆
  refine stN F₆ N₆ (fun h₇ F₇ N₇ => ?_) hk hlo
  exact k h₇ g₆ _ _ (T0.trans T₆) F₇ N₇ K₆ X₆ P₆ D₆
end

def RaisesD (E : Value → Shared → Prop) (v : Value) (s : Shared) : Prop :=
  ∃ e C T dx K, v = .ref e ∧ s.heap.get? e = some (excObj C T (some dx)) ∧ Frag.In K s.heap ∧ mroIn K C (.type "BaseException") = some true ∧ typeIn K (.ref C) = some (.type "type") ∧ E (.ref e) s
theorem raise_own {M : Model} {A : Around} {E : Value → Shared → Prop} {Q : Flow → Shared → Prop} {s : Shared} {env : Env} {x : PySem.Expr} {pos : Pos} (hh : A.handled = none) (h : wpAny M A (eval x env) (RaisesD E) E s) :
    wpAny M A (exec (.Raise (some x) none pos) env) Q E s := by
  rw [arm_exec_Raise]
  refine wpAny_bind (wpAny_standAt ?_)
  show wpAny M A (raiseStmt env (some (eval x env >>= fun v => standAt pos >>= fun _ => pure v)) none) _ _ _
  unfold raiseStmt
  refine wpAny_bind (wpAny_bind (wpAny_mono h (fun v s₁ h₁ => ?_) fun _ _ z => z))
  obtain ⟨e, C, T, dx, K, rfl, he, X, hb, ht, hE⟩ := h₁
  have Lb : Looks M s₁.heap (isSubtype (.ref C) (.type "BaseException")) true := looks_mroIn X hb
  have Lt : Looks M s₁.heap (typeOf (.ref C)) (.type "type") := looks_typeIn X ht
  obtain ⟨hp, g, d, tk, os⟩ := s₁
  refine wpAny_bind (wpAny_standAt (wpAny_pure ?_))
  unfold excFromValue raisedInstance
  repeat (first | (with_reducible refine wpAny_loadPart_at he ?_) | (with_reducible refine Looks.at Lb ?_) | (with_reducible refine Looks.at Lt ?_) | wp_step | dsimp only)
  exact wpAny_raiseNew_none hh hE

theorem ns_of_in {K : Frag} {h : Heap} {N : Addr} {mg : Str → Option Value} {n : Str} {v : Value} (X : K.In h) (G : h.Ns N mg) (e : nsIn K N n = some (some v)) : mg n = some v := by
  obtain ⟨o, es, ep, ho, hd, _, hf⟩ := G
  unfold nsIn at e
  split at e
  · rename_i c d es' n' sl q
    have z := X _ _ q
    rw [ho] at z
    cases z
    cases hd
    split at e
    · rename_i en he
      cases e
      rw [← hf]
      unfold nsFind findBy
      rw [← Array.find?_toList, he]
      rfl
    · split at e <;> cases e
  · cases e
def excMk (K : Frag) (C fI : Addr) : Bool := match K.lookup C with
  | some ⟨.type "type", _, .cls cd, sl⟩ => (match cd.mro, sl.toList with
    | .ref C' :: bm, [_, _, _, _, some (.builtin n), _] => C' == C && n == "Exception.__new__" && !cd.hasDel && bm.contains (.type "Exception") && !bm.contains (.type "AttributeError") && !bm.contains (.type "NameError") && nsOkIn K cd.ns && nsIn K cd.ns "__init__" == some (some (.ref fI)) && typeIn K (.ref fI) == some (.type "function")
    | _, _ => false)
  | _ => false

theorem exc_call_K {prog : Program} {w : World} {A : Around} {E : Value → Shared → Prop} {s : Shared} {K : Frag} {C fI : Addr} {h₀ : Heap} {L : Addr} {m : Str → Option Value} {news : List (Addr × Obj)} {rest : List Value} {Q : Value → Shared → Prop}
    (F : Fr h₀ L s.heap m) (X₀ : K.In h₀) (N : News h₀ L s.heap news) (q : excMk K C fI = true) (hrest : rest.length ≤ sizeLine)
    (hq : ∀ h' e T, Fr h₀ L h' m → News h₀ L h' ((e, excObj C T none) :: (T, tupObj rest) :: news) → T ≠ e → (∀ p ∈ news, p.1 ≠ e) →
      wpAny (model prog w) (A.under (.builtin "type.__call__" ⟨.ref C :: rest, []⟩)) (call (.ref fI) (.ref e :: rest)) (fun r s' => r = .none ∧ Q (.ref e) s') E { s with heap := h' }) :
    wpAny (model prog w) A (call (.ref C) rest) Q E s := by
  have X : K.In s.heap := X₀.keeps F.keep
  obtain ⟨hh, g, d, t, os⟩ := s
  unfold excMk at q
  split at q
  · rename_i dd cd sl ho
    split at q
    · rename_i C' bm k0 k1 k2 k3 n k5 hm hs
      simp only [Bool.and_eq_true, beq_iff_eq, Bool.not_eq_true'] at q
      obtain ⟨⟨⟨⟨⟨⟨⟨⟨rfl, rfl⟩, hdel⟩, hB⟩, hA⟩, hN⟩, hns⟩, hi⟩, hf⟩ := q
      obtain ⟨nm, bs, mro, ns, qn, hd, sn, sub, ab, col, del⟩ := cd
      dsimp only at hm hdel hns hi
      subst hm hdel
      have hsl : sl = #[k0, k1, k2, k3, some (.builtin "Exception.__new__"), k5] := by
        obtain ⟨l⟩ := sl
        simp only at hs
        rw [hs]
      subst hsl
      obtain ⟨of, hof, hfc⟩ : ∃ of, hh.get? fI = some of ∧ of.cls = .type "function" := by
        have hf' : (K.lookup fI).map (·.cls) = some (.type "function") := hf
        cases z : K.lookup fI with
        | none => rw [z] at hf'; cases hf'
        | some of => rw [z] at hf'; exact ⟨of, X _ _ z, Option.some.inj hf'⟩
      have hNs := Heap.Ns.of_isNs (isNs_of_in X hns)
      have hmN : hh.nsMap ns "__init__" = some (.ref fI) := ns_of_in X hNs hi
      refine exc_call hB hA hN (X _ _ ho) hNs hmN hof hfc (fun h' e hm => ?_) hrest
      obtain ⟨k, hnew, T, he, hT, hTo⟩ := hm
      have ne : T ≠ e := fun z => by rw [z, he] at hTo; cases hTo
      have nl : ∀ p ∈ news, p.1 ≠ e := fun p hp z => by have := (N p hp).1; rw [z, hnew] at this; cases this
      have fresh : ∀ b, hh.get? b = none → b ≠ L ∧ h₀.get? b = none := fun b hb => by
        refine ⟨fun z => ?_, ?_⟩
        · obtain ⟨oL, _, _, hoL, _⟩ := F.ns
          rw [z, hoL] at hb; cases hb
        · cases z : h₀.get? b with
          | none => rfl
          | some o => rw [F.keep _ _ z] at hb; cases hb
      refine hq h' e T (F.keeps k) (fun p hp => ?_) ne nl
      rcases List.mem_cons.mp hp with rfl | hp
      · exact ⟨he, fresh _ hnew⟩
      · rcases List.mem_cons.mp hp with rfl | hp
        · exact ⟨hTo, fresh _ hT⟩
        · exact ⟨k _ _ (N p hp).1, (N p hp).2⟩
    · cases q
  · cases q

theorem leave_first2 {M : Model} {A : Around} {E : Value → Shared → Prop} {s' : Shared} {base g : Heap} {outer : List Env} {L a e C dx T : Addr} {m : Str → Option Value} {name : Str} {scope : Scope} {cd : Value} {Q : Unit → Shared → Prop} {news : List (Addr × Obj)} {es : List DictEntry} {n : Nat}
    (K : Below A base outer g) (F : Fr g L s'.heap m) (N : News g L s'.heap ((dx, dictOf es n) :: (e, excObj C T (some dx)) :: news)) (hne : ∀ p ∈ news, p.1 ≠ e)
    (hQ : ∀ h', RaisedD base g outer e C dx ((dx, dictOf es n) :: news) h' → g.UpToSlots h' → Q () { s' with heap := h' }) (hk : scope.kind = .function := by rfl) :
    wpAny M (A.deeper (envOf name scope L a cd)) (leaving (envOf name scope L a cd) (.ref e)) Q E s' := by
  have he := N (e, _) (.tail _ (.head _))
  have hd := N (dx, _) (.head _)
  refine leave_firstD K F (news := (dx, dictOf es n) :: news) (cb_drop N (List.forall_mem_cons.mpr ⟨.head _, fun p hp => .tail _ (.tail _ hp)⟩)) he.1 he.2.1 he.2.2 (List.forall_mem_cons.mpr ⟨fun z => ?_, hne⟩) hQ hk
  have z' : dx = e := z
  have h1 := hd.1
  rw [z'] at h1
  have h2 := h1.symm.trans he.1
  have h3 := congrArg Obj.data (Option.some.inj h2)
  cases h3
theorem RaisedD.sub {base G : Heap} {l : List Env} {e C dx : Addr} {news news' : List (Addr × Obj)} {h : Heap} (R : RaisedD base G l e C dx news h) (hs : ∀ p ∈ news', p ∈ news) : RaisedD base G l e C dx news' h := by
  obtain ⟨B, a, b, c, d⟩ := R
  exact ⟨B, a, b, fun q hq => c q (hs q hq), d⟩

end
local macro_rules | `(tactic| k_room) => `(tactic| ktr_room)
local macro_rules | `(tactic| k_inst) => `(tactic| first | (refine' inst_exc0 ?N ?h1; (case N => k_asm); (case h1 => k_mem)) | (refine' inst_exc1 ?N ?h1 ?h2; (case N => k_asm); (case h1 => k_mem); (case h2 => k_mem)))
local macro_rules | `(tactic| walk_at "my_sub") => `(tactic| first
  | exact List.forall_mem_nil _
  | (refine' List.forall_mem_cons.mpr ⟨?a, ?b⟩; (case a => k_mem); (case b => walk_at "my_sub"))
  | exact fun _ h => h
  | (intro p hp; (repeat' (first | exact hp | refine List.Mem.tail _ ?_)); done))
local macro_rules | `(tactic| walk_at "my_and") => `(tactic| first
  | with_reducible assumption
  | (refine' And.left (b := _) ?h; with_reducible assumption)
  | (refine' And.right (a := _) ?h; with_reducible assumption)
  | (refine' And.left (b := _) (And.right (a := _) ?h); with_reducible assumption)
  | (refine' And.right (a := _) (And.right (a := _) ?h); with_reducible assumption)
  | (refine' And.left (b := _) (And.right (a := _) (And.right (a := _) ?h)); with_reducible assumption)
  | (refine' And.right (a := _) (And.right (a := _) (And.right (a := _) ?h)); with_reducible assumption)
  | (refine' And.left (b := _) (And.right (a := _) (And.right (a := _) (And.right (a := _) ?h))); with_reducible assumption)
  | (refine' And.right (a := _) (And.right (a := _) (And.right (a := _) (And.right (a := _) ?h))); with_reducible assumption)
  | (refine' And.left (b := _) (And.right (a := _) (And.right (a := _) (And.right (a := _) (And.right (a := _) ?h)))); with_reducible assumption)
  | (refine' And.right (a := _) (And.right (a := _) (And.right (a := _) (And.right (a := _) (And.right (a := _) ?h)))); with_reducible assumption)
  | (refine' And.left (b := _) (And.right (a := _) (And.right (a := _) (And.right (a := _) (And.right (a := _) (And.right (a := _) ?h))))); with_reducible assumption)
  | (refine' And.right (a := _) (And.right (a := _) (And.right (a := _) (And.right (a := _) (And.right (a := _) (And.right (a := _) ?h))))); with_reducible assumption)
  | (refine' And.left (b := _) (And.right (a := _) (And.right (a := _) (And.right (a := _) (And.right (a := _) (And.right (a := _) (And.right (a := _) ?h)))))); with_reducible assumption)
  | (refine' And.right (a := _) (And.right (a := _) (And.right (a := _) (And.right (a := _) (And.right (a := _) (And.right (a := _) (And.right (a := _) ?h)))))); with_reducible assumption)
  | (refine' And.left (b := _) (And.right (a := _) (And.right (a := _) (And.right (a := _) (And.right (a := _) (And.right (a := _) (And.right (a := _) (And.right (a := _) ?h))))))); with_reducible assumption)
  | (refine' And.right (a := _) (And.right (a := _) (And.right (a := _) (And.right (a := _) (And.right (a := _) (And.right (a := _) (And.right (a := _) (And.right (a := _) ?h))))))); with_reducible assumption)
  | (refine' And.left (b := _) (And.right (a := _) (And.right (a := _) (And.right (a := _) (And.right (a := _) (And.right (a := _) (And.right (a := _) (And.right (a := _) (And.right (a := _) ?h)))))))); with_reducible assumption)
  | (refine' And.right (a := _) (And.right (a := _) (And.right (a := _) (And.right (a := _) (And.right (a := _) (And.right (a := _) (And.right (a := _) (And.right (a := _) (And.right (a := _) ?h)))))))); with_reducible assumption))
local macro_rules | `(tactic| k_mem) => `(tactic| with_reducible assumption)
local macro_rules | `(tactic| k_all) => `(tactic| first | with_reducible assumption | (refine allLt_ne ?_; walk_at "my_and"))
local macro_rules | `(tactic| walk_at "subscriptTail") => `(tactic| ((with_reducible show wpAny _ _ (subscriptTail _ _ (Value.str _ _) (Value.int _ _)) _ _ _); (refine item_str (fitsSsize_of (N := 9223372036854775808) (by omega) (by omega) (Int.le_refl _)) (by omega) (by omega) ?_); intro _))
local macro_rules | `(tactic| walk_at "exec While Constant cons nil") => `(tactic| refine stop_of ?_)
local macro_rules | `(tactic| walk_at "exec While Compare cons nil") => `(tactic| refine stop_of ?_)
local macro_rules | `(tactic| walk_at "exec While BoolOp cons nil") => `(tactic| refine stop_of ?_)
local macro_rules | `(tactic| walk_at "KswEnd") => `(tactic| refine stop_of ?_)
local macro_rules | `(tactic| walk_at "exec Raise some none") => `(tactic| ((with_reducible show wpAny _ _ (exec (Stmt.Raise (some (Expr.Call (Expr.Name ("SyntaxFault" : Str) _) _ _ _)) none _) _) _ _ _); refine raise_own rfl ?_))
local macro_rules | `(tactic| walk_at "my_room") => `(tactic| first | omega | ((try simp only [depth_under_make, depth_under_kw, depth_in1, depth_deeper, depth_caller, units_in1, units_deeper, Around.mark_units, units_caller] at *); (try dsimp only [ktrTop] at *); omega))
local macro_rules | `(tactic| walk_at "my_kind") => `(tactic| first | assumption | exact rfl)
local macro_rules | `(tactic| walk_at "RaisesD") => `(tactic| ((rename Fr _ _ _ _ => kF); (rename News _ _ _ _ => kN); refine' ⟨_, 76, _, _, _, rfl, (kN _ (.tail _ (.head _))).1, Frag.In.keeps ?m0 kF.keep, ?m1, ?m2, ?_⟩; (case m0 => k_asm); (case m1 => k_is); (case m2 => k_is)))
local macro_rules | `(tactic| walk_at "leaving ref") => `(tactic| (refine' leave_first2 ?k1 ?k2 ?k3 ?k4 ?_; (case k1 => k_asm); (case k2 => k_asm); (case k3 => k_asm); (case k4 => assumption); intro h' R' U'; (try dsimp only at R' U' ⊢)))
local macro_rules | `(tactic| walk_at "my_lts") => `(tactic| first
  | assumption
  | ((with_reducible rename _ ∧ AllLt _ _ => l9); first | exact allLt_mem l9 | exact allLt_mem l9.2 | exact allLt_mem l9.2.2 | exact allLt_mem l9.2.2.2 | exact List.forall_mem_cons.mpr ⟨l9.1, allLt_mem l9.2.2⟩ | exact List.forall_mem_cons.mpr ⟨l9.1, List.forall_mem_cons.mpr ⟨l9.2.1, allLt_mem l9.2.2.2⟩⟩)
  | ((with_reducible rename _ ∧ _ ∧ AllLt _ _ => l9); first | exact allLt_mem l9 | exact allLt_mem l9.2 | exact allLt_mem l9.2.2 | exact allLt_mem l9.2.2.2 | exact List.forall_mem_cons.mpr ⟨l9.1, allLt_mem l9.2.2⟩ | exact List.forall_mem_cons.mpr ⟨l9.1, List.forall_mem_cons.mpr ⟨l9.2.1, allLt_mem l9.2.2.2⟩⟩)
  | ((with_reducible rename _ ∧ _ ∧ _ ∧ AllLt _ _ => l9); first | exact allLt_mem l9 | exact allLt_mem l9.2 | exact allLt_mem l9.2.2 | exact allLt_mem l9.2.2.2 | exact List.forall_mem_cons.mpr ⟨l9.1, allLt_mem l9.2.2⟩ | exact List.forall_mem_cons.mpr ⟨l9.1, List.forall_mem_cons.mpr ⟨l9.2.1, allLt_mem l9.2.2.2⟩⟩)
  | ((with_reducible rename _ ∧ _ ∧ _ ∧ _ ∧ AllLt _ _ => l9); first | exact allLt_mem l9 | exact allLt_mem l9.2 | exact allLt_mem l9.2.2 | exact allLt_mem l9.2.2.2 | exact List.forall_mem_cons.mpr ⟨l9.1, allLt_mem l9.2.2⟩ | exact List.forall_mem_cons.mpr ⟨l9.1, List.forall_mem_cons.mpr ⟨l9.2.1, allLt_mem l9.2.2.2⟩⟩))
local macro_rules | `(tactic| walk_at "leaving ref") => `(tactic| (k_dflt (refine' leave_onD ?k1 ?k2 ?k3 ?k4 ?_; (case k3 => assumption); (case k1 => k_asm); (case k2 => k_asm); (case k4 => assumption)); intro h' R' U'; (try dsimp only at R' U' ⊢)))
local macro_rules | `(tactic| walk_at "my_same") => `(tactic| (intro z h2 h3; first
  | ((simp only [List.forall_mem_cons, List.not_mem_nil, false_implies, implies_true, and_true, ne_eq] at h2); (simp only [List.contains_cons, List.contains_nil, Bool.or_false, Bool.or_eq_false_iff, beq_eq_false_iff_ne, ne_eq] at h3); (simp [kstB, h2, h3]; done))
  | ((simp only [List.forall_mem_cons, List.not_mem_nil, false_implies, implies_true, and_true, ne_eq] at h2); (simp [kstB, h2]; done))
  | ((simp only [List.contains_cons, List.contains_nil, Bool.or_false, Bool.or_eq_false_iff, beq_eq_false_iff_ne, ne_eq] at h3); (simp [kstB, h3]; done))))
local macro_rules | `(tactic| walk_at "my_same3") => `(tactic| (intro z h1 h2 h3; have h4 := h3; first
  | ((simp only [List.forall_mem_cons, List.not_mem_nil, false_implies, implies_true, and_true, ne_eq] at h2); (simp only [List.contains_cons, List.contains_nil, Bool.or_false, Bool.or_eq_false_iff, beq_eq_false_iff_ne, ne_eq] at h4); (simp [kstB, h1, h2, h3, h4]; done))
  | ((simp only [List.forall_mem_cons, List.not_mem_nil, false_implies, implies_true, and_true, ne_eq] at h2); (simp [kstB, h1, h2]; done))
  | ((simp only [List.contains_cons, List.contains_nil, Bool.or_false, Bool.or_eq_false_iff, beq_eq_false_iff_ne, ne_eq] at h4); (simp [kstB, h1, h3, h4]; done))))
section
theorem init_x {w : World} {mean : ExcName → Option Value} {mg mb : Str → Option Value} (dp un : Nat) (gd : Option (List Code)) (cn : Str) (cs : Scope) (a : Addr) (ccd : Value) (cl : List (Str × Addr)) (outer : List Env) (A₀ : Around) (base h₀ : Heap) (L : Addr) (m : Str → Option Value) (s : Shared) (Q E : Value → Shared → Prop)
   (e t0 : Addr) (t1 t2 : Tok) (t : Str) (i : Int) (rest : List (Addr × Obj))
   (B : Below A₀ base outer h₀) (F : Fr h₀ L s.heap m) (X : (hd.heap_39 w.params).In h₀) (N : News h₀ L s.heap ((e, excObj 76 t0 none) :: (t0, tupObj [.str t t1, .int i t2]) :: rest))
   (T : Top hd.view_39 (looseW hd.view_39 [Str.ofString "SIMPLE"]) mean mg mb h₀) (hcs : cs.kind = .function) (hdp : dp + 10 < recursionLimit) (hun : un + 100 < cLine)
   (hne : t0 ≠ e) (hre : ∀ p ∈ rest, p.1 ≠ e)
   (ret : ∀ dx t0' k1 k2 h' tk', Fr h₀ L h' m → News h₀ L h' ((dx, dictOf [⟨PyData.keyHash w.params "what", .str "what" k1, .str t t1⟩, ⟨PyData.keyHash w.params "spot", .str "spot" k2, .int i t2⟩] 2) :: (e, excObj 76 t0' (some dx)) :: rest) → Q .none { s with heap := h', toks := tk' }) :
   wpAny (model Challenge.rw_qz0006_03.row.prog w) (ktrTop dp un gd cn cs L a ccd cl outer) (call (.ref 66) [.ref e, .str t t1, .int i t2]) Q E s := by
  w_top off
  revert X; k_fill; intro X
  refine wpAny_call ?_
  (refine' ks_code_super ?k1 ?k2 ?k3 ?k4 ?k5 ?kA ?kF ?kK ?k6 ?k7 ?k8 ?k9 ?kB ?_ ?c1 ?c2 ?c3 ?c4; (case kA => exact rfl); (case kF => exact rfl); (case kK => assumption); (case k1 => k_asm); (case k2 => k_asm); (case k3 => k_asm); (case k4 => k_asm); (case k5 => k_asm); (case k6 => k_is); (case k7 => k_is); (case k8 => ktr_room); (case k9 => exact BindsTo.of_eq rfl); (case kB => exact locs rfl); (case c1 => decide); (case c2 => exact rfl); (case c3 => exact rfl); (case c4 => exact rfl); intro g' L' h' FG' F' N' B' X' T' l1; (try k_lt l1); (try dsimp only); (try k_lift B'))
  k_steps
  (refine' sup_method_N ?k1 ?k2 ?k3 ?k4 ?k5 ?k6 ?k7 ?k8 ?k9 ?_; (case k1 => k_asm); (case k2 => k_asm); (case k3 => k_asm); (case k4 => k_mem); (case k5 => k_mem); (case k6 => rfl); (case k7 => k_is); (case k8 => ks_is); (case k9 => k_is))
  intro q1 h1 F1 N1 l2
  k_steps
  refine' mw_with (x := e) ?_
  k_steps
  · exact (N1 _ (.head _)).1
  k_lt l2
  refine' mw_call_N (pre := [(q1, mwObj e)]) (post := rest) (T := t0) (dx := none) F1 (by assumption) (cb_drop N1 (by walk_at "my_sub")) (.head _) (by k_all) hre ?k1 ?k2 (by size_fits) ?_; (case k1 => k_is); (case k2 => k_is)
  intro T1 h2 F2 N2 l3
  k_steps
  refine' set_first (pre := []) (post := rest) F2 (by assumption) (cb_drop N2 (by walk_at "my_sub")) ?k1 ?k2 ?k3 (List.forall_mem_nil _) hre ?_; (case k1 => k_is); (case k2 => kernel_rfl); (case k3 => k_is)
  intro dx h3 F3 N3 l4
  k_steps
  rename Fr _ _ _ _ => F4
  rename News _ _ _ _ => N4
  refine' set_next (x := e) (pre := []) (post := (e, excObj 76 T1 (some dx)) :: rest) F4 (by assumption) (cb_drop N4 (by walk_at "my_sub")) (.tail _ (.head _)) ?k1 ?k2 ?k3 (List.forall_mem_nil _) (List.forall_mem_cons.mpr ⟨Nat.ne_of_lt (l4 (e, excObj 76 T1 none) (.head _)), fun p hp => Nat.ne_of_lt (l4 p (.tail _ hp))⟩) rfl (es' := [⟨PyData.keyHash w.params "what", .str "what" _, .str t t1⟩, ⟨PyData.keyHash w.params "spot", .str "spot" _, .int i t2⟩]) (n := 2) ?k5 ?k6 ?_; (case k1 => k_is); (case k2 => kernel_rfl); (case k3 => k_is); (case k5 => rfl); (case k6 => exact Nat.le_of_ble_eq_true rfl)
  intro h5 F5 N5
  k_steps
  rename Fr _ _ _ _ => F6
  rename News _ _ _ _ => N6
  exact ret _ _ _ _ _ _ F6 N6

theorem fault_call {w : World} {mean : ExcName → Option Value} {mg mb : Str → Option Value} {dp un : Nat} {gd : Option (List Code)} {cn : Str} {cs : Scope} {a : Addr} {ccd : Value} {cl : List (Str × Addr)} {outer : List Env} {A₀ : Around} {base h₀ : Heap} {L : Addr} {m : Str → Option Value} {s : Shared} {Q E : Value → Shared → Prop}
   {t1 t2 : Tok} {t : Str} {i : Int} {news : List (Addr × Obj)}
   (B : Below A₀ base outer h₀) (F : Fr h₀ L s.heap m) (X : (hd.heap_39 w.params).In h₀) (N : News h₀ L s.heap news)
   (T : Top hd.view_39 (looseW hd.view_39 [Str.ofString "SIMPLE"]) mean mg mb h₀) (hcs : cs.kind = .function) (hdp : dp + 20 < recursionLimit) (hun : un + 200 < cLine)
   (ret : ∀ e T dx k1 k2 h' tk', Fr h₀ L h' m → News h₀ L h' ((dx, dictOf [⟨PyData.keyHash w.params "what", .str "what" k1, .str t t1⟩, ⟨PyData.keyHash w.params "spot", .str "spot" k2, .int i t2⟩] 2) :: (e, excObj 76 T (some dx)) :: news) → (∀ p ∈ news, p.1 ≠ e) → Q (.ref e) { s with heap := h', toks := tk' }) :
   wpAny (model Challenge.rw_qz0006_03.row.prog w) (ktrTop dp un gd cn cs L a ccd cl outer) (call (.ref 76) [.str t t1, .int i t2]) Q E s := by
  w_top off
  refine exc_call_K (K := hd.heap_39 w.params) (fI := 66) F X N (by kernel_rfl) (by size_fits) fun h' e T0 F1 N1 hne hre => ?_
  refine init_x (dp + 1) _ _ cn cs a ccd cl outer A₀ base h₀ L m { s with heap := h' } _ _ e T0 t1 t2 t i news B F1 X N1 T hcs (by omega) ?_ hne hre fun dx T1 k1 k2 h2 tk2 F2 N2 => ⟨rfl, ret e T1 dx k1 k2 h2 tk2 F2 N2 hre⟩
  show un + _ + 100 < cLine
  have : (Code.builtin "type.__call__" ⟨[.ref 76, .str t t1, .int i t2], []⟩).cUnits ≤ 50 := Nat.le_of_ble_eq_true rfl
  omega

end
section
local macro_rules | `(tactic| walk_at "call ref") => `(tactic| ((with_reducible show wpAny _ _ (call (Value.ref 76) [Value.str _ _, Value.int _ _]) _ _ _); (refine' fault_call ?k1 ?k2 ?k3 ?k4 ?k5 ?k6 ?k7 ?k8 ?_; (case k1 => k_asm); (case k2 => k_asm); (case k3 => k_asm); (case k4 => k_asm); (case k5 => k_asm); (case k6 => walk_at "my_kind"); (case k7 => walk_at "my_room"); (case k8 => walk_at "my_room")); intro e' T' dx' k3' k4' h' tk' F' N' l1; (try k_sweep)))
/-- the scanner's dict -/
abbrev scD (w : World) (k1 k2 t1 t2 : Tok) (t : Str) (i : Int) : Obj := dictOf [⟨PyData.keyHash w.params "text", .str "text" k1, .str t t1⟩, ⟨PyData.keyHash w.params "spot", .str "spot" k2, .int i t2⟩] 2
abbrev faultD (w : World) (k1 k2 : Tok) (z : Str) (kz : Tok) (i : Int) (ti : Tok) : Obj := dictOf [⟨PyData.keyHash w.params "what", .str "what" k1, .str z kz⟩, ⟨PyData.keyHash w.params "spot", .str "spot" k2, .int i ti⟩] 2
def signAt (t : Str) (i : Int) : Str := if i < (t.length : Int) then Txt.item t i else Str.ofString ""

theorem sign_call {w : World} {mean : ExcName → Option Value} {mg mb : Str → Option Value} {dp un : Nat} {gd : Option (List Code)} {cn : Str} {cs : Scope} {a : Addr} {ccd : Value} {cl : List (Str × Addr)} {outer : List Env} {A₀ : Around} {base h₀ : Heap} {L : Addr} {m : Str → Option Value} {s : Shared} {Q E : Value → Shared → Prop} {x dx : Addr} {k1 k2 t1 t2 : Tok} {t : Str} {i : Int} {news : List (Addr × Obj)} (B : Below A₀ base outer h₀) (F : Fr h₀ L s.heap m) (X : (hd.heap_39 w.params).In h₀) (T : Top hd.view_39 (looseW hd.view_39 [Str.ofString "SIMPLE"]) mean mg mb h₀) (hcs : cs.kind = .function) (N : News h₀ L s.heap news) (hdp : dp + 1 < recursionLimit) (hun : un + 8 < cLine)
   (hx : (x, instObj 172 dx) ∈ news) (hdx : (dx, scD w k1 k2 t1 t2 t i) ∈ news) (hi : 0 ≤ i) (hl : t.length ≤ 2000)
   (ret : ∀ v tk h' tk', v = signAt t i → Fr h₀ L h' m → News h₀ L h' news → Q (.str v tk) { s with heap := h', toks := tk' }) :
   wpAny (model Challenge.rw_qz0006_03.row.prog w) (ktrTop dp un gd cn cs L a ccd cl outer) (call (.ref 106) [.ref x]) Q E s := by
  w_top off
  revert X; k_fill; intro X; refine wpAny_call ?_; k_dflt cell_enter
  k_steps
  all_goals (rename Fr _ _ _ _ => kF; rename News _ _ _ _ => kN)
  · exact ret _ _ _ _ (if_pos (by assumption)).symm kF kN
  · exact ret _ _ _ _ (if_neg (by assumption)).symm kF kN

end
section
local macro_rules | `(tactic| walk_at "my_pad0") => `(tactic| skip)
local macro_rules | `(tactic| walk_at "my_pad1") => `(tactic| skip)
section
open PySem.Builtin PySem.Builtin.Str
/-- a text's signs -/
abbrev sg (t : Str) : List Nat := t.cps.toList
theorem sg_len (t : Str) : (sg t).length = t.length := Array.length_toList
theorem sg_inj {x y : Str} (h : sg x = sg y) : x = y := by cases x; cases y; simp only [Str.mk.injEq]; exact Array.toList_inj.mp h
theorem sg_app (x y : Str) : sg (x ++ y) = sg x ++ sg y := by unfold sg; rw [Str.cps_append, Array.toList_append]
theorem getD_sg (t : Str) (k d : Nat) : t.cps.getD k d = (sg t).getD k d := by simp [sg, Array.getD_eq_getD_getElem?, List.getD_eq_getElem?_getD]
theorem item_sg {t : Str} {i : Int} (h0 : 0 ≤ i) (h1 : i < (t.length : Int)) : Txt.item t i = ⟨#[(sg t).getD i.toNat 0]⟩ := by
  unfold Txt.item Txt.charAt seqIndex?
  have c : (0 ≤ i && i < (t.length : Int)) = true := by simp [h0, h1]
  have n : ¬ i < 0 := by omega
  simp only [n, if_false, c, if_true, Option.bind_some]
  congr 2
  simp [sg, List.getD_eq_getElem?_getD]
theorem slice_at {t : Str} {a b : Nat} (hab : a ≤ b) (hb : b ≤ t.length) : sg (Txt.slice t (some (a : Int)) (some (b : Int))) = ((sg t).drop a).take (b - a) := by
  have hp := StrLaws.sliced_plain t hab hb
  unfold Txt.slice
  split
  · rename_i h
    have hl : ((strSliceIndices (some (a : Int)) (some (b : Int)) 1 t.length).length == t.length) = true := by simpa using h
    rw [StrLaws.strSliceIndices_plain hab hb, List.length_map, List.length_range] at hl
    have e : b - a = t.length := by simpa using hl
    have ea : a = 0 := by omega
    subst ea
    rw [List.drop_zero, e, List.take_of_length_le (by rw [sg_len]; exact Nat.le_refl _)]
  · exact hp
theorem slice_sg {t : Str} {i j : Int} (h0 : 0 ≤ i) (h1 : i ≤ j) (h2 : j ≤ (t.length : Int)) : sg (Txt.slice t (some i) (some j)) = ((sg t).drop i.toNat).take (j.toNat - i.toNat) := by
  have e1 : i = (i.toNat : Int) := by omega
  have e2 : j = (j.toNat : Int) := by omega
  rw [e1, e2]
  exact slice_at (by omega) (by omega)
theorem slice_none (t : Str) {i : Int} : Txt.slice t (some i) none = Txt.slice t (some i) (some (t.length : Int)) := by
  have e : strSliceIndices (some i) none 1 t.length = strSliceIndices (some i) (some (t.length : Int)) 1 t.length := by
    have h : ¬ ((t.length : Int) < 0) := by omega
    have e1 : max (0 : Int) (min (t.length : Int) (t.length : Int)) = t.length := by omega
    simp only [strSliceIndices, show ((1 : Int) > 0) = True from by simp, if_true, h, if_false, e1]
  unfold Txt.slice
  rw [e]
theorem slice_from {t : Str} {i : Int} (h0 : 0 ≤ i) (h1 : i ≤ (t.length : Int)) : sg (Txt.slice t (some i) none) = (sg t).drop i.toNat := by
  rw [slice_none, slice_sg h0 h1 (Int.le_refl _), List.take_of_length_le]
  rw [List.length_drop, sg_len]; omega
theorem fromIndex_nn {n : Nat} {i : Int} (h0 : 0 ≤ i) : fromIndex n i = i.toNat := by unfold fromIndex; rw [if_neg (by omega)]; omega
theorem not_mem_seg {l : List Nat} {c a b : Nat} (h : ∀ v, a ≤ v → v < b → l.getD v 0 ≠ c) (hb : b ≤ l.length) : c ∉ (l.drop a).take (b - a) := by
  intro hm
  obtain ⟨k, hk, e⟩ := List.getElem_of_mem hm
  rw [List.length_take, List.length_drop] at hk
  rw [List.getElem_take, List.getElem_drop] at e
  refine h (a + k) (by omega) (by omega) ?_
  rw [List.getD_eq_getElem?_getD, List.getElem?_eq_getElem (by omega), Option.getD_some, e]
theorem find_sg (t : Str) (c : Nat) {i : Int} (h0 : 0 ≤ i) (h1 : i ≤ (t.length : Int)) :
    (Txt.find3 t ⟨#[c]⟩ i = -1 ∧ c ∉ (sg t).drop i.toNat) ∨
    ∃ k : Nat, Txt.find3 t ⟨#[c]⟩ i = (k : Int) ∧ i.toNat ≤ k ∧ k < t.length ∧ (sg t).drop i.toNat = ((sg t).drop i.toNat).take (k - i.toNat) ++ c :: (sg t).drop (k + 1) ∧ c ∉ ((sg t).drop i.toNat).take (k - i.toNat) := by
  have hl := sg_len t
  rcases StrLaws.find3_spec t c i with ⟨h, hn⟩ | ⟨k, h, hlo, hk, hc, hn⟩
  · refine .inl ⟨h, ?_⟩
    rw [fromIndex_nn h0] at hn
    have := not_mem_seg (l := sg t) (c := c) (a := i.toNat) (b := t.length) (fun v h1 h2 => by rw [← getD_sg]; exact hn v h1 h2) (by omega)
    rwa [List.take_of_length_le (by rw [List.length_drop, hl]; exact Nat.le_refl _)] at this
  · rw [fromIndex_nn h0] at hlo hn
    refine .inr ⟨k, h, hlo, hk, ?_, not_mem_seg (fun v h1 h2 => by rw [← getD_sg]; exact hn v h1 h2) (by omega)⟩
    have e : (sg t).drop k = c :: (sg t).drop (k + 1) := by
      rw [List.drop_eq_getElem_cons (by omega : k < (sg t).length)]
      congr 1
      rw [getD_sg, List.getD_eq_getElem?_getD, List.getElem?_eq_getElem (by omega), Option.getD_some] at hc
      exact hc
    conv => lhs; rw [← List.take_append_drop (k - i.toNat) ((sg t).drop i.toNat)]
    rw [List.drop_drop, show i.toNat + (k - i.toNat) = k from by omega, e]
theorem join_snoc (y : Str) : ∀ ys : List Str, Str.join ⟨#[]⟩ (ys ++ [y]) = Str.join ⟨#[]⟩ ys ++ y
  | [] => by
    show y = Str.empty ++ y
    rw [Str.empty_append]
  | a :: r => by rw [List.cons_append, join_nil_cons, join_snoc y r, join_nil_cons, Str.append_assoc]
theorem strs_push {vs : List Value} {ys : List Str} {y : Str} {t : Tok} (h : StrsAre vs ys) : StrsAre (vs.toArray.push (.str y t)).toList (ys ++ [y]) := by
  rw [List.push_toArray]; exact StrsAre.append' h (.cons y t .nil)
theorem cps_one_inj {a c : Nat} (h : (⟨#[a]⟩ : Str) = ⟨#[c]⟩) : a = c := by simpa using h
theorem head_drop {l : List Nat} {k : Nat} (h : k < l.length) : (l.drop k).head? = some (l.getD k 0) := by
  rw [List.head?_drop, List.getD_eq_getElem?_getD, List.getElem?_eq_getElem h]; rfl
theorem head_none {t : Str} {k : Nat} (c : Nat) (h : ¬ (k : Int) < (t.length : Int)) : ((sg t).drop k).head? ≠ some c := by
  rw [List.drop_eq_nil_of_le (by rw [sg_len]; omega)]; exact fun e => by cases e
theorem head_item {t : Str} {k : Nat} (h : (k : Int) < (t.length : Int)) : ∃ a, Txt.item t (k : Int) = ⟨#[a]⟩ ∧ ((sg t).drop k).head? = some a :=
  ⟨(sg t).getD k 0, item_sg (Int.natCast_nonneg k) h, head_drop (by rw [sg_len]; omega)⟩
theorem head_ne {t : Str} {k c : Nat} (h : (k : Int) < (t.length : Int)) (e : (Txt.item t (k : Int) != ⟨#[c]⟩) = true) : ((sg t).drop k).head? ≠ some c := by
  obtain ⟨a, h1, h2⟩ := head_item h
  rw [h2]; intro z
  rw [h1, Option.some.inj z] at e
  simp at e
theorem head_eq {t : Str} {k c : Nat} (h : (k : Int) < (t.length : Int)) (e : (Txt.item t (k : Int) != ⟨#[c]⟩) = false) : ((sg t).drop k).head? = some c := by
  obtain ⟨a, h1, h2⟩ := head_item h
  rw [h2]
  rw [h1] at e
  have := cps_one_inj (by simpa using e : (⟨#[a]⟩ : Str) = ⟨#[c]⟩)
  rw [this]
theorem txt_join (sep : Str) (l : List Str) : Txt.join sep l = Str.join sep l := eq_of_beq (join_plain_closes sep l)
theorem join_len : ∀ l : List Str, (Str.join ⟨#[]⟩ l).length = (l.map (·.length)).sum
  | [] => rfl
  | a :: r => by rw [join_nil_cons, Str.length_append, join_len r, List.map_cons, List.sum_cons]
theorem join_got {ys : List Str} {y x : Str} (h : x = ⟨#[]⟩) : sg (Txt.join x (ys ++ [y])) = sg (Str.join ⟨#[]⟩ ys) ++ sg y := by rw [h, txt_join, join_snoc, sg_app]
theorem slice_len {t : Str} {a b : Nat} (hab : a ≤ b) (hb : b ≤ t.length) : (Txt.slice t (some (a : Int)) (some (b : Int))).length = b - a := by
  rw [← sg_len, slice_at hab hb, List.length_take, List.length_drop, sg_len]; omega
theorem slice_one {t : Str} {k : Nat} (hk : k ≤ t.length) : sg (Txt.slice t (some (k : Int)) (some ((k : Int) + 1))) = ((sg t).drop k).take 1 := by
  rcases Nat.lt_or_ge k t.length with h | h
  · have := slice_at (t := t) (a := k) (b := k + 1) (Nat.le_succ k) h
    rwa [show k + 1 - k = 1 from by omega] at this
  · have hk' : k = t.length := Nat.le_antisymm hk h
    have e : strSliceIndices (some (k : Int)) (some ((k : Int) + 1)) 1 t.length = strSliceIndices (some (k : Int)) (some (k : Int)) 1 t.length := by
      have h1 : ¬ ((k : Int) + 1 < 0) := by omega
      have h2 : ¬ ((k : Int) < 0) := by omega
      have e1 : max (0 : Int) (min ((k : Int) + 1) (t.length : Int)) = max (0 : Int) (min (k : Int) (t.length : Int)) := by omega
      simp only [strSliceIndices, show ((1 : Int) > 0) = True from by simp, if_true, h1, h2, if_false, e1]
    have : Txt.slice t (some (k : Int)) (some ((k : Int) + 1)) = Txt.slice t (some (k : Int)) (some (k : Int)) := by unfold Txt.slice; rw [e]
    rw [this, slice_at (Nat.le_refl k) hk, Nat.sub_self, List.take_zero, List.drop_eq_nil_of_le (by rw [sg_len]; omega), List.take_nil]
theorem slice_yes {t : Str} {k c : Nat} (hk : k ≤ t.length) (e : (Txt.slice t (some (k : Int)) (some ((k : Int) + 1)) == ⟨#[c]⟩) = true) : ((sg t).drop k).head? = some c := by
  have h := slice_one hk
  rw [eq_of_beq e] at h
  cases hd : (sg t).drop k with
  | nil => rw [hd] at h; cases h
  | cons a r => rw [hd] at h; cases h; rfl
theorem slice_no {t : Str} {k c : Nat} (hk : k ≤ t.length) (e : (Txt.slice t (some (k : Int)) (some ((k : Int) + 1)) == ⟨#[c]⟩) = false) : ((sg t).drop k).head? ≠ some c := by
  intro hh
  have h := slice_one hk
  cases hd : (sg t).drop k with
  | nil => rw [hd] at hh; cases hh
  | cons a r =>
    rw [hd] at hh h
    cases hh
    have : Txt.slice t (some (k : Int)) (some ((k : Int) + 1)) = ⟨#[c]⟩ := sg_inj h
    rw [this] at e
    simp at e
theorem drop_head {l : List Nat} {k c : Nat} (h : (l.drop k).head? = some c) : l.drop k = c :: l.drop (k + 1) ∧ k < l.length := by
  cases hd : l.drop k with
  | nil => rw [hd] at h; cases h
  | cons a r =>
    rw [hd] at h
    cases h
    have hk : k < l.length := by
      rcases Nat.lt_or_ge k l.length with h1 | h1
      · exact h1
      · rw [List.drop_eq_nil_of_le h1] at hd; cases hd
    refine ⟨?_, hk⟩
    rw [List.drop_eq_getElem_cons hk] at hd
    exact congrArg _ (List.tail_eq_of_cons_eq hd).symm
end

end
section
local macro_rules | `(tactic| walk_at "my_pad0") => `(tactic| skip)
local macro_rules | `(tactic| walk_at "my_pad1") => `(tactic| skip)
local macro_rules | `(tactic| walk_at "my_pad2") => `(tactic| skip)
/-- the run of signs out of Z that begins at b -/
def runAt (T Z : List Nat) (b : Nat) : List Nat := (T.drop b).takeWhile (fun c => decide (c ∈ Z))
/-- what stands between the turns -/
def RunAt (T Z : List Nat) (b k : Nat) : Prop := b ≤ k ∧ k ≤ T.length ∧ ∀ c ∈ (T.drop b).take (k - b), c ∈ Z
theorem runAt_start {T Z : List Nat} {b : Nat} (h : b ≤ T.length) : RunAt T Z b b := ⟨Nat.le_refl _, h, by rw [Nat.sub_self, List.take_zero]; exact fun _ h => nomatch h⟩
theorem runAt_more {T Z : List Nat} {b k c : Nat} (h : RunAt T Z b k) (hc : (T.drop k).head? = some c) (hz : c ∈ Z) : RunAt T Z b (k + 1) := by
  obtain ⟨h1, h2, h3⟩ := h
  obtain ⟨e, hk⟩ := drop_head hc
  refine ⟨by omega, hk, ?_⟩
  rw [show k + 1 - b = (k - b) + 1 by omega, List.take_add_one]
  intro x hx
  rcases List.mem_append.mp hx with hx | hx
  · exact h3 x hx
  · rw [List.getElem?_drop, show b + (k - b) = k by omega] at hx
    rw [List.head?_drop] at hc
    rw [hc] at hx
    rw [Option.toList_some, List.mem_singleton] at hx
    rw [hx]
    exact hz
theorem takeWhile_all {l r : List Nat} {Z : List Nat} (h : ∀ c ∈ l, c ∈ Z) (hr : ∀ c, r.head? = some c → c ∉ Z) : (l ++ r).takeWhile (fun c => decide (c ∈ Z)) = l := by
  rw [List.takeWhile_append_of_pos fun c hc => decide_eq_true (h c hc)]
  cases r with
  | nil => simp
  | cons a r => rw [List.takeWhile_cons, if_neg (by simpa using hr a rfl), List.append_nil]
theorem runAt_end {T Z : List Nat} {b k : Nat} (h : RunAt T Z b k) (hr : ∀ c, (T.drop k).head? = some c → c ∉ Z) : runAt T Z b = (T.drop b).take (k - b) := by
  obtain ⟨h1, h2, h3⟩ := h
  unfold runAt
  conv => lhs; rw [← List.take_append_drop (k - b) (T.drop b)]
  refine takeWhile_all h3 fun c hc => hr c ?_
  rwa [List.drop_drop, show b + (k - b) = k by omega] at hc
theorem occ_in {t : Str} {k : Nat} {z : Str} (hk : (k : Int) < (t.length : Int)) (h : (PySem.Builtin.Str.occurrences z (Txt.item t (k : Int)) 0 z.length 1).isEmpty = false) : ∃ c, ((sg t).drop k).head? = some c ∧ c ∈ sg z := by
  obtain ⟨a, h1, h2⟩ := head_item hk
  have hf := StrLaws.found_one z a
  rw [h1] at h
  rw [h] at hf
  exact ⟨a, h2, by simpa [sg] using of_decide_eq_true hf.symm⟩
theorem occ_out {t : Str} {k : Nat} {z : Str} (hk : (k : Int) < (t.length : Int)) (h : (PySem.Builtin.Str.occurrences z (Txt.item t (k : Int)) 0 z.length 1).isEmpty = true) : ∀ c, ((sg t).drop k).head? = some c → c ∉ sg z := by
  obtain ⟨a, h1, h2⟩ := head_item hk
  have hf := StrLaws.found_one z a
  rw [h1] at h
  rw [h] at hf
  intro c hc
  rw [h2] at hc
  cases hc
  have hn := of_decide_eq_false hf.symm
  simpa [sg] using hn
theorem head_end {t : Str} {k : Nat} (h : ¬ (k : Int) < (t.length : Int)) (Z : List Nat) : ∀ c, ((sg t).drop k).head? = some c → c ∉ Z := fun c hc => absurd hc (head_none c h)
theorem kind_yes {t : Str} {b c : Nat} (hb : b < t.length) (e : (Txt.slice t (some ((b : Int) + 1)) (some ((b : Int) + 2)) == ⟨#[c]⟩) = true) : ((sg t).drop (b + 1)).head? = some c := slice_yes (k := b + 1) hb e
theorem kind_no {t : Str} {b c : Nat} (hb : b < t.length) (e : (Txt.slice t (some ((b : Int) + 1)) (some ((b : Int) + 2)) == ⟨#[c]⟩) = false) : ((sg t).drop (b + 1)).head? ≠ some c := slice_no (k := b + 1) hb e

end
section
local macro_rules | `(tactic| walk_at "my_pad0") => `(tactic| skip)
local macro_rules | `(tactic| walk_at "my_pad1") => `(tactic| skip)
local macro_rules | `(tactic| walk_at "my_pad2") => `(tactic| skip)
local macro_rules | `(tactic| walk_at "call ref") => `(tactic| ((with_reducible show wpAny _ _ (call (Value.ref 76) [Value.str _ _, Value.int _ _]) _ _ _); (refine' fault_call ?k1 ?k2 ?k3 ?k4 ?k5 ?k6 ?k7 ?k8 ?_; (case k1 => k_asm); (case k2 => k_asm); (case k3 => k_asm); (case k4 => k_asm); (case k5 => k_asm); (case k6 => walk_at "my_kind"); (case k7 => walk_at "my_room"); (case k8 => walk_at "my_room")); intro e' T' dx' k3' k4' h' tk' F' N' l1; (try k_sweep)))
theorem run_of_call {w : World} {mean : ExcName → Option Value} {mg mb : Str → Option Value} {dp un : Nat} {gd : Option (List Code)} {cn : Str} {cs : Scope} {a : Addr} {ccd : Value} {cl : List (Str × Addr)} {outer : List Env} {A₀ : Around} {base h₀ : Heap} {L : Addr} {m : Str → Option Value} {s : Shared} {Q E : Value → Shared → Prop} {x dx : Addr} {k1 k2 t1 t2 tz : Tok} {t z : Str} {b : Nat} {rest : List (Addr × Obj)} (B : Below A₀ base outer h₀) (F : Fr h₀ L s.heap m) (X : (hd.heap_39 w.params).In h₀) (T : Top hd.view_39 (looseW hd.view_39 [Str.ofString "SIMPLE"]) mean mg mb h₀) (hcs : cs.kind = .function) (hdp : dp + 10 < recursionLimit) (hun : un + 100 < cLine)
   (N : News h₀ L s.heap ((x, instObj 172 dx) :: (dx, scD w k1 k2 t1 t2 t (b : Int)) :: rest)) (hxd : x ≠ dx) (hrd : ∀ p ∈ rest, p.1 ≠ dx) (hb : b ≤ t.length) (hl : t.length ≤ 2000) (hz : z.length ≤ 2000)
   (ret : ∀ y ty k t3 h' tk', sg y = runAt (sg t) (sg z) b → k = b + y.length → k ≤ t.length → (∀ c, ((sg t).drop k).head? = some c → c ∉ sg z) → Fr h₀ L h' m → News h₀ L h' ((x, instObj 172 dx) :: (dx, scD w k1 k2 t1 t3 t (k : Int)) :: rest) → Q (.str y ty) { s with heap := h', toks := tk' }) :
   wpAny (model Challenge.rw_qz0006_03.row.prog w) (ktrTop dp un gd cn cs L a ccd cl outer) (call (.ref 120) [.ref x, .str z tz]) Q E s := by
  w_top off
  revert X; k_fill; intro X; refine wpAny_call ?_; k_dflt cell_enter
  have hi : (0 : Int) ≤ (b : Int) := Int.natCast_nonneg b
  k_steps
  unfold Stop
  rename News _ _ _ _ => N1
  rename Fr _ _ _ _ => F1
  refine' ksw_while (σ := Nat × Tok) (fun c => (x, instObj 172 dx) :: (dx, scD w k1 k2 t1 c.2 t (c.1 : Int)) :: rest) (fun _ => []) (fun _ => True) []
    (fun c => RunAt (sg t) (sg z) b c.1) (fun c => t.length + 2 - c.1) (b, _) F1 ?n0 trivial (List.forall_mem_nil _) ?p0 ?turn ?own
  case own => passes_own
  case n0 => exact cb_drop N1 (by walk_at "my_sub")
  case p0 => exact runAt_start (by rw [sg_len]; exact hb)
  case turn =>
    intro c u h tk _ hP F2 N2
    obtain ⟨ci, ti⟩ := c
    have hP0 := hP
    obtain ⟨p1, p2, p3⟩ := hP
    dsimp only at *
    rw [sg_len] at p2
    have hci : (0 : Int) ≤ (ci : Int) := Int.natCast_nonneg ci
    k_steps
    all_goals (rename Fr _ _ _ _ => kF; rename News _ _ _ _ => kN)
    all_goals have hsl := slice_len (t := t) p1 p2
    · have hn := occ_out (by assumption) (by assumption : (PySem.Builtin.Str.occurrences z (Txt.item t (ci : Int)) 0 z.length 1).isEmpty = true)
      exact ret _ _ ci _ _ _ (by rw [runAt_end hP0 hn, slice_at p1 p2]) (by rw [hsl]; omega) p2 hn kF kN
    · obtain ⟨c, hc1, hc2⟩ := occ_in (by assumption) (by assumption : (PySem.Builtin.Str.occurrences z (Txt.item t (ci : Int)) 0 z.length 1).isEmpty = false)
      refine' ksw_end (ci + 1, _) kF kN (fun _ h => h) trivial (List.forall_mem_nil _) ?a2 (runAt_more hP0 hc1 hc2) ?a3
      case a2 => walk_at "my_same"
      case a3 => dsimp only; omega
    · have hn := head_end (by assumption) (sg z)
      exact ret _ _ ci _ _ _ (by rw [runAt_end hP0 hn, slice_at p1 p2]) (by rw [hsl]; omega) p2 hn kF kN

end
section
local macro_rules | `(tactic| walk_at "my_pad0") => `(tactic| skip)
local macro_rules | `(tactic| walk_at "my_pad1") => `(tactic| skip)
local macro_rules | `(tactic| walk_at "my_pad2") => `(tactic| skip)
local macro_rules | `(tactic| walk_at "my_pad3") => `(tactic| skip)
local macro_rules | `(tactic| walk_at "my_pad4") => `(tactic| skip)
def hv (c : Nat) : Nat := if 48 ≤ c ∧ c ≤ 57 then c - 48 else if 97 ≤ c ∧ c ≤ 102 then c - 87 else if 65 ≤ c ∧ c ≤ 70 then c - 55 else 0
def hexS : Str := Str.ofString "0123456789abcdefABCDEF"
def IsHex (c : Nat) : Prop := c ∈ sg hexS
theorem hex_all : ∀ c ∈ sg hexS, c < 128 ∧ hv c < 16 ∧ Txt.find hexS ⟨#[lo1 c]⟩ = (hv c : Int) ∧ hv (lo1 c) = hv c ∧ hv (up1 c) = hv c ∧ lo1 c ∈ sg hexS ∧ up1 c ∈ sg hexS := by decide +kernel
def val (B : Nat) (l : List Nat) : Nat := l.foldl (fun a c => a * B + hv c) 0
theorem val_nil (B : Nat) : val B [] = 0 := rfl
theorem val_snoc (B : Nat) (l : List Nat) (c : Nat) : val B (l ++ [c]) = val B l * B + hv c := by
  unfold val
  rw [List.foldl_append]
  rfl
theorem val_map {B : Nat} {f : Nat → Nat} : ∀ {l : List Nat}, (∀ c ∈ l, hv (f c) = hv c) → val B (l.map f) = val B l := fun {l} h => by
  unfold val
  rw [List.foldl_map]
  suffices ∀ a, l.foldl (fun x y => x * B + hv (f y)) a = l.foldl (fun x y => x * B + hv y) a from this 0
  induction l with
  | nil => exact fun _ => rfl
  | cons c r ih =>
    intro a
    rw [List.foldl_cons, List.foldl_cons, h c (.head _)]
    exact ih (fun x hx => h x (.tail _ hx)) _
theorem val_from (B : Nat) (l : List Nat) : ∀ a : Nat, l.foldl (fun x y => x * B + hv y) a = a * B ^ l.length + val B l := by
  unfold val
  induction l with
  | nil => intro a; simp
  | cons c r ih =>
    intro a
    rw [List.foldl_cons, List.foldl_cons, ih, ih (0 * B + hv c), List.length_cons, Nat.pow_succ]
    rw [Nat.zero_mul, Nat.zero_add, Nat.add_mul, Nat.mul_assoc, Nat.mul_comm B, Nat.add_assoc]
theorem val_app (B : Nat) (x y : List Nat) : val B (x ++ y) = val B x * B ^ y.length + val B y := by
  unfold val
  rw [List.foldl_append]
  exact val_from B y _
/-- the codes that a loop over a text has taken -/
def natsOf (pre : List Int) : List Nat := pre.map Int.toNat
theorem natsOf_snoc (pre : List Int) (n : Nat) : natsOf (pre ++ [(n : Int)]) = natsOf pre ++ [n] := by
  unfold natsOf
  rw [List.map_append]
  rfl
theorem natsOf_codes (x : Str) : natsOf (KStt.codes x) = sg x := by
  unfold natsOf KStt.codes
  rw [List.map_map]
  exact (List.map_congr_left (g := _root_.id) fun c _ => Int.toNat_natCast c).trans (List.map_id _)
theorem codes_mem {x : Str} {pre post : List Int} {n : Nat} (h : KStt.codes x = pre ++ (n : Int) :: post) : n ∈ sg x := by
  have h1 : (n : Int) ∈ KStt.codes x := by rw [h]; simp
  unfold KStt.codes at h1
  obtain ⟨c, hc, e⟩ := List.mem_map.mp h1
  have : c = n := by omega
  rwa [← this]
theorem codes_pre {x : Str} {pre post : List Int} {n : Nat} (h : KStt.codes x = pre ++ (n : Int) :: post) : natsOf pre ++ n :: natsOf post = sg x := by
  rw [← natsOf_codes, h]
  unfold natsOf
  rw [List.map_append]
  rfl
theorem lower_sg {x : Str} (h : ∀ c ∈ sg x, c < 128) : sg (Txt.lower x) = (sg x).map lo1 := by
  rw [lower_ascii h]
  exact Array.toList_map
theorem upper_sg {x : Str} (h : ∀ c ∈ sg x, c < 128) : sg (Txt.upper x) = (sg x).map up1 := by
  rw [upper_ascii h]
  exact Array.toList_map
theorem bits_small : ∀ B : Nat, B ≤ 16 → PySem.Builtin.Int.intBits (B : Int) ≤ 64 := by decide +kernel

end
section
local macro_rules | `(tactic| walk_at "my_pad0") => `(tactic| skip)
local macro_rules | `(tactic| walk_at "my_pad1") => `(tactic| skip)
local macro_rules | `(tactic| walk_at "my_pad2") => `(tactic| skip)
local macro_rules | `(tactic| walk_at "my_pad3") => `(tactic| skip)
local macro_rules | `(tactic| walk_at "my_pad4") => `(tactic| skip)
local macro_rules | `(tactic| walk_at "my_pad5") => `(tactic| skip)
def simpleS : Str := Str.ofString "abcdefghijklmnopqrstuvwxyzABCDEFGHIJKLMNOPQRSTUVWXYZ0123456789~!@$%^&*_-+=<>.?/"
def endsIn (T : List Nat) (k : Nat) : Bool := match (T.drop k).head? with
  | some c => decide (c ∈ sg simpleS)
  | none => false
def bitsOf (T Z : List Nat) (B e b : Nat) : Option (Nat × Nat × Nat) :=
  if runAt T Z (b + 2) = [] then none
  else if endsIn T (b + 2 + (runAt T Z (b + 2)).length) = true then none
  else some (val B (runAt T Z (b + 2)), e * (runAt T Z (b + 2)).length, b + 2 + (runAt T Z (b + 2)).length)
/-- read_bits at b: the number, how many bits, the place behind -/
def bitsRes (T : List Nat) (b : Nat) : Option (Nat × Nat × Nat) :=
  if (T.drop (b + 1)).head? = some 98 then bitsOf T [48, 49] 2 1 b
  else if (T.drop (b + 1)).head? = some 120 then bitsOf T (sg hexS) 16 4 b
  else none
theorem endsIn_yes {T : List Nat} {k : Nat} (h : ∃ c, (T.drop k).head? = some c ∧ c ∈ sg simpleS) : endsIn T k = true := by
  obtain ⟨c, h1, h2⟩ := h
  unfold endsIn
  rw [h1]
  exact decide_eq_true h2
theorem endsIn_no {T : List Nat} {k : Nat} (h : ∀ c, (T.drop k).head? = some c → c ∉ sg simpleS) : endsIn T k = false := by
  unfold endsIn
  split
  · rename_i c hc
    exact decide_eq_false (h c hc)
  · rfl
theorem bits_b {T : List Nat} {b : Nat} (h : (T.drop (b + 1)).head? = some 98) : bitsRes T b = bitsOf T [48, 49] 2 1 b := by unfold bitsRes; rw [if_pos h]
theorem bits_x {T : List Nat} {b : Nat} (h : (T.drop (b + 1)).head? = some 120) : bitsRes T b = bitsOf T (sg hexS) 16 4 b := by
  unfold bitsRes
  rw [if_neg (by rw [h]; decide), if_pos h]
theorem bits_none {T : List Nat} {b : Nat} (h1 : (T.drop (b + 1)).head? ≠ some 98) (h2 : (T.drop (b + 1)).head? ≠ some 120) : bitsRes T b = none := by
  unfold bitsRes
  rw [if_neg h1, if_neg h2]
theorem bitsOf_empty {T Z : List Nat} {B e b : Nat} {d : List Nat} (hd : d = runAt T Z (b + 2)) (h : d = []) : bitsOf T Z B e b = none := by
  unfold bitsOf
  rw [if_pos (by rw [← hd, h])]
theorem bitsOf_ends {T Z : List Nat} {B e b k : Nat} {d : List Nat} (hd : d = runAt T Z (b + 2)) (hk : k = b + 2 + d.length) (h : ∃ c, (T.drop k).head? = some c ∧ c ∈ sg simpleS) : bitsOf T Z B e b = none := by
  unfold bitsOf
  subst hd
  subst hk
  rw [endsIn_yes h]
  split <;> simp
theorem bitsOf_good {T Z : List Nat} {B e b k : Nat} {d : List Nat} (hd : d = runAt T Z (b + 2)) (hn : d ≠ []) (hk : k = b + 2 + d.length) (h : ∀ c, (T.drop k).head? = some c → c ∉ sg simpleS) : bitsOf T Z B e b = some (val B d, e * d.length, k) := by
  unfold bitsOf
  subst hd
  subst hk
  rw [if_neg hn, endsIn_no h, if_neg (by simp)]
theorem runAt_in {T Z : List Nat} {b : Nat} : ∀ c ∈ runAt T Z b, c ∈ Z := fun c hc => by
  have := List.all_eq_true.mp (List.all_takeWhile (p := fun c => decide (c ∈ Z)) (l := T.drop b)) c hc
  exact of_decide_eq_true this
theorem bin_hex : ∀ c ∈ ([48, 49] : List Nat), c ∈ sg hexS := by decide +kernel

end
section
local macro_rules | `(tactic| walk_at "my_pad0") => `(tactic| skip)
local macro_rules | `(tactic| walk_at "my_pad1") => `(tactic| skip)
local macro_rules | `(tactic| walk_at "my_pad2") => `(tactic| skip)
local macro_rules | `(tactic| walk_at "my_pad3") => `(tactic| skip)
local macro_rules | `(tactic| walk_at "my_pad4") => `(tactic| skip)
local macro_rules | `(tactic| walk_at "call ref") => `(tactic| ((with_reducible show wpAny _ _ (call (Value.ref 76) [Value.str _ _, Value.int _ _]) _ _ _); (refine' fault_call ?k1 ?k2 ?k3 ?k4 ?k5 ?k6 ?k7 ?k8 ?_; (case k1 => k_asm); (case k2 => k_asm); (case k3 => k_asm); (case k4 => k_asm); (case k5 => k_asm); (case k6 => walk_at "my_kind"); (case k7 => walk_at "my_room"); (case k8 => walk_at "my_room")); intro e' T' dx' k3' k4' h' tk' F' N' l1; (try k_sweep)))
local macro_rules | `(tactic| walk_at "my_sign") => `(tactic| ((first | with_reducible show wpAny _ _ (call (Value.ref 106) _) _ _ _ | with_reducible show wpAny _ _ (call (Value.ref 106, _).fst _) _ _ _); k_dflt (refine' sign_call ?k1 ?k2 ?k3 ?k4 ?k5 ?k6 ?k7 ?k8 ?k9 ?k10 ?k11 ?k12 ?rt; (case k1 => k_asm); (case k2 => k_asm); (case k3 => k_asm); (case k4 => k_asm); (case k5 => walk_at "my_kind"); (case k6 => k_asm); (case k7 => walk_at "my_room"); (case k8 => walk_at "my_room"); (case k9 => k_mem); (case k10 => k_mem); (case k11 => k_asm); (case k12 => k_asm); (intro v' tk' h' t' q1' F' N'; (try subst v'); (try k_sweep)))))
theorem item_some {t : Str} {k : Nat} (h : (k : Int) < (t.length : Int)) : (Txt.item t (k : Int) != Str.ofString "") ≠ false := by
  w_top off
  obtain ⟨a, h1, _⟩ := head_item h
  rw [h1, show Str.ofString "" = ⟨#[]⟩ from by decide +kernel]
  simp
theorem ends_call {w : World} {mean : ExcName → Option Value} {mg mb : Str → Option Value} {dp un : Nat} {gd : Option (List Code)} {cn : Str} {cs : Scope} {a : Addr} {ccd : Value} {cl : List (Str × Addr)} {outer : List Env} {A₀ : Around} {base h₀ : Heap} {L : Addr} {m : Str → Option Value} {s : Shared} {Q E : Value → Shared → Prop} {x dx : Addr} {k1 k2 t1 t2 tw tb : Tok} {t what : Str} {k b : Nat} {news : List (Addr × Obj)} (B : Below A₀ base outer h₀) (F : Fr h₀ L s.heap m) (X : (hd.heap_39 w.params).In h₀) (T : Top hd.view_39 (looseW hd.view_39 [Str.ofString "SIMPLE"]) mean mg mb h₀) (hcs : cs.kind = .function) (hdp : dp + 40 < recursionLimit) (hun : un + 400 < cLine)
   (N : News h₀ L s.heap news) (hx : (x, instObj 172 dx) ∈ news) (hdx : (dx, scD w k1 k2 t1 t2 t (k : Int)) ∈ news) (hk : k ≤ t.length) (hl : t.length ≤ 2000) (hw : what.length ≤ 100)
   (ret : ∀ h' tk', (∀ c, ((sg t).drop k).head? = some c → c ∉ sg simpleS) → Fr h₀ L h' m → News h₀ L h' news → Q .none { s with heap := h', toks := tk' })
   (exc : ∀ e dxe k3 k4 z kz ti G h' tk', (∃ c, ((sg t).drop k).head? = some c ∧ c ∈ sg simpleS) → Fr h₀ L G m → RaisedD base G (envX cn cs L a ccd cl :: outer) e 76 dxe ((dxe, faultD w k3 k4 z kz (b : Int) ti) :: news) h' → G.UpToSlots h' → E (.ref e) { s with heap := h', toks := tk' }) :
   wpAny (model Challenge.rw_qz0006_03.row.prog w) (ktrTop dp un gd cn cs L a ccd cl outer) (call (.ref 127) [.ref x, .str what tw, .int (b : Int) tb]) Q E s := by
  w_top off
  revert X; k_fill; intro X; refine wpAny_call ?_; k_dflt cell_enter
  have hi : (0 : Int) ≤ (k : Int) := Int.natCast_nonneg k
  k_steps
  all_goals (rename Fr _ _ _ _ => kF; rename News _ _ _ _ => kN)
  · exact ret _ _ (occ_out (by assumption) (by assumption)) kF kN
  · rename RaisedD _ _ _ _ _ _ _ _ => hR
    exact exc _ _ _ _ _ _ _ _ _ _ (occ_in (by assumption) (by assumption)) (by k_asm) hR (by assumption)
  · rename (_ != _) = false => hq
    exact absurd hq (item_some (by assumption))
  · exact ret _ _ (head_end (by assumption) _) kF kN

end
section
local macro_rules | `(tactic| walk_at "call ref") => `(tactic| ((with_reducible show wpAny _ _ (call (Value.ref 76) [Value.str _ _, Value.int _ _]) _ _ _); (refine' fault_call ?k1 ?k2 ?k3 ?k4 ?k5 ?k6 ?k7 ?k8 ?_; (case k1 => k_asm); (case k2 => k_asm); (case k3 => k_asm); (case k4 => k_asm); (case k5 => k_asm); (case k6 => walk_at "my_kind"); (case k7 => walk_at "my_room"); (case k8 => walk_at "my_room")); intro e' T' dx' k3' k4' h' tk' F' N' l1; (try k_sweep)))
local macro_rules | `(tactic| walk_at "exec For Name Call") => `(tactic| refine stop_of ?_)
local macro_rules | `(tactic| walk_at "exec For Name Call cons") => `(tactic| refine stop_of ?_)
local macro_rules | `(tactic| walk_at "exec For Name Call cons nil") => `(tactic| refine stop_of ?_)
local macro_rules | `(tactic| walk_at "exec For Name Call nil nil") => `(tactic| refine stop_of ?_)
local macro_rules | `(tactic| walk_at "pyIter str") => `(tactic| refine stop_of ?_)
local macro_rules | `(tactic| walk_at "InvEndN") => `(tactic| refine stop_of ?_)
local macro_rules | `(tactic| walk_at "binaryOp Mult int int") => `(tactic| (refine mul_int ?_ (IntMulOk.of_right (by assumption))))
theorem value_of_call {w : World} {mean : ExcName → Option Value} {mg mb : Str → Option Value} {dp un : Nat} {gd : Option (List Code)} {cn : Str} {cs : Scope} {a : Addr} {ccd : Value} {cl : List (Str × Addr)} {outer : List Env} {A₀ : Around} {base h₀ : Heap} {L : Addr} {m : Str → Option Value} {s : Shared} {Q E : Value → Shared → Prop} {td tb : Tok} {y : Str} {bs : Nat} {news : List (Addr × Obj)} (B : Below A₀ base outer h₀) (F : Fr h₀ L s.heap m) (X : (hd.heap_39 w.params).In h₀) (T : Top hd.view_39 (looseW hd.view_39 [Str.ofString "SIMPLE"]) mean mg mb h₀) (hcs : cs.kind = .function) (hdp : dp + 10 < recursionLimit) (hun : un + 100 < cLine)
   (N : News h₀ L s.heap news) (hB : bs ≤ 16) (hy : ∀ c ∈ sg y, c ∈ sg hexS) (hl : y.length ≤ 2000)
   (ret : ∀ v tv h' tk', v = ((val bs (sg y) : Nat) : Int) → Fr h₀ L h' m → News h₀ L h' news → Q (.int v tv) { s with heap := h', toks := tk' }) :
   wpAny (model Challenge.rw_qz0006_03.row.prog w) (ktrTop dp un gd cn cs L a ccd cl outer) (call (.ref 85) [.str y td, .int (bs : Int) tb]) Q E s := by
  w_top off
  revert X; k_fill; intro X; refine wpAny_call ?_; k_dflt cell_enter
  have hbits := bits_small bs hB
  k_steps
  unfold Stop
  rename Fr _ _ _ _ => F1
  refine' For_invVF F1 ?f1 ?f2 ?_
  case f1 => exact rfl
  case f2 => exact rfl
  k_steps
  unfold Stop
  rename Fr _ _ _ _ => F2
  rename News _ _ _ _ => N2
  have hy1 : ∀ c ∈ sg y, c < 128 := fun c hc => (hex_all c (hy c hc)).1
  have hls := lower_sg hy1
  refine' KStt.kst_text (σ := Nat × Tok) (fun _ => news) (fun c => [("found", .int (c.1 : Int) c.2)]) (fun _ => True) [] (fun pre c => c.1 = val bs (natsOf pre)) (0, _) rfl F2 N2 trivial ?k0 ?p0 ?turn ?done
  case k0 => kst_all
  case p0 => rfl
  case turn =>
    intro c pre post n t u h tk own hc hoff _ hP F3 N3
    obtain ⟨v, tv⟩ := c
    dsimp only at *
    subst hP
    have hn := codes_mem hc
    rw [hls, List.mem_map] at hn
    obtain ⟨c0, hc0, rfl⟩ := hn
    obtain ⟨_, _, hf, hv1, _⟩ := hex_all c0 (hy c0 hc0)
    k_steps
    unfold Stop
    rename Fr _ _ _ _ => F4
    rename News _ _ _ _ => N4
    rw [show Txt.find (Str.ofString "0123456789abcdefABCDEF") ⟨#[lo1 c0]⟩ = _ from hf] at F4
    refine' kst_end (val bs (natsOf pre) * bs + hv c0, _) F4 N4 ?e1 ?e2 rfl trivial ?e3 ?e4 ?e5
    case e1 => exact fun _ h => List.mem_append_left _ h
    case e2 => exact fun _ h => List.mem_append_right _ h
    case e3 => kst_all
    case e4 => walk_at "my_same3"
    case e5 =>
      dsimp only
      rw [natsOf_snoc, val_snoc, hv1]
  case done =>
    intro c u h tk _ hP F3 N3
    obtain ⟨v, tv⟩ := c
    dsimp only at *
    rw [natsOf_codes, hls, val_map fun c hc => (hex_all c (hy c hc)).2.2.2.1] at hP
    subst hP
    k_steps
    rename Fr _ _ _ _ => F4
    rename News _ _ _ _ => N4
    exact ret _ _ _ _ rfl F4 N4

end
section
local macro_rules | `(tactic| walk_at "my_pad0") => `(tactic| skip)
local macro_rules | `(tactic| walk_at "my_pad1") => `(tactic| skip)
local macro_rules | `(tactic| walk_at "my_pad2") => `(tactic| skip)
local macro_rules | `(tactic| walk_at "my_pad3") => `(tactic| skip)
local macro_rules | `(tactic| walk_at "call ref") => `(tactic| ((with_reducible show wpAny _ _ (call (Value.ref 76) [Value.str _ _, Value.int _ _]) _ _ _); (refine' fault_call ?k1 ?k2 ?k3 ?k4 ?k5 ?k6 ?k7 ?k8 ?_; (case k1 => k_asm); (case k2 => k_asm); (case k3 => k_asm); (case k4 => k_asm); (case k5 => k_asm); (case k6 => walk_at "my_kind"); (case k7 => walk_at "my_room"); (case k8 => walk_at "my_room")); intro e' T' dx' k3' k4' h' tk' F' N' l1; (try k_sweep)))
local macro_rules | `(tactic| walk_at "my_ends3") => `(tactic| ((first | with_reducible show wpAny _ _ (call (Value.ref 127) _) _ _ _ | with_reducible show wpAny _ _ (call (Value.ref 127, _).fst _) _ _ _); k_dflt (refine' ends_call ?k1 ?k2 ?k3 ?k4 ?k5 ?k6 ?k7 ?k8 ?k9 ?k10 ?k11 ?k12 ?k13 ?rt ?ex; (case k1 => k_asm); (case k2 => k_asm); (case k3 => k_asm); (case k4 => k_asm); (case k5 => walk_at "my_kind"); (case k6 => walk_at "my_room"); (case k7 => walk_at "my_room"); (case k8 => k_asm); (case k9 => k_mem); (case k10 => k_mem); (case k11 => assumption); (case k12 => k_asm); (case k13 => exact Nat.le_of_ble_eq_true rfl); (case' rt => (intro h' tk' q1' F' N'; (try k_sweep))); (case' ex => (intro e' dx' k3' k4' z' kz' ti' G' h' tk' q1' F' R' U'; (try k_sweep))))))
local macro_rules | `(tactic| walk_at "my_val3") => `(tactic| ((first | with_reducible show wpAny _ _ (call (Value.ref 85) _) _ _ _ | with_reducible show wpAny _ _ (call (Value.ref 85, _).fst _) _ _ _); k_dflt (refine' value_of_call ?k1 ?k2 ?k3 ?k4 ?k5 ?k6 ?k7 ?k8 ?k9 ?k10 ?k11 ?rt; (case k1 => k_asm); (case k2 => k_asm); (case k3 => k_asm); (case k4 => k_asm); (case k5 => walk_at "my_kind"); (case k6 => walk_at "my_room"); (case k7 => walk_at "my_room"); (case k8 => k_asm); (case k9 => decide); (case k10 => assumption); (case k11 => omega); (intro v' tv' h' tk' q1' F' N'; (try k_sweep)))))
local macro_rules | `(tactic| walk_at "call ref") => `(tactic| first | walk_at "my_ends3" | walk_at "my_val3")
local macro_rules | `(tactic| walk_at "call ref") => `(tactic| ((first | with_reducible show wpAny _ _ (call (Value.ref 120) _) _ _ _ | with_reducible show wpAny _ _ (call (Value.ref 120, _).fst _) _ _ _); refine stop_of ?_))
theorem zo_is : sg (Str.ofString "01") = [48, 49] := by decide +kernel
theorem hexS_is : sg (Str.ofString "0123456789abcdefABCDEF") = sg hexS := rfl
theorem sg_empty {y : Str} (h : (y == Str.ofString "") = true) : sg y = [] := by rw [eq_of_beq h]; decide +kernel
theorem sg_some {y : Str} (h : (y == Str.ofString "") = false) : sg y ≠ [] := fun e => by
  have : y = Str.ofString "" := sg_inj (e.trans (by decide +kernel))
  rw [this] at h
  simp at h
theorem b_is : Str.ofString "b" = ⟨#[98]⟩ := by decide +kernel
theorem read_bits_call {w : World} {mean : ExcName → Option Value} {mg mb : Str → Option Value} {dp un : Nat} {gd : Option (List Code)} {cn : Str} {cs : Scope} {a : Addr} {ccd : Value} {cl : List (Str × Addr)} {outer : List Env} {A₀ : Around} {base h₀ : Heap} {L : Addr} {m : Str → Option Value} {s : Shared} {Q E : Value → Shared → Prop} {x dx : Addr} {k1 k2 t1 t2 : Tok} {t : Str} {b : Nat} {rest : List (Addr × Obj)} (B : Below A₀ base outer h₀) (F : Fr h₀ L s.heap m) (X : (hd.heap_39 w.params).In h₀) (T : Top hd.view_39 (looseW hd.view_39 [Str.ofString "SIMPLE"]) mean mg mb h₀) (hcs : cs.kind = .function) (hdp : dp + 60 < recursionLimit) (hun : un + 600 < cLine)
   (N : News h₀ L s.heap ((x, instObj 172 dx) :: (dx, scD w k1 k2 t1 t2 t (b : Int)) :: rest)) (hxd : x ≠ dx) (hrd : ∀ p ∈ rest, p.1 ≠ dx) (hb : b < t.length) (hl : t.length ≤ 2000)
   (ret : ∀ v n k r k3 k4 k5 t3 h' tk', bitsRes (sg t) b = some (v, n, k) → k ≤ t.length → Fr h₀ L h' m → News h₀ L h' ((r, tupObj [.str "bits" k3, .int (v : Int) k4, .int (n : Int) k5]) :: (x, instObj 172 dx) :: (dx, scD w k1 k2 t1 t3 t (k : Int)) :: rest) →
     (∀ p ∈ (x, instObj 172 dx) :: (dx, scD w k1 k2 t1 t3 t (k : Int)) :: rest, p.1 < r) → Q (.ref r) { s with heap := h', toks := tk' })
   (exc : ∀ e dxe k3 k4 z kz ti t3 i' G h' tk', bitsRes (sg t) b = none → Fr h₀ L G m → RaisedD base G (envX cn cs L a ccd cl :: outer) e 76 dxe ((dxe, faultD w k3 k4 z kz (b : Int) ti) :: (x, instObj 172 dx) :: (dx, scD w k1 k2 t1 t3 t i') :: rest) h' → G.UpToSlots h' → E (.ref e) { s with heap := h', toks := tk' }) :
   wpAny (model Challenge.rw_qz0006_03.row.prog w) (ktrTop dp un gd cn cs L a ccd cl outer) (call (.ref 155) [.ref x]) Q E s := by
  w_top off
  revert X; k_fill; intro X; refine wpAny_call ?_; k_dflt cell_enter
  have hi : (0 : Int) ≤ (b : Int) := Int.natCast_nonneg b
  k_steps
  · unfold Stop
    rename News _ _ _ _ => N1
    rename Fr _ _ _ _ => F1
    rename (_ == _) = true => hkb
    have hk := kind_yes (c := 98) hb (by rw [← b_is]; exact hkb)
    have hlen := (drop_head hk).2
    rw [sg_len] at hlen
    refine' run_of_call (b := b + 2) (rest := rest) ?r1 F1 ?r2 ?r3 ?r4 ?r5 ?r6 (cb_drop N1 ?r7) hxd hrd (by omega) hl ?r8 ?_
    case r1 => k_asm
    case r2 => k_asm
    case r3 => k_asm
    case r4 => walk_at "my_kind"
    case r5 => walk_at "my_room"
    case r6 => walk_at "my_room"
    case r7 => walk_at "my_sub"
    case r8 => exact Nat.le_of_ble_eq_true rfl
    intro y ty k t3 h' tk' q1 q2 q3 q4 F2 N2
    have hyh : ∀ c ∈ sg y, c ∈ sg hexS := fun c hc => bin_hex c (by rw [q1] at hc; exact runAt_in c hc)
    rw [zo_is] at q1
    have q2' : k = b + 2 + (sg y).length := by rw [sg_len]; exact q2
    k_steps
    · rename RaisedD _ _ _ _ _ _ _ _ => hR
      rename (y == _) = true => hye
      refine' exc _ _ _ _ _ _ _ _ _ _ _ _ (by rw [bits_b hk]; exact bitsOf_empty q1 (sg_empty hye)) ?aq1 (hR.sub ?bq1) (by assumption)
      (case bq1 => walk_at "my_sub")
      (case aq1 => k_asm)
    · rename RaisedD _ _ _ _ _ _ _ _ => hR
      rename ∃ c, (List.drop _ _).head? = some c ∧ _ => hends
      refine' exc _ _ _ _ _ _ _ _ _ _ _ _ (by rw [bits_b hk]; exact bitsOf_ends q1 q2' hends) ?aq2 (hR.sub ?bq2) (by assumption)
      (case bq2 => walk_at "my_sub")
      (case aq2 => k_asm)
    · rename (y == _) = false => hyne
      rename _ = ((val _ _ : Nat) : Int) => hval
      rename ∀ (c : Nat), _ → ¬ c ∈ sg simpleS => hends
      rename Fr _ _ _ _ => kF
      rename News _ _ _ _ => kN
      subst hval
      refine' ret _ (y.length) _ _ _ _ _ _ _ _ (by rw [bits_b hk]; exact (bitsOf_good q1 (sg_some hyne) q2' hends).trans (by rw [sg_len, Nat.one_mul])) q3 kF (cb_drop kN ?a1q3) ?a2q3
      case a1q3 => walk_at "my_sub"
      case a2q3 => walk_at "my_lts"
  · unfold Stop
    rename News _ _ _ _ => N1
    rename Fr _ _ _ _ => F1
    rename (_ == _) = false => hkb
    rename List.any _ _ = true => hany
    simp only [List.any_cons, List.any_nil, Bool.or_false, Bool.or_eq_true] at hany
    have hk : ((sg t).drop (b + 1)).head? = some 120 := by
      rcases hany with h | h
      · rw [Bool.beq_comm, hkb] at h
        cases h
      · rw [Bool.beq_comm] at h
        exact kind_yes hb h
    have hlen := (drop_head hk).2
    rw [sg_len] at hlen
    refine' run_of_call (b := b + 2) (rest := rest) ?r1 F1 ?r2 ?r3 ?r4 ?r5 ?r6 (cb_drop N1 ?r7) hxd hrd (by omega) hl ?r8 ?_
    case r1 => k_asm
    case r2 => k_asm
    case r3 => k_asm
    case r4 => walk_at "my_kind"
    case r5 => walk_at "my_room"
    case r6 => walk_at "my_room"
    case r7 => walk_at "my_sub"
    case r8 => exact Nat.le_of_ble_eq_true rfl
    intro y ty k t3 h' tk' q1 q2 q3 q4 F2 N2
    have hyh : ∀ c ∈ sg y, c ∈ sg hexS := fun c hc => by rw [q1] at hc; exact runAt_in c hc
    rw [hexS_is] at q1
    have q2' : k = b + 2 + (sg y).length := by rw [sg_len]; exact q2
    k_steps
    · rename RaisedD _ _ _ _ _ _ _ _ => hR
      rename (y == _) = true => hye
      refine' exc _ _ _ _ _ _ _ _ _ _ _ _ (by rw [bits_x hk]; exact bitsOf_empty q1 (sg_empty hye)) ?aq4 (hR.sub ?bq4) (by assumption)
      (case bq4 => walk_at "my_sub")
      (case aq4 => k_asm)
    · rename RaisedD _ _ _ _ _ _ _ _ => hR
      rename ∃ c, (List.drop _ _).head? = some c ∧ _ => hends
      refine' exc _ _ _ _ _ _ _ _ _ _ _ _ (by rw [bits_x hk]; exact bitsOf_ends q1 q2' hends) ?aq5 (hR.sub ?bq5) (by assumption)
      (case bq5 => walk_at "my_sub")
      (case aq5 => k_asm)
    · rename (y == _) = false => hyne
      rename _ = ((val _ _ : Nat) : Int) => hval
      rename ∀ (c : Nat), _ → ¬ c ∈ sg simpleS => hends
      rename Fr _ _ _ _ => kF
      rename News _ _ _ _ => kN
      subst hval
      refine' ret _ (4 * y.length) _ _ _ _ _ _ _ _ (by rw [bits_x hk]; exact (bitsOf_good q1 (sg_some hyne) q2' hends).trans (by rw [sg_len])) q3 kF (cb_drop kN ?a1q6) ?a2q6
      case a1q6 => walk_at "my_sub"
      case a2q6 => walk_at "my_lts"
  · rename List.any _ _ = false => hany
    rename RaisedD _ _ _ _ _ _ _ _ => hR
    simp only [List.any_cons, List.any_nil, Bool.or_false, Bool.or_eq_false_iff] at hany
    refine' exc _ _ _ _ _ _ _ _ _ _ _ _ (bits_none (kind_no hb (c := 98) ?b1q7) (kind_no hb (c := 120) ?b2q7)) ?aq7 (hR.sub ?bq7) (by assumption)
    (case bq7 => walk_at "my_sub")
    (case aq7 => k_asm)
    (case b1q7 => rw [Bool.beq_comm]; exact hany.1)
    (case b2q7 => rw [Bool.beq_comm]; exact hany.2)

end
section
local macro_rules | `(tactic| walk_at "my_pad0") => `(tactic| skip)
local macro_rules | `(tactic| walk_at "my_pad1") => `(tactic| skip)
local macro_rules | `(tactic| walk_at "my_pad2") => `(tactic| skip)
local macro_rules | `(tactic| walk_at "my_pad3") => `(tactic| skip)
local macro_rules | `(tactic| walk_at "my_pad4") => `(tactic| skip)
local macro_rules | `(tactic| walk_at "my_pad5") => `(tactic| skip)
local macro_rules | `(tactic| walk_at "my_pad6") => `(tactic| skip)
local macro_rules | `(tactic| walk_at "my_pad7") => `(tactic| skip)
local macro_rules | `(tactic| walk_at "my_pad8") => `(tactic| skip)
local macro_rules | `(tactic| walk_at "my_pad9") => `(tactic| skip)
section
open PySem.Builtin PySem.Builtin.ObjectAttr
variable {prog : Program} {w : World} {A : Around} {E : Value → Shared → Prop} {s : Shared} {K : Frag} {x C : Addr} {ox : Obj} {od : Option Obj} {name : Str} {expr : Bool} {Q : Value → Shared → Prop} {v : Value}
theorem bga_kind : builtinKind "BaseException.__getattribute__" = some .slot := by decide +kernel
theorem bga_split : splitId "BaseException.__getattribute__" = some ("BaseException", "__getattribute__") := by decide +kernel

theorem exc_ga_code {tk : Tok} {R : Result → Shared → Prop} (X : K.In s.heap) (I : InstAt s.heap x ox C od) (hb : mroIn K C (.type "BaseException") = some true) (hf : findObj K C od name = some (.value v)) (h : R (.ok (.ret v)) s) :
    codeAny (model prog w) A (.call (.builtin "BaseException.__getattribute__") ⟨[.ref x, .str name tk], []⟩) R s := by
  have sub : Looks (model prog w) s.heap (isInstance (.ref x) (.type "BaseException")) true := I.type.andThen (looks_mroIn X hb)
  refine codeAny_call_builtin PySem.F.attr_Exception.ga.plain PySem.F.entry_bexc_ga (@check_slot (model prog w) _ _ s "BaseException.__getattribute__" "BaseException" "__getattribute__" (.ref x) [.str name tk] [] _ bga_kind bga_split sub (PySem.F.args_bexc_ga (.ref x) (.str name tk)) ?_)
  have L0 := I.type (M := model prog w)
  have L1 := looks_find (M := model prog w) X I hf
  unfold Builtin.«object.__getattribute__»
  refine wpAny_bind (wpAny_pure (wpAny_bind (wpAny_pure (wpAny_bind (L0.here (wpAny_bind (L1.here ?_)))))))
  exact wpAny_pure h

theorem exc_get (X : K.In s.heap) (I : InstAt s.heap x ox C od) (hga : findIn K (.ref C) "__getattribute__" = some (some (.builtin "BaseException.__getattribute__"))) (hgn : findIn K (.ref C) "__getattr__" = some none)
    (hb : mroIn K C (.type "BaseException") = some true) (hf : findObj K C od name = some (.value v)) (hh : handedIn v = true) (h : Q v { s with toks := s.toks + 1 }) :
    wpAny (model prog w) A (getAttr (.ref x) name expr) Q E s := by
  obtain ⟨hp, g, d, t, os⟩ := s
  have L0 := I.type (M := model prog w)
  have L1 := looks_findIn (M := model prog w) X hga
  have L2 := looks_findIn (M := model prog w) X hgn
  have hx0 : (expr && onTheHeap (Value.builtin "BaseException.__getattribute__")) = false := by cases expr <;> rfl
  have hx2 : (Value.builtin "BaseException.__getattribute__" == Value.builtin "object.__getattribute__") = false := by decide +kernel
  have hx1 : (onTheHeap (Value.ref C) && Value.builtin "BaseException.__getattribute__" == Value.builtin "object.__getattribute__") = false := by rw [hx2]; rfl
  have f3 := PySem.F.attr_Exception.ga.bind (.ref x)
  unfold getAttr getAttrBy
  refine wpAny_bind (wpAny_mkText (wpAny_holding (wpAny_bind (L0.at (wpAny_bind (L1.at ?_))))))
  dsimp only
  rw [hx1]
  show wpAny _ _ (getAttrByItsOwn _ _ _ _ _ _) _ _ _
  unfold getAttrByItsOwn hookBefore callGetattribute
  rw [hx0]
  refine wpAny_bind ?_
  rw [if_pos (by rfl)]
  refine L2.at ?_
  rw [if_neg (by decide)]
  unfold boundAndCalled
  repeat (first | assumption | wp_step)
  refine exc_ga_code (s := ⟨hp, g, d, t + 1, os⟩) X I hb hf ?_
  show wpAny _ _ (handedOut v) _ _ _
  rw [handedOut_of hh]
  exact wpAny_pure h

/-- an attribute out of an exception's own dict -/
theorem exc_own {h₀ : Heap} {L dx : Addr} {m : Str → Option Value} {vs : Array Value} {es : List DictEntry} {n : Nat} {news : List (Addr × Obj)} (F : Fr h₀ L s.heap m) (X₀ : K.In h₀) (N : News h₀ L s.heap news)
    (h1 : (x, (⟨.ref C, some dx, .fields vs, #[]⟩ : Obj)) ∈ news) (h2 : (dx, dictOf es n) ∈ news) (hga : findIn K (.ref C) "__getattribute__" = some (some (.builtin "BaseException.__getattribute__"))) (hgn : findIn K (.ref C) "__getattr__" = some none)
    (hb : mroIn K C (.type "BaseException") = some true) (hd : hasDictIn K C = true) (ha : findIn K (.ref C) name = some none) (hl : getL name es = some (some v)) (hh : handedIn v = true) (h : Q v { s with toks := s.toks + 1 }) :
    wpAny (model prog w) A (getAttr (.ref x) name expr) Q E s :=
  exc_get (X₀.keeps F.keep) (inst_exc1 N h1 h2) hga hgn hb (findObj_own hd ha rfl hl) hh h
end

end
section
local macro_rules | `(tactic| walk_at "my_pad0") => `(tactic| skip)
local macro_rules | `(tactic| walk_at "my_pad1") => `(tactic| skip)
local macro_rules | `(tactic| walk_at "my_pad2") => `(tactic| skip)
local macro_rules | `(tactic| walk_at "call ref") => `(tactic| ((with_reducible show wpAny _ _ (call (Value.ref 76) [Value.str _ _, Value.int _ _]) _ _ _); (refine' fault_call ?k1 ?k2 ?k3 ?k4 ?k5 ?k6 ?k7 ?k8 ?_; (case k1 => k_asm); (case k2 => k_asm); (case k3 => k_asm); (case k4 => k_asm); (case k5 => k_asm); (case k6 => walk_at "my_kind"); (case k7 => walk_at "my_room"); (case k8 => walk_at "my_room")); intro e' T' dx' k3' k4' h' tk' F' N' l1; (try k_sweep)))
local macro_rules | `(tactic| walk_at "my_go0") => `(tactic| (refine' code_defS0 ?k1 ?k2 ?k3 ?k4 ?k5 ?kA ?k6 ?k7 ?k8 ?k9 ?kB ?_ ?cK ?c2 ?c3 ?c4 ?c5; (case kA => exact rfl); (case k2 => k_asm); (case k1 => k_asm); (case k3 => k_asm); (case k4 => k_asm); (case k5 => k_asm); (case k6 => k_is); (case k7 => k_is); (case k8 => ktr_room); (case k9 => exact BindsTo.of_eq rfl); (case kB => exact locs rfl); (case cK => assumption); (case c2 => exact rfl); (case c3 => exact rfl); (case c4 => exact rfl); (case c5 => decide); k_whole; intro g' L' h' FG' F' N' B' X' T' D'; (try dsimp only); (try k_lift B'); (try k_fold)))
local macro_rules | `(tactic| walk_at "my_goS") => `(tactic| (refine' code_defS ?k1 ?k2 ?k3 ?k4 ?k5 ?XB ?TB ?D ?T0 ?kA ?k6 ?k7 ?k8 ?k9 ?kB ?_ ?cK ?c2 ?c3 ?c4 ?c5; (case kA => exact rfl); (case k2 => k_asm); (case k1 => k_asm); (case XB => assumption); (case TB => assumption); (case D => assumption); (case T0 => first | assumption | exact KtsTurn.refl); (case k3 => k_asm); (case k4 => k_asm); (case k5 => k_asm); (case k6 => k_is); (case k7 => k_is); (case k8 => ktr_room); (case k9 => exact BindsTo.of_eq rfl); (case kB => exact locs rfl); (case cK => assumption); (case c2 => exact rfl); (case c3 => exact rfl); (case c4 => exact rfl); (case c5 => decide); k_whole; intro g' L' h' FG' F' N' B' X' T' D'; (try dsimp only); (try k_lift B'); (try k_fold)))
local macro_rules | `(tactic| walk_at "my_goC") => `(tactic| (refine' code_defC ?k1 ?k2 ?k3 ?k4 ?k5 ?kA ?kF ?kK ?k6 ?k7 ?k8 ?k9 ?kB ?kD ?_ ?c2 ?c3 ?c4; (case kA => exact rfl); (case kF => exact rfl); (case kK => assumption); (case k1 => k_asm); (case k2 => k_asm); (case k3 => k_asm); (case k4 => k_asm); (case k5 => k_asm); (case k6 => k_is); (case k7 => k_is); (case k8 => ktr_room); (case k9 => exact BindsTo.of_eq rfl); (case kB => exact rfl); (case kD => decide +kernel); (case c2 => exact rfl); (case c3 => exact rfl); (case c4 => exact rfl); k_whole; intro g' L' h' tk' cells' FG' F' N' Y' B' X' T' l1; (try k_lt l1); k_cells Y'; (try simp only [List.cons_append, List.nil_append] at N'); (try dsimp only); (try k_lift B'); (try k_fold)))
local macro_rules | `(tactic| walk_at "noteFrame ref") => `(tactic| ((with_reducible show wpAny _ _ (noteFrame _ _) (fun _ s₂ => wpAny _ _ (setFlight _ none) (fun _ s₃ => wpAny _ _ (handleBy _ _ (ExceptHandler.ExceptHandler (some (Expr.Name ("SyntaxFault" : Str) _)) (some _) _ _ :: _)) _ _ s₃) _ s₂) _ _); k_dflt (refine' caught_D ?R ?F ?K ?U ?XB ?TB ?D ?T0 ?ex ?q ?_; (case R => assumption); (case F => assumption); (case K => assumption); (case U => assumption); (case XB => assumption); (case TB => assumption); (case D => assumption); (case T0 => first | assumption | exact KtsTurn.refl); (case ex => k_is); (case q => kts_isx); k_whole); intro h' g' tk' vs' T' F' N' K' X' P' D'; (try k_lift K'); (try k_sweep)))
local macro_rules | `(tactic| walk_at "getAttr ref") => `(tactic| ((with_reducible show wpAny _ _ (getAttr (Value.ref _) ("spot" : Str) _) _ _ _); k_dflt (refine' exc_own (C := 76) ?k1 ?k2 ?k3 ?k4 ?k5 ?k6 ?k7 ?k8 ?k9 ?k10 ?k11 ?k12 ?_; (case k1 => k_asm); (case k2 => k_asm); (case k3 => k_asm); (case k4 => k_mem); (case k5 => k_mem); (case k6 => kernel_rfl); (case k7 => kernel_rfl); (case k8 => k_is); (case k9 => kernel_rfl); (case k10 => kernel_rfl); (case k11 => rfl); (case k12 => rfl))))
local macro_rules | `(tactic| walk_at "my_rb3") => `(tactic| ((first | with_reducible show wpAny _ _ (call (Value.ref 155) _) _ _ _ | with_reducible show wpAny _ _ (call (Value.ref 155, _).fst _) _ _ _); k_dflt (refine' read_bits_call ?k1 ?k2 ?k3 ?k4 ?k5 ?k6 ?k7 ?k8 ?k9 ?k10 ?k11 ?k12 ?rt ?ex; (case k1 => k_asm); (case k2 => k_asm); (case k3 => k_asm); (case k4 => k_asm); (case k5 => walk_at "my_kind"); (case k6 => walk_at "my_room"); (case k7 => walk_at "my_room"); (case k8 => k_asm); (case k9 => exact Ne.symm (Nat.ne_of_lt (by assumption))); (case k10 => exact fun p9 h9 => Nat.ne_of_lt ((by assumption : ∀ (p : Addr × Obj), p ∈ _ → p.1 < _) p9 h9)); (case k11 => assumption); (case k12 => assumption); (case' rt => (intro v' n' k' r' k3' k4' k5' t3' h' tk' q1' q2' F' N' l1; (try k_lt l1); (try k_sweep))); (case' ex => (intro e' dx' k3' k4' z' kz' ti' t3' i' G' h' tk' q1' F' R' U'; (try k_sweep))))))
local macro_rules | `(tactic| walk_at "call ref") => `(tactic| first | walk_at "my_rb3")
theorem read0 {w : World} {mean : ExcName → Option Value} {mg mb : Str → Option Value} {dp un : Nat} {gd : Option (List Code)} {cn : Str} {cs : Scope} {a : Addr} {ccd : Value} {A₀ : Around} {base h₀ : Heap} {L : Addr} {m : Str → Option Value} {s : Shared} {Q E : Value → Shared → Prop} {tq tb : Tok} {t : Str} {b : Nat} {rest : List (Addr × Obj)} (B : Below A₀ base [] h₀) (F : Fr h₀ L s.heap m) (X : (hd.heap_39 w.params).In h₀) (T : Top hd.view_39 (looseW hd.view_39 [Str.ofString "SIMPLE"]) mean mg mb h₀) (hcs : cs.kind = .function) (XB : (hd.heap_39 w.params).In base) (TB : Top hd.view_39 (looseW hd.view_39 [Str.ofString "SIMPLE"]) mean mg mb base) (hdp : dp + 80 < recursionLimit) (hun : un + 800 < cLine)
   (N : News h₀ L s.heap rest) (hbl : b < t.length) (hl : t.length ≤ 2000)
   (ret : ∀ v n k p r k3 k4 k5 k6 h' tk', bitsRes (sg t) b = some (v, n, k) → k ≤ t.length → Fr h₀ L h' m → News h₀ L h' ((p, tupObj [.ref r, .int (k : Int) k6]) :: (r, tupObj [.str "bits" k3, .int (v : Int) k4, .int (n : Int) k5]) :: rest) →
     (∀ q ∈ (r, tupObj [.str "bits" k3, .int (v : Int) k4, .int (n : Int) k5]) :: rest, q.1 < p) → (∀ q ∈ rest, q.1 < r) → Q (.ref p) { s with heap := h', toks := tk' })
   (bad : ∀ p k5 h' tk', bitsRes (sg t) b = none → Fr h₀ L h' m → News h₀ L h' ((p, tupObj [.none, .int (b : Int) k5]) :: rest) → (∀ q ∈ rest, q.1 < p) → Q (.ref p) { s with heap := h', toks := tk' }) :
   wpAny (model Challenge.rw_qz0006_03.row.prog w) (ktrTop dp un gd cn cs L a ccd [] []) (call (.ref 204) [.str t tq, .int (b : Int) tb]) Q E s := by
  w_top off
  revert X XB; k_fill; intro X XB; refine wpAny_call ?_; k_dflt (walk_at "my_go0")
  have hi : (0 : Int) ≤ (b : Int) := Int.natCast_nonneg b
  k_steps
  all_goals (rename Fr _ _ _ _ => kF; rename News _ _ _ _ => kN)
  · with_reducible rename _ ∧ _ ∧ _ ∧ _ ∧ AllLt _ _ => l9
    exact bad _ _ _ _ (by assumption) kF (cb_drop kN (by walk_at "my_sub")) (allLt_mem l9.2.2.2.2)
  · with_reducible rename _ ∧ _ ∧ _ ∧ AllLt _ _ => l9
    with_reducible rename _ ∧ _ ∧ AllLt _ _ => l8
    exact ret _ _ _ _ _ _ _ _ _ _ _ (by assumption) (by assumption) kF (cb_drop kN (by walk_at "my_sub")) (List.forall_mem_cons.mpr ⟨l9.1, allLt_mem l9.2.2.2⟩) (allLt_mem l8.2.2)
theorem readS {w : World} {mean : ExcName → Option Value} {mg mb : Str → Option Value} {dp un : Nat} {gd : Option (List Code)} {cn : Str} {cs : Scope} {a : Addr} {ccd : Value} {outer : List Env} {A₀ : Around} {base h₀ : Heap} {L : Addr} {m : Str → Option Value} {s : Shared} {Q E : Value → Shared → Prop} {g₀ : Heap} {tq tb : Tok} {t : Str} {b : Nat} {rest : List (Addr × Obj)} (B : Below A₀ base outer h₀) (F : Fr h₀ L s.heap m) (X : (hd.heap_39 w.params).In h₀) (T : Top hd.view_39 (looseW hd.view_39 [Str.ofString "SIMPLE"]) mean mg mb h₀) (hcs : cs.kind = .function) (XB : (hd.heap_39 w.params).In base) (TB : Top hd.view_39 (looseW hd.view_39 [Str.ofString "SIMPLE"]) mean mg mb base) (D : KtsDicts (outer.filterMap (·.frame)) h₀) (T0 : KtsTurn (outer.filterMap (·.frame)) g₀ h₀) (hdp : dp + 80 < recursionLimit) (hun : un + 800 < cLine)
   (N : News h₀ L s.heap rest) (hbl : b < t.length) (hl : t.length ≤ 2000)
   (ret : ∀ v n k p r k3 k4 k5 k6 h' tk', bitsRes (sg t) b = some (v, n, k) → k ≤ t.length → Fr h₀ L h' m → News h₀ L h' ((p, tupObj [.ref r, .int (k : Int) k6]) :: (r, tupObj [.str "bits" k3, .int (v : Int) k4, .int (n : Int) k5]) :: rest) →
     (∀ q ∈ (r, tupObj [.str "bits" k3, .int (v : Int) k4, .int (n : Int) k5]) :: rest, q.1 < p) → (∀ q ∈ rest, q.1 < r) → Q (.ref p) { s with heap := h', toks := tk' })
   (bad : ∀ g' p k5 h' tk', bitsRes (sg t) b = none → KtsTurn (outer.filterMap (·.frame)) g₀ g' → Below A₀ base outer g' → (hd.heap_39 w.params).In g' → Top hd.view_39 (looseW hd.view_39 [Str.ofString "SIMPLE"]) mean mg mb g' → KtsDicts (outer.filterMap (·.frame)) g' → Fr g' L h' m → News g' L h' ((p, tupObj [.none, .int (b : Int) k5]) :: rest) → (∀ q ∈ rest, q.1 < p) → Q (.ref p) { s with heap := h', toks := tk' }) :
   wpAny (model Challenge.rw_qz0006_03.row.prog w) (ktrTop dp un gd cn cs L a ccd [] outer) (call (.ref 204) [.str t tq, .int (b : Int) tb]) Q E s := by
  w_top off
  revert X XB; k_fill; intro X XB; refine wpAny_call ?_; k_dflt (walk_at "my_goS")
  have hi : (0 : Int) ≤ (b : Int) := Int.natCast_nonneg b
  k_steps
  all_goals (rename Fr _ _ _ _ => kF; rename News _ _ _ _ => kN)
  · with_reducible rename _ ∧ _ ∧ _ ∧ _ ∧ AllLt _ _ => l9
    exact bad _ _ _ _ _ (by assumption) (by assumption) (by assumption) (by assumption) (by assumption) (by assumption) kF (cb_drop kN (by walk_at "my_sub")) (allLt_mem l9.2.2.2.2)
  · with_reducible rename _ ∧ _ ∧ _ ∧ AllLt _ _ => l9
    with_reducible rename _ ∧ _ ∧ AllLt _ _ => l8
    exact ret _ _ _ _ _ _ _ _ _ _ _ (by assumption) (by assumption) kF (cb_drop kN (by walk_at "my_sub")) (List.forall_mem_cons.mpr ⟨l9.1, allLt_mem l9.2.2.2⟩) (allLt_mem l8.2.2)
theorem readG {w : World} {mean : ExcName → Option Value} {mg mb : Str → Option Value} {dp un : Nat} {gd : Option (List Code)} {cn : Str} {cs : Scope} {a : Addr} {ccd : Value} {outer : List Env} {A₀ : Around} {base h₀ : Heap} {L : Addr} {m : Str → Option Value} {s : Shared} {Q E : Value → Shared → Prop} {g₀ : Heap} {tq tb : Tok} {t : Str} {b v n k : Nat} {rest : List (Addr × Obj)} (B : Below A₀ base outer h₀) (F : Fr h₀ L s.heap m) (X : (hd.heap_39 w.params).In h₀) (T : Top hd.view_39 (looseW hd.view_39 [Str.ofString "SIMPLE"]) mean mg mb h₀) (hcs : cs.kind = .function) (XB : (hd.heap_39 w.params).In base) (TB : Top hd.view_39 (looseW hd.view_39 [Str.ofString "SIMPLE"]) mean mg mb base) (D : KtsDicts (outer.filterMap (·.frame)) h₀) (T0 : KtsTurn (outer.filterMap (·.frame)) g₀ h₀) (hdp : dp + 80 < recursionLimit) (hun : un + 800 < cLine)
   (N : News h₀ L s.heap rest) (hbl : b < t.length) (hl : t.length ≤ 2000) (hg : bitsRes (sg t) b = some (v, n, k))
   (ret : ∀ p r k3 k4 k5 k6 h' tk', Fr h₀ L h' m → News h₀ L h' ((p, tupObj [.ref r, .int (k : Int) k6]) :: (r, tupObj [.str "bits" k3, .int (v : Int) k4, .int (n : Int) k5]) :: rest) →
     (∀ q ∈ (r, tupObj [.str "bits" k3, .int (v : Int) k4, .int (n : Int) k5]) :: rest, q.1 < p) → (∀ q ∈ rest, q.1 < r) → Q (.ref p) { s with heap := h', toks := tk' }) :
   wpAny (model Challenge.rw_qz0006_03.row.prog w) (ktrTop dp un gd cn cs L a ccd [] outer) (call (.ref 204) [.str t tq, .int (b : Int) tb]) Q E s :=
  readS B F X T hcs XB TB D T0 hdp hun N hbl hl (fun v' n' k' p r k3 k4 k5 k6 h' tk' e _ F' N' l1 l2 => by
    rw [hg] at e
    cases e
    exact ret p r k3 k4 k5 k6 h' tk' F' N' l1 l2) (fun _ _ _ _ _ e => by rw [hg] at e; cases e)

end
section
local macro_rules | `(tactic| walk_at "my_pad0") => `(tactic| skip)
local macro_rules | `(tactic| walk_at "my_pad1") => `(tactic| skip)
local macro_rules | `(tactic| walk_at "my_pad2") => `(tactic| skip)
local macro_rules | `(tactic| walk_at "my_pad3") => `(tactic| skip)
local macro_rules | `(tactic| walk_at "my_pad4") => `(tactic| skip)
local macro_rules | `(tactic| walk_at "my_pad5") => `(tactic| skip)
local macro_rules | `(tactic| walk_at "my_pad6") => `(tactic| skip)
local macro_rules | `(tactic| walk_at "my_pad7") => `(tactic| skip)
local macro_rules | `(tactic| walk_at "my_pad8") => `(tactic| skip)
local macro_rules | `(tactic| walk_at "my_pad9") => `(tactic| skip)
local macro_rules | `(tactic| walk_at "my_pad10") => `(tactic| skip)
local macro_rules | `(tactic| walk_at "my_pad11") => `(tactic| skip)
theorem str_no_rev : typeLookup (.type "str") "__reversed__" = pure none := by rw [typeLookup_type, builtinLookup_eq_fast]; kernel_rfl
theorem str_no_dict : isSubtype (.type "str") (.type "dict") = pure false := by rw [isSubtype_type]; kernel_rfl
theorem meets_rev_newS (x : Str) (t : Tok) (hx : x.length ≤ 2000) : Meets (Builtin.«reversed.__new__» ⟨[.type "reversed", .str x t], []⟩) (fun _ R s =>
   ∀ tk, R (.ok (.ret (.ref s.heap.objs.size))) { s with heap := s.heap.push { cls := .type "reversed", data := .fields #[.str x t, rawInt ((x.length : Int) - 1)] }, toks := tk }) :=
  .of_wp fun prog w A R s h => by
    obtain ⟨hp, g, d, tk, os⟩ := s
    have hsub := PySem.F.sub_reversed_self
    unfold Builtin.«reversed.__new__»
    refine wpAny_bind (wpAny_of_eq (newClass_reversed _) ?_)
    try dsimp only
    refine wpAny_bind (wpAny_of_eq (a := ()) (by first | rfl | kernel_rfl) ?_)
    refine wpAny_bind (wpAny_of_eq (a := ()) (by first | rfl | kernel_rfl) ?_)
    try dsimp only
    refine wpAny_bind (wpAny_specialOf (typeIs_str _ _ _) str_no_rev ?_)
    try dsimp only
    refine wpAny_bind ?_
    refine wpAny_bind (wpAny_isInstance (typeIs_str _ _ _) str_no_dict ?_)
    try dsimp only
    rw [if_neg Bool.false_ne_true]
    refine wpAny_bind (wpAny_specialOf (typeIs_str _ _ _) PySem.F.slot_str_getitem.lookup ?_)
    try dsimp only
    rw [if_pos (by decide +kernel)]
    refine wpAny_pure ?_
    rw [if_neg (by decide)]
    refine wpAny_bind (len_str (by omega) ?_)
    refine wpAny_bind (wpAny_of_eq (a := some (x.length : Int)) (by rfl) ?_)
    try dsimp only
    refine wpAny_bind ?_
    unfold Builtin.SmallTypes.newRecord
    refine wpAny_newObj_type ?_
    exact wpAny_pure ⟨_, rfl, h _⟩
theorem slot_rev_init : Slot "reversed" "__init__" "object.__init__" :=
  .of (owner := "object") (n := "__init__") (by rw [typeLookup_type, builtinLookup_eq_fast]; kernel_rfl) (by decide +kernel) (by decide +kernel) (by decide +kernel)
    (by first | exact .inl (by decide +kernel) | exact .inr (by decide +kernel)) (by rw [isSubtype_type]; kernel_rfl)
theorem called_rev : TypeCalled "reversed" "reversed.__new__" "object.__init__" :=
  ⟨by decide +kernel, by decide +kernel, ⟨_, _, PySem.F.mro_reversed⟩, PySem.F.made_reversed, by decide +kernel, by rw [isSubtype_type]; kernel_rfl, slot_rev_init⟩
def revObj (x : Str) (t : Tok) (i : Int) : Obj := { cls := .type "reversed", data := .fields #[.str x t, rawInt i] }
section
variable {prog : Program} {w : World} {A : Around} {E : Value → Shared → Prop} {s : Shared}
theorem call_rev_str {x : Str} {t : Tok} {Q : Value → Shared → Prop} (hx : x.length ≤ 2000)
    (h : ∀ tk, Q (.ref s.heap.objs.size) { s with heap := s.heap.push (revObj x t ((x.length : Int) - 1)), toks := tk }) : wpAny (model prog w) A (call (.type "reversed") [.str x t]) Q E s := by
  refine callType_new called_rev (by decide) (PySem.F.typeCall_reversed_1 _) (PySem.F.newCall_reversed_1 _) (fun obj => PySem.F.args_object_init_2 obj _) PySem.F.entry_reversed_new
    (meets_rev_newS x t hx) ?_
  intro tk
  exact ⟨⟨_, Heap.get?_push_size _ rfl, rfl⟩, h tk⟩
theorem owner_rev : Manifest.owners.lookup (String.ofList ['d', 'e', 's', 'r', 'e', 'v', 'e', 'r'].reverse) = some Manifest.sig_reversed := by kernel_rfl
theorem slot_rev_next : Slot "reversed" "__next__" "reversed.__next__" :=
  .of (owner := "reversed") (n := "__next__") (by rw [typeLookup_type, builtinLookup_eq_fast]; kernel_rfl) (by decide +kernel) (by decide +kernel) (by decide +kernel)
    (by first | exact .inl (by decide +kernel) | exact .inr (by decide +kernel)) (by rw [isSubtype_type]; kernel_rfl)
theorem entry_rev_next : entryFor table "reversed.__next__" = some Builtin.«reversed.__next__» := entryFor_of_tree (by kernel_rfl)
theorem args_rev_next_1 (a : Value) : argsOk "reversed.__next__" ⟨[a], []⟩ := by
  unfold argsOk; rw [signature?_of (id := "reversed.__next__") (n := ['_', '_', 't', 'x', 'e', 'n', '_', '_']) (o := ['d', 'e', 's', 'r', 'e', 'v', 'e', 'r']) (by kernel_rfl) owner_rev]; kernel_rfl
theorem slot_rev_iter : Slot "reversed" "__iter__" "reversed.__iter__" :=
  .of (owner := "reversed") (n := "__iter__") (by rw [typeLookup_type, builtinLookup_eq_fast]; kernel_rfl) (by decide +kernel) (by decide +kernel) (by decide +kernel)
    (by first | exact .inl (by decide +kernel) | exact .inr (by decide +kernel)) (by rw [isSubtype_type]; kernel_rfl)
theorem args_rev_iter_1 (a : Value) : argsOk "reversed.__iter__" ⟨[a], []⟩ := by
  unfold argsOk; rw [signature?_of (id := "reversed.__iter__") (n := ['_', '_', 'r', 'e', 't', 'i', '_', '_']) (o := ['d', 'e', 's', 'r', 'e', 'v', 'e', 'r']) (by kernel_rfl) owner_rev]; kernel_rfl
theorem entry_rev_iter : entryFor table "reversed.__iter__" = some Builtin.«dict_keyiterator.__iter__» :=
  entryFor_alias (id' := "dict_keyiterator.__iter__") (by kernel_rfl) (by first | rfl | decide +kernel | (unfold String.splitOn; simp +decide [String.splitOnAux])) (by decide +kernel) (by kernel_rfl)
def IsRev (h : Heap) (a : Addr) (x : Str) (t : Tok) (i : Int) : Prop := h.get? a = some (revObj x t i)
theorem iter_rev {it : Addr} {x : Str} {t : Tok} {i : Int} {Q : Value → Shared → Prop} (hit : IsRev s.heap it x t i) (h : Q (.ref it) s) : wpAny (model prog w) A (pyIter (.ref it)) Q E s := by
  have hT : s.TypeIs (.ref it) "reversed" := ⟨_, hit, rfl⟩
  refine wpAny_pyIter_slot hT slot_rev_iter (wpAny_call_entry slot_rev_iter hT entry_rev_iter ?_ (args_rev_iter_1 _))
  show wpAny _ _ (ret (.ref it)) _ _ s
  exact wpAny_pure ⟨_, rfl, "reversed", _, hT, slot_rev_next.lookup, h⟩
theorem next_rev_item {it : Addr} {x : Str} {t : Tok} {i : Nat} {Q : Value → Shared → Prop} (hit : IsRev s.heap it x t (i : Int)) (hi : i < x.length) (hl : x.length ≤ 2000)
    (hQ : ∀ h' tk tv, IsRev h' it x t ((i : Int) - 1) → Heap.SameBut it s.heap h' → Q (.str (Txt.item x (i : Int)) tv) { s with heap := h', toks := tk }) : wpAny (model prog w) A (Builtin.SmallTypes.nextOf (.ref it)) Q E s := by
  have hT : s.TypeIs (.ref it) "reversed" := ⟨_, hit, rfl⟩
  have hd : (revObj x t (i : Int)).data = .fields #[.str x t, rawInt (i : Int)] := rfl
  unfold Builtin.SmallTypes.nextOf
  refine wpAny_bind (wpAny_callSpecial?_slot (name := Str.ofString "__next__") hT slot_rev_next
    (wpAny_call_entry slot_rev_next hT entry_rev_next ?_ (args_rev_next_1 _)))
  unfold Builtin.«reversed.__next__»
  refine wpAny_bind (wpAny_of_eq (a := (Value.ref it, [])) rfl ?_)
  try dsimp only
  refine wpAny_bind (wpAny_field hit hd (x := .str x t) rfl ?_)
  refine wpAny_bind (wpAny_field hit hd (x := rawInt (i : Int)) rfl ?_)
  show wpAny _ _ (if (i : Int) < 0 then _ else _) _ _ _
  rw [if_neg (by omega)]
  refine wpAny_bind (wpAny_specialOf (typeIs_str _ _ _) PySem.F.slot_str_getitem.lookup ?_)
  try dsimp only
  rw [if_neg (by decide)]
  refine wpAny_bind (wpAny_mkInt ?_)
  obtain ⟨T, id, _, _, hg⟩ := SB.item (prog := prog) (w := w) (A := A.in1) (E := fun e s' => False) (s := { s with toks := s.toks + 1 }) (x := x) (t := t) (u := s.toks) (i := (i : Int))
    (Q := fun v s' => v = .str (Txt.item x (i : Int)) (s.toks + 1) ∧ s' = { s with toks := s.toks + 1 + 1 }) (fitsSsize_of (N := 9223372036854775808) (by omega) (by omega) (Int.le_refl _)) (charAt_isSome (by omega) (by omega)) ⟨rfl, rfl⟩
  refine wpAny_bind (wpAny_attempt (wpAny_mono hg (fun v s' h => ?_) fun _ _ h => h.elim))
  obtain ⟨rfl, rfl⟩ := h
  try dsimp only
  refine wpAny_bind (wpAny_field hit hd (x := rawInt (i : Int)) rfl ?_)
  show wpAny _ _ (setField (.ref it) 1 (rawInt ((i : Int) - 1)) >>= _) _ _ _
  refine wpAny_bind (wpAny_setField hit hd (by simp) ?_)
  refine wpAny_pure ⟨_, rfl, wpAny_pure (hQ _ _ _ ?_ (Heap.SameBut.update ..))⟩
  exact Heap.get?_update_self _ hit (Obj.isFreed_of_fields (Obj.data_mapFields hd _))
theorem next_rev_end {it : Addr} {x : Str} {t : Tok} {Q : Value → Shared → Prop} (hh : A.handled = none) (hit : IsRev s.heap it x t (-1))
    (hE : ∀ h' e, Heap.ExtBut it s.heap h' → (∃ o, h'.get? e = some o ∧ o.cls = .type "StopIteration") → E (.ref e) { s with heap := h' }) : wpAny (model prog w) A (Builtin.SmallTypes.nextOf (.ref it)) Q E s := by
  have hT : s.TypeIs (.ref it) "reversed" := ⟨_, hit, rfl⟩
  have hd : (revObj x t (-1)).data = .fields #[.str x t, rawInt (-1)] := rfl
  unfold Builtin.SmallTypes.nextOf
  refine wpAny_bind (wpAny_callSpecial?_slot (name := Str.ofString "__next__") hT slot_rev_next
    (wpAny_call_entry slot_rev_next hT entry_rev_next ?_ (args_rev_next_1 _)))
  unfold Builtin.«reversed.__next__»
  refine wpAny_bind (wpAny_of_eq (a := (Value.ref it, [])) rfl ?_)
  try dsimp only
  refine wpAny_bind (wpAny_field hit hd (x := .str x t) rfl ?_)
  refine wpAny_bind (wpAny_field hit hd (x := rawInt (-1)) rfl ?_)
  show wpAny _ _ (if (-1 : Int) < 0 then _ else _) _ _ _
  rw [if_pos (by decide)]
  refine wpAny_bind (wpAny_rule ?_)
  refine wpAny_bind ?_
  refine wpAny_bind (wpAny_setField_rec hit (by simp) fun h1 g1 s1 => ?_)
  refine wpAny_setField_rec g1 (by simp) fun h2 g2 s2 => ?_
  refine wpAny_bind ?_
  show wpAny _ _ (newExc (.type "StopIteration") [] >>= _) _ _ _
  refine wpAny_bind ?_
  simp only [newExc, newTuple]
  refine wpAny_bind (wpAny_newObj_type ?_ (by size_fits))
  refine wpAny_bind (m := firstArgMember _ _) (wpAny_of_eq (a := Value.none) (by first | rfl | (simp only [firstArgMember]; rfl)) ?_)
  refine wpAny_newObj_type ?_ (by size_fits)
  simp only [raiseNew]
  refine wpAny_bind (wpAny_handled ?_)
  first | rw [show A.in1.handled = none from hh] | rw [hh]
  refine wpAny_bind (wpAny_pure (wpAny_throw ?_))
  refine hE _ _ ?_ ⟨_, Heap.get?_push_size _ rfl, rfl⟩
  refine Heap.ExtBut.push (Heap.ExtBut.push ?_ _) _
  intro b o hb e
  exact s2.extBut b o hb (s1.extBut b o hb e)
def RevSt (it : Addr) (x : Str) (t : Tok) (i : Nat) (h : Heap) : Prop := IsRev h it x t ((x.length : Int) - 1 - (i : Int))
theorem Draws.rev (hh : A.handled = none) (it : Addr) (x : Str) (t : Tok) (hl : x.length ≤ 2000) :
    Draws prog w A it [it] x.length (fun i v => ∃ u, v = .str (Txt.item x ((x.length - 1 - i : Nat) : Int)) u) (RevSt it x t) where
  live := fun _ _ st => ⟨_, st⟩
  frame := fun _ _ _ st hk => hk it (by simp) _ st
  item := fun i s Q E hi st hQ => by
    have e : (x.length : Int) - 1 - (i : Int) = ((x.length - 1 - i : Nat) : Int) := by omega
    unfold RevSt at st
    rw [e] at st
    refine next_rev_item st (by omega) hl fun h' tk tv h1 h2 => hQ _ h' tk ⟨_, rfl⟩ ?_ h2
    unfold RevSt
    rw [show (x.length : Int) - 1 - ((i + 1 : Nat) : Int) = ((x.length - 1 - i : Nat) : Int) - 1 from by omega]
    exact h1
  done := fun s Q E st hE => by
    unfold RevSt at st
    rw [show (x.length : Int) - 1 - (x.length : Int) = -1 from by omega] at st
    exact next_rev_end hh st hE
end
def enumObj (it : Addr) : Obj := { cls := .type "enumerate", data := .fields #[.none, .bool false, .ref it, rawInt 0, .none, .none] }
theorem meets_enum_rev (it : Addr) (x : Str) (t : Tok) (i : Int) : Meets (Builtin.«enumerate.__new__» ⟨[.type "enumerate", .ref it], []⟩) (fun _ R s => s.heap.get? it = some (revObj x t i) ∧
      R (.ok (.ret (.ref s.heap.objs.size))) { s with heap := s.heap.push (enumObj it) }) :=
  .of_wp fun prog w A R s h => by
    obtain ⟨hp, g, d, tk, os⟩ := s; obtain ⟨hl, h⟩ := h
    have hsub := sub_enumerate
    have hL : IsRev (Shared.heap ⟨hp, g, d, tk, os⟩) it x t i := hl
    wp_walk using AutoSeq1.wpAny_loadPart' hl
    refine wpAny_stack_any fun st => wpAny_pure ?_
    split
    · rename_i c _ _ _ _ _
      cases (c == Value.type "enumerate")
      · wp_walk using AutoSeq1.wpAny_loadPart' hl, iter_rev hL
        exact ⟨_, rfl, h⟩
      · wp_walk using AutoSeq1.wpAny_loadPart' hl, iter_rev hL
        exact ⟨_, rfl, h⟩
    · wp_walk using AutoSeq1.wpAny_loadPart' hl, iter_rev hL
      exact ⟨_, rfl, h⟩
section
variable {prog : Program} {w : World} {A : Around} {E : Value → Shared → Prop} {s : Shared}
theorem call_enum_rev {it : Addr} {x : Str} {t : Tok} {i : Int} {Q : Value → Shared → Prop} (hit : IsRev s.heap it x t i)
    (h : Q (.ref s.heap.objs.size) { s with heap := s.heap.push (enumObj it) }) : wpAny (model prog w) A (call (.type "enumerate") [.ref it]) Q E s :=
  callType_new PySem.F.called_enumerate (by decide) (PySem.F.typeCall_enumerate_1 _) (PySem.F.newCall_enumerate_1 _) (fun obj => PySem.F.args_object_init_2 obj _) PySem.F.entry_enumerate_new
    (meets_enum_rev it x t i) ⟨hit, ⟨_, Heap.get?_push_size _ rfl, rfl⟩, h⟩
end

end
section
local macro_rules | `(tactic| walk_at "my_pad0") => `(tactic| skip)
local macro_rules | `(tactic| walk_at "my_pad1") => `(tactic| skip)
local macro_rules | `(tactic| walk_at "my_pad2") => `(tactic| skip)
local macro_rules | `(tactic| walk_at "my_pad3") => `(tactic| skip)
local macro_rules | `(tactic| walk_at "my_pad4") => `(tactic| skip)
local macro_rules | `(tactic| walk_at "my_pad5") => `(tactic| skip)
local macro_rules | `(tactic| walk_at "my_pad6") => `(tactic| skip)
local macro_rules | `(tactic| walk_at "my_pad7") => `(tactic| skip)
local macro_rules | `(tactic| walk_at "my_pad8") => `(tactic| skip)
local macro_rules | `(tactic| walk_at "my_pad9") => `(tactic| skip)
local macro_rules | `(tactic| walk_at "my_pad10") => `(tactic| skip)
local macro_rules | `(tactic| walk_at "my_pad11") => `(tactic| skip)
local macro_rules | `(tactic| walk_at "my_pad12") => `(tactic| skip)
open LCg
/-- the end of a step that changes nothing but tokens -/
def PEnd (h₀ : Heap) (L : Addr) (m : Str → Option Value) (s₁ : Shared) (led : List (Addr × Obj)) (R : Value → Prop) (y : Value) (s₂ : Shared) : Prop :=
  ∃ h' tk, s₂ = { s₁ with heap := h', toks := tk } ∧ Fr h₀ L h' m ∧ News h₀ L h' led ∧ R y
section
variable {prog : Program} {w : World} {A : Around} {E : Value → Shared → Prop} {s : Shared} {h₀ : Heap} {L : Addr} {m : Str → Option Value} {env : Env}
theorem PEnd.intro {s₁ : Shared} {led all : List (Addr × Obj)} {R : Value → Prop} {y : Value} {h' : Heap} {tk : Nat} (F : Fr h₀ L h' m) (N : News h₀ L h' all) (sub : ∀ p ∈ led, p ∈ all) (r : R y) : PEnd h₀ L m s₁ led R y { s₁ with heap := h', toks := tk } :=
  ⟨h', tk, rfl, F, fun p hp => N p (sub p hp), r⟩
theorem enum_block {elt iter ct : Expr} {a b : Str} {pa pb tp : Pos} {kk : Nat} {scope : Scope} {cl : List (Str × Addr)} {pos : Pos} {s₂ : Shared} {e it : Addr} {x : Str} {t : Tok} {news : List (Addr × Obj)} {RR : Value → Addr → Result → Shared → Prop}
    (hh : A.handled = none) (hl : x.length ≤ 2000) (he : s₂.heap.get? e = some (enumObj it)) (hr : s₂.heap.get? it = some (revObj x t ((x.length : Int) - 1))) (hei : e ≠ it)
    (hcell : ∀ y ∈ scope.names, y.2 ≠ .cell) (hkind : scope.kind = .function) (hxa : scope.names.lookup a = some .local) (hxb : scope.names.lookup b = some .local) (hab : ¬ a = b)
    (F : Fr h₀ L s₂.heap m) (N : News h₀ L s₂.heap news) (heL : L ≠ e) (hiL : L ≠ it) (he0 : h₀.get? e = none) (hi0 : h₀.get? it = none) (off : ∀ p ∈ news, p.1 ≠ e ∧ p.1 ≠ it)
    (Inv : Nat → List Value → Prop) (hI0 : Inv 0 [])
    (step : ∀ i ys tv tb oE oI C oC D m₂ h tk (E' : Value → Shared → Prop), i < x.length → Inv i ys → NsObj oC m₂ → m₂ a = some (.int (i : Int) tv) → m₂ b = some (.str (Txt.item x ((x.length - 1 - i : Nat) : Int)) tb) → Fr h₀ L h m →
      News h₀ L h ((e, oE) :: (it, oI) :: (C, oC) :: (D, lst ys) :: news) →
      wpAny (model prog w) A (isTrue ct (compEnvC scope cl C env) (eval ct (compEnvC scope cl C env))) (fun ok s' => if ok = true then
        wpAny (model prog w) A (eval elt (compEnvC scope cl C env)) (PEnd h₀ L m { s₂ with heap := h, toks := tk } ((e, oE) :: (it, oI) :: (C, oC) :: (D, lst ys) :: news) (fun y => Inv (i + 1) (ys ++ [y]))) E' s'
        else PEnd h₀ L m { s₂ with heap := h, toks := tk } ((e, oE) :: (it, oI) :: (C, oC) :: (D, lst ys) :: news) (fun _ => Inv (i + 1) ys) Value.none s') E' { s₂ with heap := h, toks := tk })
    (hRR : ∀ D C h tk m' ys, Fr h₀ L h m → News h₀ L h ((D, lst ys) :: news) → h.Ns C m' → h₀.get? C = none → h₀.get? D = none → C ≠ L → D ≠ L → C ≠ D → (∀ p ∈ news, p.1 ≠ C) → Inv x.length ys → RR (.ref D) C (.ok .next) { s₂ with heap := h, toks := tk }) :
    wpAny (model prog w) A (newList []) (fun acc s₃ => wpAny (model prog w) A (newFunctionEnv scope env.globals cl [] env.qual none .none (some env)) (fun cenv s₄ =>
      codeAny (model prog w) A (.compStart (.ListComp elt [⟨.Tuple [.Name a pa, .Name b pb] kk tp, iter, [ct], 0⟩] scope pos) 0 (.ref e) acc { cenv with scope := relabel scope env }) (RR acc cenv.locals) s₄) E s₃) E s₂ := by
  refine wpAny_newObj_type (wpAny_newFunctionEnv hcell (by intro y hy; simp at hy) (fun h₁ hns₁ hsb₁ => ?_) hkind)
  dsimp only at hns₁ hsb₁ ⊢
  generalize hH2 : s₂.heap.push { cls := .type "list", dict := none, data := .seq ([] : List Value).toArray } = H2 at hns₁ hsb₁ ⊢
  have hC : H2.objs.size = s₂.heap.objs.size + 1 := by rw [← hH2, Heap.size_push]
  have hDC : s₂.heap.objs.size ≠ H2.objs.size := by rw [hC]; exact Nat.ne_of_lt (Nat.lt_succ_self _)
  have below : ∀ c, c < s₂.heap.objs.size → c ≠ H2.objs.size ∧ c ≠ s₂.heap.objs.size := fun c hc => ⟨by rw [hC]; exact Nat.ne_of_lt (Nat.lt_succ_of_lt hc), Nat.ne_of_lt hc⟩
  have bE := below e (Heap.lt_size he)
  have bI := below it (Heap.lt_size hr)
  have old : ∀ c o, s₂.heap.get? c = some o → h₁.get? c = some o := fun c o q => hsb₁.extBut c o (below c (Heap.lt_size q)).1 (Heap.get?_push_of_some _ (hH2 ▸ Heap.get?_push_of_some _ q))
  have hacc : h₁.get? s₂.heap.objs.size = some (lst []) := hsb₁.extBut _ _ hDC (Heap.get?_push_of_some _ (hH2 ▸ Heap.get?_push_size _ rfl))
  have fresh : ∀ c, s₂.heap.objs.size ≤ c → s₂.heap.get? c = none := fun c hc => by
    cases q : s₂.heap.get? c with
    | none => rfl
    | some o' => exact absurd (Heap.lt_size q) (Nat.not_lt.mpr hc)
  have fresh₀ : ∀ c, s₂.heap.objs.size ≤ c → h₀.get? c = none := fun c hc => by
    cases q : h₀.get? c with
    | none => rfl
    | some o' => have := F.keep c o' q; rw [fresh c hc] at this; cases this
  have hD₀ : h₀.get? s₂.heap.objs.size = none := fresh₀ _ (Nat.le_refl _)
  have hC₀ : h₀.get? H2.objs.size = none := fresh₀ _ (by rw [hC]; exact Nat.le_succ _)
  have bL := below L F.ns.lt
  have W := WalksT.enumerateD (Draws.rev (prog := prog) (w := w) (A := A.in1) (by first | exact hh | (rw [show A.in1.handled = A.handled from rfl]; exact hh)) it x t hl) e hei (by simpa using hei) (List.mem_singleton.mpr rfl)
  have offN : ∀ p ∈ news, p.1 ≠ H2.objs.size ∧ p.1 ≠ s₂.heap.objs.size := fun p hp => below _ (Heap.lt_size (N p hp).1)
  have loop : ∀ s₃ : Shared, s₃ = { s₂ with heap := h₁, toks := s₂.toks + ([] : List (Str × Value)).length } →
      codeAny (model prog w) A (.compLoop (.ListComp elt [⟨.Tuple [.Name a pa, .Name b pb] kk tp, iter, [ct], 0⟩] scope pos) 0 (.ref e) (.ref s₂.heap.objs.size) (compEnvC scope cl H2.objs.size env))
        (RR (.ref s₂.heap.objs.size) H2.objs.size) s₃ := by
    rintro s₃ rfl
    refine kct_loop
      (fun k s' => ∃ h' tk i ys m', s' = { s₂ with heap := h', toks := tk } ∧ i ≤ x.length ∧ k = x.length + 1 - i ∧ ys.length ≤ i ∧ ((∃ old, IsEnum h' e it i old) ∧ RevSt it x t i h') ∧ Fr h₀ L h' m ∧ h'.Ns H2.objs.size m' ∧
        News h₀ L h' ((s₂.heap.objs.size, lst ys) :: news) ∧ Inv i ys) ?_ (x.length + 1)
      ⟨h₁, _, 0, [], _, rfl, Nat.zero_le _, rfl, Nat.le_refl _, ⟨⟨_, old _ _ he⟩, ?_⟩, F.keeps old, hns₁, fun p hp => ?_, hI0⟩
    · rintro k s' ⟨h', tk, i, ys, m', rfl, hi, rfl, hyl, hst, F', hn', N', I'⟩
      by_cases hlt : i < x.length
      · refine W.item i _ _ _ hlt hst fun T vals h₂ tk₂ hP _ hT hmid hk₂ => ?_
        have hTw := W.apart _ _ _ hmid
        refine W.go [.Name a pa, .Name b pb] kk tp i T _ _ _ hmid fun h₃ hst₃ hk₃ => ?_
        obtain ⟨tv, x', ⟨tb, rfl⟩, rfl⟩ := hP
        have up₃ : ∀ c o, c ∉ [e, it] → h'.get? c = some o → h₃.get? c = some o := fun c o hc q => hk₃ c o hc (hk₂ c o hc q)
        have hCw : H2.objs.size ∉ [e, it] := by simp [Ne.symm bE.1, Ne.symm bI.1]
        refine kcp_assign (env := compEnvC scope cl H2.objs.size env) hh (hT.at fun o q => hk₃ T o hTw q) (lookup_relabel_local hxa) (lookup_relabel_local hxb) (by simp [compEnvC, relabel, hkind]) (hn'.at' fun o q => up₃ _ o hCw q) fun h₄ tk₄ hn₄ hs₄ => ?_
        have up : ∀ c o, c ∉ [e, it] → c ≠ H2.objs.size → h'.get? c = some o → h₄.get? c = some o := fun c o h1 h2 q => hs₄ c o h2 (up₃ c o h1 q)
        have hst₄ : (∃ old, IsEnum h₄ e it ((i + 1 : Nat) : Int) old) ∧ RevSt it x t (i + 1) h₄ := by
          obtain ⟨⟨old', q1⟩, q2⟩ := hst₃
          exact ⟨⟨old', hs₄ _ _ bE.1 q1⟩, hs₄ _ _ bI.1 q2⟩
        obtain ⟨⟨oldE, zE0⟩, zI0⟩ := hst₄
        obtain ⟨oE, zE, hoE⟩ : ∃ oE : Obj, h₄.get? e = some oE ∧ ∀ h : Heap, h.get? e = some oE → ∃ old, IsEnum h e it ((i + 1 : Nat) : Int) old := ⟨_, zE0, fun _ q => ⟨_, q⟩⟩
        obtain ⟨oI, zI, hoI⟩ : ∃ oI : Obj, h₄.get? it = some oI ∧ ∀ h : Heap, h.get? it = some oI → RevSt it x t (i + 1) h := ⟨_, zI0, fun _ q => q⟩
        obtain ⟨oC, heC, hoC⟩ := ns_obj hn₄
        have hLw : L ∉ [e, it] := by simp [heL, hiL]
        have F₄ : Fr h₀ L h₄ m := ⟨F'.ns.at' fun o q => up _ o hLw bL.1 q, fun c o q => up c o (fun hm => by
          rcases List.mem_cons.mp hm with rfl | hm
          · rw [he0] at q; cases q
          · rw [List.mem_singleton.mp hm, hi0] at q; cases q) (fun r => by rw [r, hC₀] at q; cases q) (F'.keep c o q), F'.above⟩
        have N₄ : News h₀ L h₄ ((e, oE) :: (it, oI) :: (H2.objs.size, oC) :: (s₂.heap.objs.size, lst ys) :: news) := fun q hq => by
          rcases List.mem_cons.mp hq with rfl | hq
          · exact ⟨zE, Ne.symm heL, he0⟩
          rcases List.mem_cons.mp hq with rfl | hq
          · exact ⟨zI, Ne.symm hiL, hi0⟩
          rcases List.mem_cons.mp hq with rfl | hq
          · exact ⟨heC, Ne.symm bL.1, hC₀⟩
          · have z := N' q hq
            refine ⟨up _ _ ?_ ?_ z.1, z.2⟩
            · rcases List.mem_cons.mp hq with rfl | hq
              · simp [Ne.symm bE.2, Ne.symm bI.2]
              · simp [off q hq]
            · rcases List.mem_cons.mp hq with rfl | hq
              · exact hDC
              · exact (offN q hq).1
        have fin : ∀ (ys' : List Value) (h₅ : Heap) (tk₅ : Nat), ys'.length ≤ i + 1 → Fr h₀ L h₅ m → News h₀ L h₅ ((e, oE) :: (it, oI) :: (H2.objs.size, oC) :: (s₂.heap.objs.size, lst ys') :: news) → Inv (i + 1) ys' →
            ∃ q', q' < x.length + 1 - i ∧ (∃ h' tk i ys m', ({ s₂ with heap := h₅, toks := tk₅ } : Shared) = { s₂ with heap := h', toks := tk } ∧ i ≤ x.length ∧ q' = x.length + 1 - i ∧ ys.length ≤ i ∧ ((∃ old, IsEnum h' e it i old) ∧ RevSt it x t i h') ∧ Fr h₀ L h' m ∧ h'.Ns H2.objs.size m' ∧
              News h₀ L h' ((s₂.heap.objs.size, lst ys) :: news) ∧ Inv i ys) := by
          intro ys' h₅ tk₅ hl' F₅ N₅ I₅
          exact ⟨x.length + 1 - (i + 1), by omega, h₅, tk₅, i + 1, ys', _, rfl, hlt, rfl, hl', ⟨hoE _ (N₅ _ (.head _)).1, hoI _ (N₅ _ (.tail _ (.head _))).1⟩, F₅, hoC.ns (N₅ _ (.tail _ (.tail _ (.head _)))).1, fun q hq => N₅ q (.tail _ (.tail _ (.tail _ hq))), I₅⟩
        refine wpAny_mono (step i ys tv tb _ _ H2.objs.size oC s₂.heap.objs.size _ h₄ _ _ hlt I' hoC (by simp [hab]) (by simp) F₄ N₄) (fun okb s₅ h₅ => ?_) fun _ _ q => q
        cases okb with
        | false =>
          simp only [Bool.false_eq_true, if_false] at h₅ ⊢
          obtain ⟨h₅, tk₅, rfl, F₅, N₅, I₅⟩ := h₅
          exact fin ys h₅ tk₅ (Nat.le_succ_of_le hyl) F₅ N₅ I₅
        | true =>
          simp only [if_true] at h₅ ⊢
          refine wpAny_mono h₅ (fun y s₆ h₆ => ?_) fun _ _ q => q
          obtain ⟨h₅, tk₅, rfl, F₅, N₅, I₅⟩ := h₆
          have zD := (N₅ (s₂.heap.objs.size, lst ys) (.tail _ (.tail _ (.tail _ (.head _))))).1
          refine append_at (hsz := by show ys.toArray.size ≤ sizeLine; rw [List.size_toArray, sizeLine_eq]; omega) zD fun h₆ hs₆ hD₆ => ?_
          refine fin (ys ++ [y]) h₆ _ (by rw [List.length_append, List.length_singleton]; exact Nat.succ_le_succ hyl) (F₅.change hs₆ (Ne.symm bL.2) hD₀) (fun q hq => ?_) I₅
          rcases List.mem_cons.mp hq with rfl | hq
          · exact ⟨hs₆.extBut _ _ bE.2 (N₅ _ (.head _)).1, Ne.symm heL, he0⟩
          rcases List.mem_cons.mp hq with rfl | hq
          · exact ⟨hs₆.extBut _ _ bI.2 (N₅ _ (.tail _ (.head _))).1, Ne.symm hiL, hi0⟩
          rcases List.mem_cons.mp hq with rfl | hq
          · exact ⟨hs₆.extBut _ oC (Ne.symm hDC) (N₅ _ (.tail _ (.tail _ (.head _)))).1, Ne.symm bL.1, hC₀⟩
          rcases List.mem_cons.mp hq with rfl | hq
          · exact ⟨hD₆.trans (congrArg some (lst_snoc ys y)), Ne.symm bL.2, hD₀⟩
          · have z := N₅ q (.tail _ (.tail _ (.tail _ (.tail _ hq))))
            exact ⟨hs₆.extBut _ _ (offN q hq).2 z.1, z.2⟩
      · have hin : i = x.length := Nat.le_antisymm hi (Nat.not_lt.mp hlt)
        subst hin
        refine W.done _ _ _ hst fun h₂ tk₂ hk₂ => ?_
        have nw : ∀ p ∈ (s₂.heap.objs.size, lst ys) :: news, p.1 ∉ [e, it] := fun p hp => by
          rcases List.mem_cons.mp hp with rfl | hp
          · simp [Ne.symm bE.2, Ne.symm bI.2]
          · simp [off p hp]
        exact hRR _ _ h₂ tk₂ _ ys ⟨F'.ns.at' fun o q => hk₂ _ o (by simp [heL, hiL]) q, fun c o q => hk₂ c o (fun hm => by
          rcases List.mem_cons.mp hm with rfl | hm
          · rw [he0] at q; cases q
          · rw [List.mem_singleton.mp hm, hi0] at q; cases q) (F'.keep c o q), F'.above⟩ (fun p hp => ⟨hk₂ _ _ (nw p hp) (N' p hp).1, (N' p hp).2⟩) (hn'.at' fun o q => hk₂ _ o (by simp [Ne.symm bE.1, Ne.symm bI.1]) q) hC₀ hD₀ (Ne.symm bL.1) (Ne.symm bL.2) (Ne.symm hDC) (fun p hp => (offN p hp).1) I'
    · unfold RevSt IsRev
      rw [old _ _ hr]
      congr 2
      omega
    · rcases List.mem_cons.mp hp with rfl | hp
      · exact ⟨hacc, Ne.symm bL.2, hD₀⟩
      · exact ⟨old _ _ (N p hp).1, (N p hp).2⟩
  exact codeAny_compStart_list (loop _ rfl) (wpAny_pyIter_enum (old _ _ he) (loop _ rfl))
/-- what a comprehension over enumerate(reversed(text)) asks behind its source -/
def SrcEnum (prog : Program) (w : World) (A : Around) (h₀ : Heap) (L : Addr) (m : Str → Option Value) (env : Env) (ct elt : Expr) (a b : Str) (scope : Scope) (cl : List (Str × Addr)) (Q : Value → Shared → Prop) (xv : Value) (s₁ : Shared) : Prop :=
  ∃ (e it : Addr) (x : Str) (t : Tok) (news : List (Addr × Obj)) (Inv : Nat → List Value → Prop), xv = .ref e ∧ A.handled = none ∧ Fr h₀ L s₁.heap m ∧ News h₀ L s₁.heap ((e, enumObj it) :: (it, revObj x t ((x.length : Int) - 1)) :: news) ∧ e ≠ it ∧ (∀ p ∈ news, p.1 ≠ e ∧ p.1 ≠ it) ∧ x.length ≤ 2000 ∧ Inv 0 [] ∧
    (∀ i ys tv tb oE oI C oC D m₂ h tk (E' : Value → Shared → Prop), i < x.length → Inv i ys → NsObj oC m₂ → m₂ a = some (.int (i : Int) tv) → m₂ b = some (.str (Txt.item x ((x.length - 1 - i : Nat) : Int)) tb) → Fr h₀ L h m →
      News h₀ L h ((e, oE) :: (it, oI) :: (C, oC) :: (D, lst ys) :: news) →
      wpAny (model prog w) A (isTrue ct (compEnvC scope cl C env) (eval ct (compEnvC scope cl C env))) (fun ok s' => if ok = true then
        wpAny (model prog w) A (eval elt (compEnvC scope cl C env)) (PEnd h₀ L m { s₁ with heap := h, toks := tk } ((e, oE) :: (it, oI) :: (C, oC) :: (D, lst ys) :: news) (fun y => Inv (i + 1) (ys ++ [y]))) E' s'
        else PEnd h₀ L m { s₁ with heap := h, toks := tk } ((e, oE) :: (it, oI) :: (C, oC) :: (D, lst ys) :: news) (fun _ => Inv (i + 1) ys) Value.none s') E' { s₁ with heap := h, toks := tk }) ∧
    (∀ ys D h tk, Inv x.length ys → Fr h₀ L h m → News h₀ L h ((D, lst ys) :: news) → Q (.ref D) { s₁ with heap := h, toks := tk })
theorem comp_enum {elt iter ct : Expr} {a b : Str} {pa pb tp : Pos} {kk : Nat} {scope : Scope} {cl : List (Str × Addr)} {pos : Pos} {Q : Value → Shared → Prop} (_F₀ : Fr h₀ L s.heap m)
    (hclos : closureFor scope env = pure cl) (hcell : ∀ y ∈ scope.names, y.2 ≠ .cell) (hkind : scope.kind = .function)
    (hnames : ∀ y ∈ scope.names, y.2 = .local → scope.names.lookup y.1 = some .local) (hxa : scope.names.lookup a = some .local) (hxb : scope.names.lookup b = some .local) (hab : ¬ a = b)
    (h : wpAny (model prog w) A (eval iter env) (SrcEnum prog w A h₀ L m env ct elt a b scope cl Q) E s)
    (hs : ∀ x, foldedSetIterable iter env x = pure x := by intro _; rfl) :
    wpAny (model prog w) A (eval (.ListComp elt [⟨.Tuple [.Name a pa, .Name b pb] kk tp, iter, [ct], 0⟩] scope pos) env) Q E s := by
  rw [eval_ListComp]
  refine wpAny_comprehension_free (use := none) rfl hs hclos hkind hnames (wpAny_mono h (fun xv s₁ h₁ => ?_) fun _ _ e => e)
  obtain ⟨e, it, x, t, news, Inv, rfl, hh, F, N, hei, off, hl, hI0, step, fin⟩ := h₁
  have nE := N _ (.head _)
  have nI := N _ (.tail _ (.head _))
  refine wpAny_pyIter_enum nE.1 ?_
  refine enum_block hh hl nE.1 nI.1 hei hcell hkind hxa hxb hab F (fun p hp => N p (.tail _ (.tail _ hp))) (Ne.symm nE.2.1) (Ne.symm nI.2.1) nE.2.2 nI.2.2 off Inv hI0 step ?_
  intro D C h tk m' ys F' N' hn hC₀ hD₀ hCL hDL hCD offC hIn
  refine ⟨m', hn, fun h'' hs'' => fin ys D h'' tk hIn (F'.change hs'' hCL hC₀) (fun p hp => ?_)⟩
  refine ⟨hs''.extBut _ _ ?_ (N' p hp).1, (N' p hp).2⟩
  rcases List.mem_cons.mp hp with rfl | hp
  · exact Ne.symm hCD
  · exact offC p hp
end

end
section
local macro_rules | `(tactic| walk_at "my_pad0") => `(tactic| skip)
local macro_rules | `(tactic| walk_at "my_pad1") => `(tactic| skip)
local macro_rules | `(tactic| walk_at "my_pad2") => `(tactic| skip)
local macro_rules | `(tactic| walk_at "my_pad3") => `(tactic| skip)
local macro_rules | `(tactic| walk_at "my_pad4") => `(tactic| skip)
local macro_rules | `(tactic| walk_at "my_pad5") => `(tactic| skip)
local macro_rules | `(tactic| walk_at "my_pad6") => `(tactic| skip)
local macro_rules | `(tactic| walk_at "my_pad7") => `(tactic| skip)
local macro_rules | `(tactic| walk_at "call ref") => `(tactic| ((with_reducible show wpAny _ _ (call (Value.ref 76) [Value.str _ _, Value.int _ _]) _ _ _); (refine' fault_call ?k1 ?k2 ?k3 ?k4 ?k5 ?k6 ?k7 ?k8 ?_; (case k1 => k_asm); (case k2 => k_asm); (case k3 => k_asm); (case k4 => k_asm); (case k5 => k_asm); (case k6 => walk_at "my_kind"); (case k7 => walk_at "my_room"); (case k8 => walk_at "my_room")); intro e' T' dx' k3' k4' h' tk' F' N' l1; (try k_sweep)))
local macro_rules | `(tactic| walk_at "eval ListComp") => `(tactic| refine stop_of ?_)
local macro_rules | `(tactic| walk_at "SrcEnum") => `(tactic| refine stop_of ?_)
local macro_rules | `(tactic| walk_at "PEnd") => `(tactic| refine stop_of ?_)
local macro_rules | `(tactic| walk_at "call type:reversed") => `(tactic| refine stop_of ?_)
local macro_rules | `(tactic| walk_at "call type:enumerate") => `(tactic| refine stop_of ?_)
theorem last_at {y : Str} {i c : Nat} (hi : i < y.length) (hc : ((sg y).drop (y.length - 1 - i)).head? = some c) : val 2 ((sg y).drop (y.length - (i + 1))) = hv c * 2 ^ i + val 2 ((sg y).drop (y.length - i)) := by
  w_top off
  obtain ⟨e, _⟩ := drop_head hc
  rw [show y.length - 1 - i + 1 = y.length - i by omega, show y.length - 1 - i = y.length - (i + 1) by omega] at e
  have hl : ((sg y).drop (y.length - i)).length = i := by rw [List.length_drop, sg_len]; omega
  have h := val_app 2 [c] ((sg y).drop (y.length - i))
  rw [hl] at h
  rw [e]
  exact h.trans (by simp [val])
theorem last_one {y : Str} {i : Nat} (hi : i < y.length) (h : (Txt.item y ((y.length - 1 - i : Nat) : Int) == Str.ofString "1") = true) : val 2 ((sg y).drop (y.length - (i + 1))) = 2 ^ i + val 2 ((sg y).drop (y.length - i)) := by
  w_top off
  obtain ⟨a, h1, h2⟩ := head_item (t := y) (k := y.length - 1 - i) (by omega)
  rw [h1, show Str.ofString "1" = ⟨#[49]⟩ from by decide +kernel] at h
  rw [cps_one_inj (eq_of_beq h)] at h2
  rw [last_at hi h2, show hv 49 = 1 from rfl, Nat.one_mul]
theorem last_zero {y : Str} {i : Nat} (hi : i < y.length) (hy : ∀ c ∈ sg y, c = 48 ∨ c = 49) (h : (Txt.item y ((y.length - 1 - i : Nat) : Int) == Str.ofString "1") = false) : val 2 ((sg y).drop (y.length - (i + 1))) = val 2 ((sg y).drop (y.length - i)) := by
  w_top off
  obtain ⟨a, h1, h2⟩ := head_item (t := y) (k := y.length - 1 - i) (by omega)
  rw [h1, show Str.ofString "1" = ⟨#[49]⟩ from by decide +kernel] at h
  have hm : a ∈ sg y := List.mem_of_mem_drop (List.mem_of_mem_head? h2)
  rcases hy a hm with rfl | rfl
  · rw [last_at hi h2, show hv 48 = 0 from rfl, Nat.zero_mul, Nat.zero_add]
  · simp at h
theorem sum_one {ns : List Int} {i a b : Nat} (h : ns.sum = (a : Int)) (e : b = 2 ^ i + a) : (ns ++ [(2 : Int) ^ (i : Int).toNat]).sum = (b : Int) := by
  w_top off
  rw [List.sum_append, h, e, List.sum_singleton, Int.toNat_natCast, Int.natCast_add, Int.natCast_pow, Int.add_comm]
  rfl
theorem push_news {h₀ h : Heap} {L : Addr} {m : Str → Option Value} {o : Obj} {news : List (Addr × Obj)} (F : Fr h₀ L h m) (N : News h₀ L h news) (ho : o.isFreed = false) : News h₀ L (h.push o) ((h.objs.size, o) :: news) := fun p hp => by
  rcases List.mem_cons.mp hp with rfl | hp
  · exact ⟨Heap.get?_push_size _ ho, Nat.ne_of_gt F.ns.lt, next_is_new F⟩
  · exact ⟨Heap.get?_push_of_some _ (N p hp).1, (N p hp).2⟩
theorem sum_call {w : World} {mean : ExcName → Option Value} {mg mb : Str → Option Value} {dp un : Nat} {gd : Option (List Code)} {cn : Str} {cs : Scope} {a : Addr} {ccd : Value} {cl : List (Str × Addr)} {outer : List Env} {A₀ : Around} {base h₀ : Heap} {L : Addr} {m : Str → Option Value} {s : Shared} {Q E : Value → Shared → Prop} {ty : Tok} {y : Str} {news : List (Addr × Obj)} (B : Below A₀ base outer h₀) (F : Fr h₀ L s.heap m) (X : (hd.heap_39 w.params).In h₀) (T : Top hd.view_39 (looseW hd.view_39 [Str.ofString "SIMPLE"]) mean mg mb h₀) (hcs : cs.kind = .function) (hdp : dp + 10 < recursionLimit) (hun : un + 100 < cLine)
   (N : News h₀ L s.heap news) (hy : ∀ c ∈ sg y, c = 48 ∨ c = 49) (hl : y.length ≤ 200)
   (ret : ∀ v tv h' tk', v = ((val 2 (sg y) : Nat) : Int) → Fr h₀ L h' m → News h₀ L h' news → Q (.int v tv) { s with heap := h', toks := tk' }) :
   wpAny (model Challenge.rw_qz0006_03.row.prog w) (ktrTop dp un gd cn cs L a ccd cl outer) (call (.ref 197) [.str y ty]) Q E s := by
  w_top off
  revert X; k_fill; intro X; refine wpAny_call ?_; k_dflt cell_enter
  k_steps
  unfold Stop
  rename Fr _ _ _ _ => F1
  rename News _ _ _ _ => N1
  k_dflt (refine comp_enum F1 (by with_unfolding_all rfl) (by decide) (by rfl) (by decide) (by rfl) (by rfl) (by decide) ?_)
  k_steps
  unfold Stop
  refine call_rev_str (by omega) fun tk1 => ?_
  have F2 := F1.push (revObj y ty ((y.length : Int) - 1))
  have N2 := push_news F1 N1 (o := revObj y ty ((y.length : Int) - 1)) rfl
  rename Heap => h1
  have hit : IsRev (h1.push (revObj y ty ((y.length : Int) - 1))) h1.objs.size y ty ((y.length : Int) - 1) := Heap.get?_push_size _ rfl
  have hsz : (h1.push (revObj y ty ((y.length : Int) - 1))).objs.size = h1.objs.size + 1 := Heap.size_push ..
  generalize hh2 : h1.push (revObj y ty ((y.length : Int) - 1)) = h2 at F2 N2 hit hsz
  k_steps
  unfold Stop
  refine call_enum_rev hit ?_
  have F3 := F2.push (enumObj h1.objs.size)
  have N3 := push_news F2 N2 (o := enumObj h1.objs.size) rfl
  have hne : h2.objs.size ≠ h1.objs.size := by rw [hsz]; exact Nat.succ_ne_self _
  have hoff : ∀ p ∈ news, p.1 ≠ h2.objs.size ∧ p.1 ≠ h1.objs.size := fun p hp => by
    have hp1 : p.1 < h1.objs.size := Heap.lt_size (N1 p hp).1
    exact ⟨by rw [hsz]; exact Nat.ne_of_lt (Nat.lt_succ_of_lt hp1), Nat.ne_of_lt hp1⟩
  generalize hh3 : h2.push (enumObj h1.objs.size) = h3 at F3 N3
  k_steps
  unfold Stop
  refine ⟨_, _, y, ty, news, fun i ys => ∃ ns, IntsAre ys ns ∧ ns.sum = ((val 2 ((sg y).drop (y.length - i)) : Nat) : Int), rfl, rfl, F3, N3, hne, hoff, by omega, ⟨[], .nil, ?_⟩, ?step, ?fin⟩
  · rw [List.drop_eq_nil_of_le (by rw [sg_len]; omega)]; rfl
  case step =>
    intro i ys tv tb oE oI C oC D m2 h tk E2 hi hI hC ha hb F4 N4
    obtain ⟨ns, i1, i2⟩ := hI
    have hi0 : (0 : Int) ≤ (i : Int) := Int.natCast_nonneg i
    have hk : ((y.length - 1 - i : Nat) : Int) < (y.length : Int) := by omega
    k_steps
    all_goals unfold Stop
    all_goals (rename Fr _ _ _ _ => kF; rename News _ _ _ _ => kN)
    · rename (_ == _) = true => hq
      refine PEnd.intro kF kN (fun _ h => h) ⟨ns ++ [2 ^ (i : Int).toNat], i1.append (.cons _ _ .nil), ?_⟩
      exact sum_one i2 (last_one hi hq)
    · rename (_ == _) = false => hq
      refine PEnd.intro kF kN (fun _ h => h) ⟨ns, i1, ?_⟩
      rw [i2, last_zero hi hy hq]
  case fin =>
    intro ys D h tk hI F4 N4
    obtain ⟨ns, i1, i2⟩ := hI
    k_steps
    rename Fr _ _ _ _ => kF
    rename News _ _ _ _ => kN
    refine ret _ _ _ _ ?_ kF (cb_drop kN fun _ h => .tail _ h)
    rw [i2, Nat.sub_self, List.drop_zero]

end
section
local macro_rules | `(tactic| walk_at "my_pad0") => `(tactic| skip)
local macro_rules | `(tactic| walk_at "my_pad1") => `(tactic| skip)
local macro_rules | `(tactic| walk_at "my_pad2") => `(tactic| skip)
local macro_rules | `(tactic| walk_at "my_pad3") => `(tactic| skip)
local macro_rules | `(tactic| walk_at "my_pad4") => `(tactic| skip)
local macro_rules | `(tactic| walk_at "my_pad5") => `(tactic| skip)
local macro_rules | `(tactic| walk_at "my_pad6") => `(tactic| skip)
local macro_rules | `(tactic| walk_at "my_pad7") => `(tactic| skip)
local macro_rules | `(tactic| walk_at "my_pad8") => `(tactic| skip)
local macro_rules | `(tactic| walk_at "my_pad9") => `(tactic| skip)
local macro_rules | `(tactic| walk_at "my_pad10") => `(tactic| skip)
local macro_rules | `(tactic| walk_at "my_pad11") => `(tactic| skip)
local macro_rules | `(tactic| walk_at "my_pad12") => `(tactic| skip)
local macro_rules | `(tactic| walk_at "my_pad13") => `(tactic| skip)
local macro_rules | `(tactic| walk_at "my_pad14") => `(tactic| skip)
section
variable {prog : Program} {w : World} {A : Around} {s : Shared} {h₀ : Heap} {L : Addr} {m : Str → Option Value} {env : Env}
/-- a comprehension over a range whose element changes a state -/
theorem comp_ind {elt : Expr} {x : Str} {scope : Scope} {cl : List (Str × Addr)} {P : Nat → Value → Prop} {Fin : List Value → List (Addr × Obj) → Prop} {σ : Type} (Led : σ → List (Addr × Obj)) (Inv : Nat → σ → List Value → Prop) {n : Nat}
    (step : ∀ i c ys v I oI C oC D m₂ h tk (E' : Value → Shared → Prop), i < n → Inv i c ys → P i v → LCg.NsObj oC m₂ → m₂ x = some v → Fr h₀ L h m → News h₀ L h ((I, oI) :: (C, oC) :: (D, LCg.lst ys) :: Led c) → LCg.Off3 I C D (Led c) → ((@Ne Nat I C) ∧ (@Ne Nat I D) ∧ (@Ne Nat C D)) →
      wpAny (model prog w) A (eval elt (compEnvC scope cl C env)) (LCg.CompEnd h₀ L m { s with heap := h, toks := tk } I oI C oC D (LCg.lst ys) (fun _ => True) (fun y news' => ∃ c', news' = Led c' ∧ Inv (i + 1) c' (ys ++ [y]))) E' { s with heap := h, toks := tk })
    (fin : ∀ c ys, Inv n c ys → Fin ys (Led c)) : ∀ k i c ys, i + k = n → Inv i c ys → LCg.CompRest prog w A h₀ L m env elt x scope cl s (fun _ => True) P Fin k i ys (Led c)
  | 0, i, c, ys, e, hi => LCg.CompRest.zero (by rw [Nat.add_zero] at e; subst e; exact fin c ys hi)
  | k + 1, i, c, ys, e, hi => LCg.CompRest.succ fun v I oI C oC D m₂ h tk E' hP hC hx F N off ne =>
    wpAny_mono (step i c ys v I oI C oC D m₂ h tk E' (by omega) hi hP hC hx F N off ne) (fun y s' hr => by
      obtain ⟨h', tk', news', e1, F', N', off', hS, c', e2, hi'⟩ := hr
      subst e2
      exact ⟨h', tk', _, e1, F', N', off', hS, comp_ind Led Inv step fin k (i + 1) c' (ys ++ [y]) (by omega) hi'⟩) fun _ _ z => z
end

end
section
local macro_rules | `(tactic| walk_at "my_pad0") => `(tactic| skip)
local macro_rules | `(tactic| walk_at "my_pad1") => `(tactic| skip)
local macro_rules | `(tactic| walk_at "my_pad2") => `(tactic| skip)
local macro_rules | `(tactic| walk_at "my_pad3") => `(tactic| skip)
local macro_rules | `(tactic| walk_at "my_pad4") => `(tactic| skip)
local macro_rules | `(tactic| walk_at "my_pad5") => `(tactic| skip)
local macro_rules | `(tactic| walk_at "my_pad6") => `(tactic| skip)
local macro_rules | `(tactic| walk_at "my_pad7") => `(tactic| skip)
local macro_rules | `(tactic| walk_at "my_pad8") => `(tactic| skip)
local macro_rules | `(tactic| walk_at "my_pad9") => `(tactic| skip)
local macro_rules | `(tactic| walk_at "my_pad10") => `(tactic| skip)
local macro_rules | `(tactic| walk_at "my_pad11") => `(tactic| skip)
local macro_rules | `(tactic| walk_at "my_pad12") => `(tactic| skip)
local macro_rules | `(tactic| walk_at "my_pad13") => `(tactic| skip)
local macro_rules | `(tactic| walk_at "my_pad14") => `(tactic| skip)
local macro_rules | `(tactic| walk_at "my_pad15") => `(tactic| skip)
section
variable {prog : Program} {w : World} {A : Around} {E : Value → Shared → Prop} {s : Shared} {h₀ : Heap} {L : Addr} {m : Str → Option Value} {env : Env}
/-- what a comprehension over a tuple of the ledger asks behind its source -/
def SrcTup (prog : Program) (w : World) (A : Around) (h₀ : Heap) (L : Addr) (m : Str → Option Value) (env : Env) (elt : Expr) (x : Str) (scope : Scope) (cl : List (Str × Addr)) (Fin : Shared → List Value → List (Addr × Obj) → Prop) (xv : Value) (s₁ : Shared) : Prop :=
  ∃ ax its news, xv = .ref ax ∧ A.handled = none ∧ Fr h₀ L s₁.heap m ∧ News h₀ L s₁.heap news ∧ (ax, tupObj its) ∈ news ∧ its.length ≤ sizeLine ∧
    ∀ g, LCg.CompRest prog w A h₀ L m env elt x scope cl { s₁ with heap := g } (fun nw => (ax, tupObj its) ∈ nw) (fun i v => its[i]? = some v) (Fin { s₁ with heap := g }) its.length 0 [] news
theorem tup_is {h : Heap} {ax : Addr} {its : List Value} (e : h.get? ax = some (tupObj its)) : h.IsTuple ax its.toArray := ⟨_, e, rfl, _, rfl⟩
theorem comp_tup {elt iter : Expr} {x : Str} {px : Pos} {scope : Scope} {cl : List (Str × Addr)} {pos : Pos} {Q : Value → Shared → Prop} (_F₀ : Fr h₀ L s.heap m)
    (hclos : closureFor scope env = pure cl) (hcell : ∀ y ∈ scope.names, y.2 ≠ .cell) (hkind : scope.kind = .function)
    (hnames : ∀ y ∈ scope.names, y.2 = .local → scope.names.lookup y.1 = some .local) (hx : scope.names.lookup x = some .local)
    (h : wpAny (model prog w) A (eval iter env) (SrcTup prog w A h₀ L m env elt x scope cl (fun s₂ => LCg.FinE h₀ L m s₂ Q)) E s)
    (hs : ∀ x, foldedSetIterable iter env x = pure x := by intro _; rfl) :
    wpAny (model prog w) A (eval (.ListComp elt [⟨.Name x px, iter, [], 0⟩] scope pos) env) Q E s := by
  rw [eval_ListComp]
  refine wpAny_comprehension_free (use := none) rfl hs hclos hkind hnames (wpAny_mono h (fun xv s₁ h₁ => ?_) fun _ _ e => e)
  obtain ⟨ax, its, news, rfl, hh, F, N, hm, hsz, R⟩ := h₁
  have hl : s₁.heap.IsTuple ax its.toArray := tup_is (N _ hm).1
  have hlt : ax < s₁.heap.objs.size := Heap.lt_size (N _ hm).1
  refine wpAny_pyIter_tuple hl ?_
  have up : ∀ b o, s₁.heap.get? b = some o → (s₁.heap.push { cls := .type "tuple_iterator", data := .fields #[.ref ax, .int 0 0] }).get? b = some o := fun b o e => Heap.get?_push_of_some _ e
  have es : its.toArray.size = its.length := List.size_toArray
  have W := Walks.tuple (prog := prog) (w := w) (A := A) hh s₁.heap.objs.size ax (Nat.ne_of_lt hlt) its.toArray
  rw [es] at W
  refine LCg.block_U (S := fun nw => (ax, tupObj its) ∈ nw) (P := fun i v => its[i]? = some v) (n := its.length) (I := s₁.heap.objs.size) (fp := [s₁.heap.objs.size, ax]) (St := fun i h => h.IsTupleIter s₁.heap.objs.size ax i ∧ h.IsTuple ax its.toArray) ?W hsz (fun i h st => by obtain ⟨o, e, _⟩ := st.1; exact ⟨o, e⟩) ?st hcell hkind hx ⟨⟨_, Heap.get?_push_size _ rfl, rfl, rfl⟩, hl.push _⟩ (fun b hb => ?_)
    (F.keeps up) (N.grown up) (Nat.ne_of_lt F.ns.lt) (next_is_new F) (fun p hp => Nat.ne_of_lt (Heap.lt_size (N p hp).1)) hm (R _) ?_
  case W => simpa using W
  case st =>
    intro i h h' o nw st e e' k N' hS
    obtain ⟨⟨o', q, r⟩, _⟩ := st
    rw [e] at q
    cases q
    exact ⟨⟨o, e', r⟩, tup_is (N' _ hS).1⟩
  · show b < (s₁.heap.push _).objs.size
    rw [Heap.size_push]
    rcases List.mem_cons.mp hb with rfl | hb
    · exact Nat.lt_succ_self _
    · rw [List.mem_singleton.mp hb]; exact Nat.lt_succ_of_lt hlt
  · intro D C h tk m' ys news' F' N' o1 hn hC₀ hD₀ hCL hDL hCD offC fin
    refine ⟨m', hn, fun h'' hs'' => fin D h'' tk (F'.change hs'' hCL hC₀) (fun p hp => ?_) o1⟩
    refine ⟨hs''.extBut _ _ ?_ (N' p hp).1, (N' p hp).2⟩
    rcases List.mem_cons.mp hp with rfl | hp
    · exact Ne.symm hCD
    · exact offC p hp
/-- a comprehension whose element changes a state, over whatever source -/
theorem comp_indS {elt : Expr} {x : Str} {scope : Scope} {cl : List (Str × Addr)} {S : List (Addr × Obj) → Prop} {P : Nat → Value → Prop} {Fin : List Value → List (Addr × Obj) → Prop} {σ : Type} (Led : σ → List (Addr × Obj)) (Inv : Nat → σ → List Value → Prop) {n : Nat}
    (step : ∀ i c ys v I oI C oC D m₂ h tk (E' : Value → Shared → Prop), i < n → Inv i c ys → P i v → LCg.NsObj oC m₂ → m₂ x = some v → Fr h₀ L h m → News h₀ L h ((I, oI) :: (C, oC) :: (D, LCg.lst ys) :: Led c) → LCg.Off3 I C D (Led c) → ((@Ne Nat I C) ∧ (@Ne Nat I D) ∧ (@Ne Nat C D)) →
      wpAny (model prog w) A (eval elt (compEnvC scope cl C env)) (LCg.CompEnd h₀ L m { s with heap := h, toks := tk } I oI C oC D (LCg.lst ys) S (fun y news' => ∃ c', news' = Led c' ∧ Inv (i + 1) c' (ys ++ [y]))) E' { s with heap := h, toks := tk })
    (fin : ∀ c ys, Inv n c ys → Fin ys (Led c)) : ∀ k i c ys, i + k = n → Inv i c ys → LCg.CompRest prog w A h₀ L m env elt x scope cl s S P Fin k i ys (Led c)
  | 0, i, c, ys, e, hi => LCg.CompRest.zero (by rw [Nat.add_zero] at e; subst e; exact fin c ys hi)
  | k + 1, i, c, ys, e, hi => LCg.CompRest.succ fun v I oI C oC D m₂ h tk E' hP hC hx F N off ne =>
    wpAny_mono (step i c ys v I oI C oC D m₂ h tk E' (by omega) hi hP hC hx F N off ne) (fun y s' hr => by
      obtain ⟨h', tk', news', e1, F', N', off', hS, c', e2, hi'⟩ := hr
      subst e2
      exact ⟨h', tk', _, e1, F', N', off', hS, comp_indS Led Inv step fin k (i + 1) c' (ys ++ [y]) (by omega) hi'⟩) fun _ _ z => z
end

end
section
local macro_rules | `(tactic| walk_at "my_pad0") => `(tactic| skip)
local macro_rules | `(tactic| walk_at "my_pad1") => `(tactic| skip)
local macro_rules | `(tactic| walk_at "my_pad2") => `(tactic| skip)
local macro_rules | `(tactic| walk_at "my_pad3") => `(tactic| skip)
local macro_rules | `(tactic| walk_at "my_pad4") => `(tactic| skip)
local macro_rules | `(tactic| walk_at "call ref") => `(tactic| ((with_reducible show wpAny _ _ (call (Value.ref 76) [Value.str _ _, Value.int _ _]) _ _ _); (refine' fault_call ?k1 ?k2 ?k3 ?k4 ?k5 ?k6 ?k7 ?k8 ?_; (case k1 => k_asm); (case k2 => k_asm); (case k3 => k_asm); (case k4 => k_asm); (case k5 => k_asm); (case k6 => walk_at "my_kind"); (case k7 => walk_at "my_room"); (case k8 => walk_at "my_room")); intro e' T' dx' k3' k4' h' tk' F' N' l1; (try k_sweep)))
local macro_rules | `(tactic| walk_at "my_go0") => `(tactic| (refine' code_defS0 ?k1 ?k2 ?k3 ?k4 ?k5 ?kA ?k6 ?k7 ?k8 ?k9 ?kB ?_ ?cK ?c2 ?c3 ?c4 ?c5; (case kA => exact rfl); (case k2 => k_asm); (case k1 => k_asm); (case k3 => k_asm); (case k4 => k_asm); (case k5 => k_asm); (case k6 => k_is); (case k7 => k_is); (case k8 => ktr_room); (case k9 => exact BindsTo.of_eq rfl); (case kB => exact locs rfl); (case cK => assumption); (case c2 => exact rfl); (case c3 => exact rfl); (case c4 => exact rfl); (case c5 => decide); k_whole; intro g' L' h' FG' F' N' B' X' T' D'; (try dsimp only); (try k_lift B'); (try k_fold)))
local macro_rules | `(tactic| walk_at "my_goS") => `(tactic| (refine' code_defS ?k1 ?k2 ?k3 ?k4 ?k5 ?XB ?TB ?D ?T0 ?kA ?k6 ?k7 ?k8 ?k9 ?kB ?_ ?cK ?c2 ?c3 ?c4 ?c5; (case kA => exact rfl); (case k2 => k_asm); (case k1 => k_asm); (case XB => assumption); (case TB => assumption); (case D => assumption); (case T0 => first | assumption | exact KtsTurn.refl); (case k3 => k_asm); (case k4 => k_asm); (case k5 => k_asm); (case k6 => k_is); (case k7 => k_is); (case k8 => ktr_room); (case k9 => exact BindsTo.of_eq rfl); (case kB => exact locs rfl); (case cK => assumption); (case c2 => exact rfl); (case c3 => exact rfl); (case c4 => exact rfl); (case c5 => decide); k_whole; intro g' L' h' FG' F' N' B' X' T' D'; (try dsimp only); (try k_lift B'); (try k_fold)))
local macro_rules | `(tactic| walk_at "my_goC") => `(tactic| (refine' code_defC ?k1 ?k2 ?k3 ?k4 ?k5 ?kA ?kF ?kK ?k6 ?k7 ?k8 ?k9 ?kB ?kD ?_ ?c2 ?c3 ?c4; (case kA => exact rfl); (case kF => exact rfl); (case kK => assumption); (case k1 => k_asm); (case k2 => k_asm); (case k3 => k_asm); (case k4 => k_asm); (case k5 => k_asm); (case k6 => k_is); (case k7 => k_is); (case k8 => ktr_room); (case k9 => exact BindsTo.of_eq rfl); (case kB => exact rfl); (case kD => decide +kernel); (case c2 => exact rfl); (case c3 => exact rfl); (case c4 => exact rfl); k_whole; intro g' L' h' tk' cells' FG' F' N' Y' B' X' T' l1; (try k_lt l1); k_cells Y'; (try simp only [List.cons_append, List.nil_append] at N'); (try dsimp only); (try k_lift B'); (try k_fold)))
local macro_rules | `(tactic| walk_at "exec For Name Call") => `(tactic| refine stop_of ?_)
local macro_rules | `(tactic| walk_at "exec For Name Call cons") => `(tactic| refine stop_of ?_)
local macro_rules | `(tactic| walk_at "exec For Name Call cons nil") => `(tactic| refine stop_of ?_)
local macro_rules | `(tactic| walk_at "pyIter str") => `(tactic| refine stop_of ?_)
local macro_rules | `(tactic| walk_at "InvEndN") => `(tactic| refine stop_of ?_)
local macro_rules | `(tactic| walk_at "eval ListComp") => `(tactic| refine stop_of ?_)
local macro_rules | `(tactic| walk_at "SrcTup") => `(tactic| refine stop_of ?_)
local macro_rules | `(tactic| walk_at "CompEnd") => `(tactic| refine stop_of ?_)
def sixS : Str := Str.ofString "0123456789ABCDEFabcdef"
/-- the four bits of a figure -/
def bits4 (v : Nat) : List Nat := [48 + v / 8 % 2, 48 + v / 4 % 2, 48 + v / 2 % 2, 48 + v % 2]
def rowOf (l : List Nat) : List Nat := l.flatMap fun c => bits4 (hv c)
theorem rowOf_snoc (l : List Nat) (c : Nat) : rowOf (l ++ [c]) = rowOf l ++ bits4 (hv c) := by unfold rowOf; rw [List.flatMap_append]; simp
theorem rowOf_len : ∀ l : List Nat, (rowOf l).length = 4 * l.length
  | [] => rfl
  | c :: r => by
    show (bits4 (hv c) ++ rowOf r).length = _
    rw [List.length_append, rowOf_len r, List.length_cons]
    show 4 + _ = _
    omega
theorem six_all : ∀ c ∈ sg hexS, Txt.find sixS ⟨#[up1 c]⟩ = (hv c : Int) := by decide +kernel
theorem bits4_at : ∀ v : Nat, v < 16 → ∀ i : Nat, i < 4 → (bits4 v)[i]? = some (48 + v / 2 ^ (3 - i) % 2) := by decide +kernel
theorem halves {t1 t2 t3 t4 : Tok} : ∀ {i : Nat} {v : Value}, ([.int 8 t1, .int 4 t2, .int 2 t3, .int 1 t4] : List Value)[i]? = some v → ∃ t, v = .int ((2 ^ (3 - i) : Nat) : Int) t
  | 0, v, h => ⟨t1, by simpa using h.symm⟩
  | 1, v, h => ⟨t2, by simpa using h.symm⟩
  | 2, v, h => ⟨t3, by simpa using h.symm⟩
  | 3, v, h => ⟨t4, by simpa using h.symm⟩
  | n + 4, v, h => by simp at h
theorem bit_nat (v k : Nat) : ((v : Int).fdiv (k : Int)).fmod 2 = ((v / k % 2 : Nat) : Int) := by
  w_top off
  rw [Int.fdiv_eq_ediv_of_nonneg _ (Int.natCast_nonneg k), Int.fmod_eq_emod_of_nonneg _ (by decide)]
  omega
theorem bit_one {v k : Nat} (h : ((v : Int).fdiv (k : Int)).fmod 2 = 1) : v / k % 2 = 1 := by rw [bit_nat] at h; omega
theorem bit_zero {v k : Nat} (h : ((v : Int).fdiv (k : Int)).fmod 2 ≠ 1) : v / k % 2 = 0 := by rw [bit_nat] at h; omega
theorem one_is : Str.ofString "1" = ⟨#[49]⟩ := by decide +kernel
theorem zero_is : Str.ofString "0" = ⟨#[48]⟩ := by decide +kernel
theorem empty_is : Str.ofString "" = ⟨#[]⟩ := by decide +kernel
theorem empty_len0 : (Str.ofString "").length = 0 := by decide +kernel
theorem join_signs : ∀ l : List Nat, sg (Str.join ⟨#[]⟩ (l.map fun b => ⟨#[b]⟩)) = l
  | [] => rfl
  | a :: r => by rw [List.map_cons, join_nil_cons, sg_app, join_signs r]; rfl
theorem rowOf_map {f : Nat → Nat} : ∀ {l : List Nat}, (∀ c ∈ l, hv (f c) = hv c) → rowOf (l.map f) = rowOf l
  | [], _ => rfl
  | c :: r, h => by
    show bits4 (hv (f c)) ++ rowOf (r.map f) = bits4 (hv c) ++ rowOf r
    rw [h c (.head _), rowOf_map fun x hx => h x (.tail _ hx)]
theorem sub1 {a b x : Addr × Obj} {news own : List (Addr × Obj)} : ∀ p ∈ x :: news, p ∈ a :: b :: x :: (news ++ own) := fun p hp => by
  rcases List.mem_cons.mp hp with rfl | hp
  · exact .tail _ (.tail _ (.head _))
  · exact .tail _ (.tail _ (.tail _ (List.mem_append_left _ hp)))
theorem sub2 {a b x : Addr × Obj} {news own : List (Addr × Obj)} : ∀ p ∈ own, p ∈ a :: b :: x :: (news ++ own) := fun p hp => .tail _ (.tail _ (.tail _ (List.mem_append_right _ hp)))
theorem row_b {w : World} {mean : ExcName → Option Value} {mg mb : Str → Option Value} {dp un : Nat} {gd : Option (List Code)} {cn : Str} {cs : Scope} {a : Addr} {ccd : Value} {cl : List (Str × Addr)} {outer : List Env} {A₀ : Around} {base h₀ : Heap} {L : Addr} {m : Str → Option Value} {s : Shared} {Q E : Value → Shared → Prop} {tk ty tb : Tok} {y : Str} {news : List (Addr × Obj)} (B : Below A₀ base outer h₀) (F : Fr h₀ L s.heap m) (X : (hd.heap_39 w.params).In h₀) (T : Top hd.view_39 (looseW hd.view_39 [Str.ofString "SIMPLE"]) mean mg mb h₀) (hcs : cs.kind = .function) (hdp : dp + 10 < recursionLimit) (hun : un + 100 < cLine)
   (N : News h₀ L s.heap news)
   (ret : ∀ ty h' tk', Fr h₀ L h' m → News h₀ L h' news → Q (.str y ty) { s with heap := h', toks := tk' }) :
   wpAny (model Challenge.rw_qz0006_03.row.prog w) (ktrTop dp un gd cn cs L a ccd cl outer) (call (.ref 192) [.str (Str.ofString "b") tb, .str y ty]) Q E s := by
  w_top off
  revert X; k_fill; intro X; refine wpAny_call ?_; k_dflt (walk_at "my_goC")
  k_steps
  rename Fr _ _ _ _ => kF; rename News _ _ _ _ => kN
  exact ret _ _ _ kF (cb_drop kN (by walk_at "my_sub"))
theorem row_x {w : World} {mean : ExcName → Option Value} {mg mb : Str → Option Value} {dp un : Nat} {gd : Option (List Code)} {cn : Str} {cs : Scope} {a : Addr} {ccd : Value} {cl : List (Str × Addr)} {outer : List Env} {A₀ : Around} {base h₀ : Heap} {L : Addr} {m : Str → Option Value} {s : Shared} {Q E : Value → Shared → Prop} {kd : Str} {tk ty tb : Tok} {y : Str} {news : List (Addr × Obj)} (B : Below A₀ base outer h₀) (F : Fr h₀ L s.heap m) (X : (hd.heap_39 w.params).In h₀) (T : Top hd.view_39 (looseW hd.view_39 [Str.ofString "SIMPLE"]) mean mg mb h₀) (hcs : cs.kind = .function) (hdp : dp + 10 < recursionLimit) (hun : un + 100 < cLine)
   (N : News h₀ L s.heap news) (hkd : (kd == Str.ofString "b") = false) (hy : ∀ c ∈ sg y, c ∈ sg hexS) (hl : y.length ≤ 2000)
   (ret : ∀ z tz h' tk', sg z = rowOf (sg y) → Fr h₀ L h' m → News h₀ L h' news → Q (.str z tz) { s with heap := h', toks := tk' }) :
   wpAny (model Challenge.rw_qz0006_03.row.prog w) (ktrTop dp un gd cn cs L a ccd cl outer) (call (.ref 192) [.str kd tb, .str y ty]) Q E s := by
  w_top off
  revert X; k_fill; intro X; refine wpAny_call ?_; k_dflt (walk_at "my_goC")
  k_steps
  unfold Stop
  rename Fr _ _ _ _ => F1
  rename News _ _ _ _ => N1
  rename _ = Data.cell _ => hcell
  rename_i g1 L1 z28 z27 z26 z25 z24 zT z22 o0 z20
  refine' For_invVF F1 ?f1 ?f2 ?_
  case f1 => exact rfl
  case f2 => exact rfl
  k_steps
  unfold Stop
  rename Fr _ _ _ _ => F2
  rename News _ _ _ _ => N2
  have hy1 : ∀ c ∈ sg y, c < 128 := fun c hc => (hex_all c (hy c hc)).1
  have hls := upper_sg hy1
  refine' KStt.kst_text (σ := Str × Tok × Obj) (fun c => (L1 + 1, c.2.2) :: news) (fun c => [("found", .str c.1 c.2.1)]) (fun _ => True) [] (fun pre c => sg c.1 = rowOf (natsOf pre) ∧ ∃ v, c.2.2.data = Data.cell v) (Str.ofString "", _, o0) rfl F2 N2 trivial ?k0 ?p0 ?turn ?done
  case k0 => kst_all
  case p0 => exact ⟨(by decide +kernel : sg (Str.ofString "") = rowOf []), _, hcell⟩
  case turn =>
    intro c pre post n t u h tk own hc hoff _ hP F3 N3
    obtain ⟨v, tv, oc⟩ := c
    obtain ⟨hP, vc, hoc⟩ := hP
    dsimp only at *
    have hn := codes_mem hc
    rw [hls, List.mem_map] at hn
    obtain ⟨c0, hc0, rfl⟩ := hn
    have hh := hex_all c0 (hy c0 hc0)
    have hall : ∀ p ∈ news ++ own, p.1 ≠ L1 + 1 := fun p hp => by
      rcases List.mem_append.mp hp with hp | hp
      · exact Nat.ne_of_lt (Nat.lt_succ_of_lt (z22 p hp))
      · exact hoff p hp _ (.head _)
    replace N3 : News g1 L1 h ((L1 + 1, oc) :: (news ++ own)) := N3
    have hvl : v.length ≤ 8000 := by
      have h1 := codes_pre hc
      have h2 := congrArg List.length h1
      rw [← sg_len, hP, rowOf_len]
      rw [hls, List.length_append, List.length_map, sg_len] at h2
      omega
    k_steps
    unfold Stop
    rename Fr _ _ _ _ => F4
    k_dflt (refine comp_tup F4 (by with_unfolding_all rfl) (by decide) (by rfl) (by decide) (by rfl) ?_)
    k_steps
    unfold Stop
    rename News _ _ _ _ => N5
    rename Fr _ _ _ _ => F5
    rename _ = Data.cell _ => d5
    rename Obj => oN
    rw [show Txt.find (Str.ofString "0123456789ABCDEFabcdef") ⟨#[up1 c0]⟩ = _ from six_all c0 (hy c0 hc0)] at d5
    have hv16 : hv c0 < 16 := hh.2.1
    have hv0 : (0 : Int) ≤ (hv c0 : Int) := Int.natCast_nonneg _
    have hv15 : (hv c0 : Int) ≤ 15 := by omega
    refine ⟨_, [_, _, _, _], _, rfl, rfl, F5, N5, .head _, by rw [sizeLine_eq]; exact Nat.le_of_ble_eq_true rfl, fun g9 => ?_⟩
    refine comp_indS (n := 4) (σ := List Str) (fun _ => _) (fun i c ys => StrsAre ys c ∧ c = ((bits4 (hv c0)).take i).map (fun b => ⟨#[b]⟩)) ?step ?fin 4 0 [] [] rfl ⟨.nil, rfl⟩
    case step =>
      intro i c ys v2 I oI C oC D m2 h2 tk2 E2 hin hI hP2 hC hx F6 N6 off ne
      obtain ⟨t7, rfl⟩ := halves hP2
      obtain ⟨i1, i2⟩ := hI
      have hp1 : (1 : Int) ≤ ((2 ^ (3 - i) : Nat) : Int) := by have := Nat.one_le_two_pow (n := 3 - i); omega
      have hp2 : ((2 ^ (3 - i) : Nat) : Int) ≤ 8 := by
        have := Nat.pow_le_pow_right (show 0 < 2 by decide) (show 3 - i ≤ 3 by omega)
        omega
      generalize hhalf : ((2 ^ (3 - i) : Nat) : Int) = half at hx hp1 hp2
      dsimp only [LCg.Off3] at *
      k_steps
      all_goals unfold Stop
      all_goals (rename Fr _ _ _ _ => kF; rename News _ _ _ _ => kN)
      · rename Int.fmod _ _ = 1 => hbit
        rw [← hhalf] at hbit
        refine LCg.CompEnd.intro kF kN _ (fun _ h => h) off (.head _) ⟨c ++ [Str.ofString "1"], rfl, StrsAre.append' i1 (.cons _ _ .nil), ?_⟩
        rw [i2, List.take_add_one, bits4_at _ hv16 i hin, bit_one hbit, Option.toList_some, List.map_append]
        exact congrArg _ (congrArg (fun x => [x]) one_is)
      · rename Int.fmod _ _ ≠ 1 => hbit
        rw [← hhalf] at hbit
        refine LCg.CompEnd.intro kF kN _ (fun _ h => h) off (.head _) ⟨c ++ [Str.ofString "0"], rfl, StrsAre.append' i1 (.cons _ _ .nil), ?_⟩
        rw [i2, List.take_add_one, bits4_at _ hv16 i hin, bit_zero hbit, Option.toList_some, List.map_append]
        exact congrArg _ (congrArg (fun x => [x]) zero_is)
    case fin =>
      intro c ys hI
      obtain ⟨i1, i2⟩ := hI
      dsimp only at *
      intro D h2 tk2 F6 N6 off
      k_steps
      have hcl : c.length = 4 := by rw [i2, List.length_map]; rfl
      have hjs : sg (Txt.join (Str.ofString "") c) = bits4 (hv c0) := by
        rw [txt_join, empty_is, i2, join_signs]
        rfl
      have hjl : (Txt.join (Str.ofString "") c).length = 4 := by rw [← sg_len, hjs]; rfl
      refine join_list (ys := c) (News.isList N6 (.head _)) i1 (by rw [empty_len0, i2, List.map_map]; exact Nat.le_of_ble_eq_true rfl) ?_
      intro t5 k5
      k_steps
      unfold Stop
      rename Fr _ _ _ _ => kF
      rename News _ _ _ _ => kN
      refine' kst_end (v ++ Txt.join (Str.ofString "") c, _, oN) kF kN ?e1 ?e2 rfl trivial ?e3 ?e4 ?e5
      case e5 => exact ⟨by rw [sg_app, hP, hjs, natsOf_snoc, rowOf_snoc, hh.2.2.2.2.1], _, d5⟩
      case e1 => exact sub1
      case e2 => exact sub2
      case e3 => kst_all
      case e4 => walk_at "my_same3"
  case done =>
    intro c u h tk _ hP F3 N3
    obtain ⟨v, tv, oc⟩ := c
    obtain ⟨hP, vc, hoc⟩ := hP
    dsimp only at *
    k_steps
    rename Fr _ _ _ _ => kF
    rename News _ _ _ _ => kN
    refine ret _ _ _ _ ?_ kF (cb_drop kN (by walk_at "my_sub"))
    rw [hP, natsOf_codes, hls]
    exact rowOf_map fun c hc => (hex_all c (hy c hc)).2.2.2.2.1

end
section
local macro_rules | `(tactic| walk_at "my_pad0") => `(tactic| skip)
local macro_rules | `(tactic| walk_at "my_pad1") => `(tactic| skip)
local macro_rules | `(tactic| walk_at "my_pad2") => `(tactic| skip)
local macro_rules | `(tactic| walk_at "my_pad3") => `(tactic| skip)
local macro_rules | `(tactic| walk_at "my_pad4") => `(tactic| skip)
local macro_rules | `(tactic| walk_at "my_pad5") => `(tactic| skip)
local macro_rules | `(tactic| walk_at "my_pad6") => `(tactic| skip)
local macro_rules | `(tactic| walk_at "my_pad7") => `(tactic| skip)
local macro_rules | `(tactic| walk_at "my_pad8") => `(tactic| skip)
local macro_rules | `(tactic| walk_at "my_pad9") => `(tactic| skip)
local macro_rules | `(tactic| walk_at "my_pad10") => `(tactic| skip)
local macro_rules | `(tactic| walk_at "my_pad11") => `(tactic| skip)
local macro_rules | `(tactic| walk_at "my_pad12") => `(tactic| skip)
local macro_rules | `(tactic| walk_at "my_pad13") => `(tactic| skip)
local macro_rules | `(tactic| walk_at "my_pad14") => `(tactic| skip)
local macro_rules | `(tactic| walk_at "my_pad15") => `(tactic| skip)
local macro_rules | `(tactic| walk_at "my_pad16") => `(tactic| skip)
local macro_rules | `(tactic| walk_at "my_pad17") => `(tactic| skip)
def KindOk (kd : Str) (Z : List Nat) (B e : Nat) : Prop := (kd = ⟨#[98]⟩ ∧ Z = [48, 49] ∧ B = 2 ∧ e = 1) ∨ (kd = ⟨#[120]⟩ ∧ Z = sg hexS ∧ B = 16 ∧ e = 4)
theorem drop_one (A r : List Nat) : (A ++ 35 :: r).drop (A.length + 1) = r := by
  rw [show A ++ 35 :: r = (A ++ [35]) ++ r by simp, List.drop_append, List.drop_eq_nil_of_le (by simp), List.nil_append]
  simp
theorem kind_res {kd : Str} {Z : List Nat} {B e : Nat} (hK : KindOk kd Z B e) (A r : List Nat) : bitsRes (A ++ 35 :: (sg kd ++ r)) A.length = bitsOf (A ++ 35 :: (sg kd ++ r)) Z B e A.length := by
  rcases hK with ⟨rfl, rfl, rfl, rfl⟩ | ⟨rfl, rfl, rfl, rfl⟩
  · exact bits_b (by rw [drop_one]; rfl)
  · exact bits_x (by rw [drop_one]; rfl)
theorem kind_len {kd : Str} {Z : List Nat} {B e : Nat} (hK : KindOk kd Z B e) : (sg kd).length = 1 := by
  rcases hK with ⟨rfl, rfl, rfl, rfl⟩ | ⟨rfl, rfl, rfl, rfl⟩ <;> rfl
theorem drop_two {A k r : List Nat} (hk : k.length = 1) (n : Nat) : (A ++ 35 :: (k ++ r)).drop (A.length + 2 + n) = r.drop n := by
  rw [show A ++ 35 :: (k ++ r) = (A ++ 35 :: k) ++ r by simp]
  rw [List.drop_append, List.drop_eq_nil_of_le (by simp; omega), List.nil_append]
  congr 1
  simp
  omega
theorem run_is {A k d tl Z : List Nat} (hk : k.length = 1) (hd : ∀ c ∈ d, c ∈ Z) (ht : ∀ c, tl.head? = some c → c ∉ Z) : runAt (A ++ 35 :: (k ++ (d ++ tl))) Z (A.length + 2) = d := by
  unfold runAt
  rw [show A.length + 2 = A.length + 2 + 0 from rfl, drop_two hk, List.drop_zero]
  exact takeWhile_all hd ht
theorem end_is {A k d tl : List Nat} (hk : k.length = 1) : (A ++ 35 :: (k ++ (d ++ tl))).drop (A.length + 2 + d.length) = tl := by
  rw [drop_two hk, List.drop_left]
theorem read_at {kd : Str} {Z A d tl : List Nat} {B e : Nat} (hK : KindOk kd Z B e) (hd : ∀ c ∈ d, c ∈ Z) (hne : d ≠ []) (ht : ∀ c, tl.head? = some c → c ∉ Z ∧ c ∉ sg simpleS) :
    bitsRes (A ++ 35 :: (sg kd ++ (d ++ tl))) A.length = some (val B d, e * d.length, A.length + 2 + d.length) := by
  have hk := kind_len hK
  rw [kind_res hK]
  exact bitsOf_good (run_is hk hd fun c hc => (ht c hc).1).symm hne rfl (by rw [end_is hk]; exact fun c hc => (ht c hc).2)
theorem read_ends {kd : Str} {Z A d tl : List Nat} {B e c : Nat} (hK : KindOk kd Z B e) (hd : ∀ c ∈ d, c ∈ Z) (hc : tl.head? = some c) (hz : c ∉ Z) (hs : c ∈ sg simpleS) :
    bitsRes (A ++ 35 :: (sg kd ++ (d ++ tl))) A.length = none := by
  have hk := kind_len hK
  rw [kind_res hK]
  exact bitsOf_ends (d := d) (run_is hk hd fun c' hc' => by rw [hc] at hc'; cases hc'; exact hz).symm rfl ⟨c, by rw [end_is hk]; exact hc, hs⟩
theorem read_empty {kd : Str} {Z A tl : List Nat} {B e : Nat} (hK : KindOk kd Z B e) (ht : ∀ c, tl.head? = some c → c ∉ Z) :
    bitsRes (A ++ 35 :: (sg kd ++ tl)) A.length = none := by
  have hk := kind_len hK
  rw [kind_res hK]
  exact bitsOf_empty (d := []) (run_is (d := []) hk (fun _ h => nomatch h) ht).symm rfl
theorem read_nokind {A r : List Nat} (h1 : r.head? ≠ some 98) (h2 : r.head? ≠ some 120) : bitsRes (A ++ 35 :: r) A.length = none := by
  exact bits_none (by rw [drop_one]; exact h1) (by rw [drop_one]; exact h2)
theorem bits4_val : ∀ v : Nat, v < 16 → val 2 (bits4 v) = v := by decide +kernel
theorem val2_row : ∀ {l : List Nat}, (∀ c ∈ l, c ∈ sg hexS) → val 2 (rowOf l) = val 16 l
  | [], _ => rfl
  | c :: r, h => by
    have h1 : rowOf (c :: r) = bits4 (hv c) ++ rowOf r := rfl
    have h2 := val_app 16 [c] r
    have h3 : val 16 [c] = hv c := by simp [val]
    rw [h3] at h2
    rw [h1, val_app, bits4_val _ (hex_all c (h c (.head _))).2.1, rowOf_len, val2_row fun x hx => h x (.tail _ hx), Nat.pow_mul]
    exact h2.symm
theorem bits4_in : ∀ v : Nat, v < 16 → ∀ c ∈ bits4 v, c = 48 ∨ c = 49 := by decide +kernel
theorem row_in {l : List Nat} (h : ∀ c ∈ l, c ∈ sg hexS) : ∀ c ∈ rowOf l, c = 48 ∨ c = 49 := fun c hc => by
  obtain ⟨x, hx, hc⟩ := List.mem_flatMap.mp hc
  exact bits4_in _ (hex_all x (h x hx)).2.1 c hc
theorem base_pow {kd : Str} {Z : List Nat} {B e : Nat} (hK : KindOk kd Z B e) (n : Nat) : 2 ^ (e * n) = B ^ n := by
  rcases hK with ⟨rfl, rfl, rfl, rfl⟩ | ⟨rfl, rfl, rfl, rfl⟩
  · rw [Nat.one_mul]
  · rw [Nat.pow_mul]
theorem val_cut {kd : Str} {Z : List Nat} {B e : Nat} (hK : KindOk kd Z B e) (x y : List Nat) : val B x * 2 ^ (e * y.length) + val B y = val B (x ++ y) := by
  rw [val_app, base_pow hK]
theorem kind_hex {kd : Str} {Z : List Nat} {B e : Nat} (hK : KindOk kd Z B e) : ∀ c ∈ Z, c ∈ sg hexS := by
  rcases hK with ⟨rfl, rfl, rfl, rfl⟩ | ⟨rfl, rfl, rfl, rfl⟩
  · exact bin_hex
  · exact fun _ h => h
theorem kind_base {kd : Str} {Z : List Nat} {B e : Nat} (hK : KindOk kd Z B e) : 1 ≤ B ∧ B ≤ 16 ∧ 1 ≤ e ∧ e ≤ 4 := by
  rcases hK with ⟨rfl, rfl, rfl, rfl⟩ | ⟨rfl, rfl, rfl, rfl⟩ <;> decide
theorem val_lt (B : Nat) (hB : 1 ≤ B ∧ B ≤ 16) : ∀ {l : List Nat}, (∀ c ∈ l, c ∈ sg hexS) → val B l < 16 ^ (l.length + 1)
  | [], _ => by simp [val]
  | c :: r, h => by
    have h2 := val_app B [c] r
    have h3 : val B [c] = hv c := by simp [val]
    rw [h3] at h2
    have h4 : hv c ≤ 15 := Nat.le_of_lt_succ (hex_all c (h c (.head _))).2.1
    have h5 : B ^ r.length ≤ 16 ^ r.length := Nat.pow_le_pow_left hB.2 _
    have h6 := val_lt B hB (l := r) fun x hx => h x (.tail _ hx)
    have h7 : hv c * B ^ r.length ≤ 15 * 16 ^ r.length := Nat.mul_le_mul h4 h5
    rw [show c :: r = [c] ++ r from rfl, h2, List.length_append, List.length_singleton, show 1 + r.length + 1 = r.length + 2 by omega]
    have e1 : 16 ^ (r.length + 1) = 16 ^ r.length * 16 := Nat.pow_succ ..
    have e2 : 16 ^ (r.length + 2) = 16 ^ (r.length + 1) * 16 := Nat.pow_succ ..
    omega
theorem slice_to {t : Str} {b : Nat} (hb : b ≤ t.length) : sg (Txt.slice t none (some (b : Int))) = (sg t).take b := by
  have e : Txt.slice t none (some (b : Int)) = Txt.slice t (some ((0 : Nat) : Int)) (some (b : Int)) := by
    have e : PySem.Builtin.Str.strSliceIndices none (some (b : Int)) 1 t.length = PySem.Builtin.Str.strSliceIndices (some ((0 : Nat) : Int)) (some (b : Int)) 1 t.length := by
      have h : ¬ ((t.length : Int) < 0) := by omega
      have e1 : max (0 : Int) (min ((0 : Nat) : Int) (t.length : Int)) = 0 := by omega
      have e2 : ¬ (((0 : Nat) : Int) < 0) := by omega
      simp only [PySem.Builtin.Str.strSliceIndices, show ((1 : Int) > 0) = True from by simp, if_true, e2, if_false, e1]
    unfold Txt.slice
    rw [e]
  rw [e, slice_at (Nat.zero_le _) hb, List.drop_zero, Nat.sub_zero]
theorem hash_is : sg (Str.ofString "#") = [35] := by decide +kernel
theorem hashb_is : sg (Str.ofString "#b") = [35, 98] := by decide +kernel
theorem piece_sg {kd x : Str} : sg (Str.ofString "#" ++ kd ++ x) = [] ++ 35 :: (sg kd ++ (sg x ++ [])) := by
  rw [sg_app, sg_app, hash_is]
  simp
theorem piece_text {kd x : Str} {Z : List Nat} {B e : Nat} (hK : KindOk kd Z B e) (hx : ∀ c ∈ sg x, c ∈ Z) (hn : 1 ≤ x.length) : bitsRes (sg (Str.ofString "#" ++ kd ++ x)) 0 = some (val B (sg x), e * (sg x).length, 2 + (sg x).length) := by
  rw [piece_sg]
  have h := read_at (A := []) (tl := []) hK hx (fun q => by rw [← sg_len, q] at hn; exact absurd hn (by decide)) (fun c hc => nomatch hc)
  rw [List.length_nil, Nat.zero_add] at h
  exact h
theorem bits_lt {n k : Nat} (h : n < 2 ^ k) : PySem.Builtin.Int.intBits (n : Int) ≤ k := by
  unfold PySem.Builtin.Int.intBits
  split
  · exact Nat.zero_le _
  · rename_i hz
    have hn : (n : Int).natAbs ≠ 0 := by simpa using hz
    have := (Nat.log2_lt hn).mpr (by simpa using h)
    omega
theorem mul_ok {v n : Nat} (hv : v < 16 ^ 41) (hn : n ≤ 200) : IntMulOk (v : Int) ((2 : Int) ^ (n : Int).toNat) := by
  have e : (2 : Int) ^ (n : Int).toNat = ((2 ^ n : Nat) : Int) := by rw [Int.toNat_natCast, Int.natCast_pow]; rfl
  rw [e]
  refine IntMulOk.of_bits (Nat.le_trans (bits_lt (k := 164) ?_) (by decide)) (Nat.le_trans (bits_lt (k := 201) ?_) (by decide))
  · rw [show (16 : Nat) ^ 41 = 2 ^ 164 from by decide +kernel] at hv
    exact hv
  · exact Nat.pow_lt_pow_right (by decide) (by omega)
theorem val_low {kd y : Str} {Z : List Nat} {B e : Nat} (hK : KindOk kd Z B e) (hy : ∀ c ∈ sg y, c ∈ Z) : (∀ c ∈ sg (Txt.lower y), c ∈ Z) ∧ val B (sg (Txt.lower y)) = val B (sg y) ∧ (Txt.lower y).length = y.length := by
  have h1 : ∀ c ∈ sg y, c ∈ sg hexS := fun c hc => kind_hex hK c (hy c hc)
  have hs := lower_sg (x := y) fun c hc => (hex_all c (h1 c hc)).1
  refine ⟨?_, by rw [hs, val_map fun c hc => (hex_all c (h1 c hc)).2.2.2.1], by rw [← sg_len, hs, List.length_map, sg_len]⟩
  intro c hc
  rw [hs] at hc
  obtain ⟨d, hd, rfl⟩ := List.mem_map.mp hc
  have hz := hy d hd
  rcases hK with ⟨rfl, rfl, rfl, rfl⟩ | ⟨rfl, rfl, rfl, rfl⟩
  · revert d
    intro d _ _ hz
    rcases List.mem_cons.mp hz with rfl | hz
    · decide
    · rw [List.mem_singleton.mp hz]; decide
  · exact (hex_all d (h1 d hd)).2.2.2.2.2.1
theorem val_up {kd y : Str} {Z : List Nat} {B e : Nat} (hK : KindOk kd Z B e) (hy : ∀ c ∈ sg y, c ∈ Z) : (∀ c ∈ sg (Txt.upper y), c ∈ Z) ∧ val B (sg (Txt.upper y)) = val B (sg y) ∧ (Txt.upper y).length = y.length := by
  have h1 : ∀ c ∈ sg y, c ∈ sg hexS := fun c hc => kind_hex hK c (hy c hc)
  have hs := upper_sg (x := y) fun c hc => (hex_all c (h1 c hc)).1
  refine ⟨?_, by rw [hs, val_map fun c hc => (hex_all c (h1 c hc)).2.2.2.2.1], by rw [← sg_len, hs, List.length_map, sg_len]⟩
  intro c hc
  rw [hs] at hc
  obtain ⟨d, hd, rfl⟩ := List.mem_map.mp hc
  have hz := hy d hd
  rcases hK with ⟨rfl, rfl, rfl, rfl⟩ | ⟨rfl, rfl, rfl, rfl⟩
  · revert d
    intro d _ _ hz
    rcases List.mem_cons.mp hz with rfl | hz
    · decide
    · rw [List.mem_singleton.mp hz]; decide
  · exact (hex_all d (h1 d hd)).2.2.2.2.2.2
/-- what each of the three texts tells -/
def TextOk (x : Str) (v n : Nat) : Prop := bitsRes (sg x) 0 = some (v, n, x.length) ∧ 2 ≤ x.length ∧ x.length ≤ 2000
theorem text_of {kd x : Str} {Z : List Nat} {B e v n : Nat} (hK : KindOk kd Z B e) (hx : ∀ c ∈ sg x, c ∈ Z) (hn : 1 ≤ x.length) (hl : x.length ≤ 200) (hv : val B (sg x) = v) (he : e * x.length = n) : TextOk (Str.ofString "#" ++ kd ++ x) v n := by
  have hl2 : (Str.ofString "#" ++ kd ++ x).length = 2 + x.length := by
    rw [← sg_len, piece_sg]
    simp only [List.nil_append, List.length_cons, List.length_append, List.append_nil, kind_len hK, sg_len]
    omega
  refine ⟨?_, by omega, by omega⟩
  rw [piece_text hK hx hn, hv, sg_len, he, hl2]
theorem hashb : Str.ofString "#b" = Str.ofString "#" ++ ⟨#[98]⟩ := by decide +kernel
theorem three_ok {kd fg rw : Str} {Z : List Nat} {bs es : Nat} {t1 t2 t3 : Tok} (hK : KindOk kd Z bs es) (hf : ∀ c ∈ sg fg, c ∈ Z) (hfl : 1 ≤ fg.length ∧ fg.length ≤ 40) (hrow : ∀ c ∈ sg rw, c = 48 ∨ c = 49) (hrl : rw.length = es * fg.length) (hrl2 : rw.length ≤ 160) (hval : val 2 (sg rw) = val bs (sg fg)) :
    ∀ {i : Nat} {v : Value}, ([.str (Str.ofString "#b" ++ rw) t1, .str (Str.ofString "#" ++ kd ++ Txt.lower fg) t2, .str (Str.ofString "#" ++ kd ++ Txt.upper fg) t3] : List Value)[i]? = some v → ∃ x t, v = .str x t ∧ TextOk x (val bs (sg fg)) rw.length := by
  have hB := kind_base hK
  have hr1 : 1 ≤ rw.length := by
    rw [hrl]
    exact Nat.mul_pos hB.2.2.1 hfl.1
  obtain ⟨l1, l2, l3⟩ := val_low hK hf
  obtain ⟨u1, u2, u3⟩ := val_up hK hf
  have a1 : TextOk (Str.ofString "#b" ++ rw) (val bs (sg fg)) rw.length := by
    rw [hashb]
    exact text_of (Z := [48, 49]) (B := 2) (e := 1) (.inl ⟨rfl, rfl, rfl, rfl⟩) (fun c hc => by rcases hrow c hc with rfl | rfl <;> decide) hr1 (by omega) hval (Nat.one_mul _)
  have a2 := text_of hK l1 (by omega) (by omega) l2 (by rw [l3, hrl] : es * (Txt.lower fg).length = rw.length)
  have a3 := text_of hK u1 (by omega) (by omega) u2 (by rw [u3, hrl] : es * (Txt.upper fg).length = rw.length)
  intro i v h
  rcases i with _ | _ | _ | i
  · exact ⟨_, _, by simpa using h.symm, a1⟩
  · exact ⟨_, _, by simpa using h.symm, a2⟩
  · exact ⟨_, _, by simpa using h.symm, a3⟩
  · simp at h

end
section
local macro_rules | `(tactic| walk_at "my_pad0") => `(tactic| skip)
local macro_rules | `(tactic| walk_at "my_pad1") => `(tactic| skip)
local macro_rules | `(tactic| walk_at "my_pad2") => `(tactic| skip)
local macro_rules | `(tactic| walk_at "my_pad3") => `(tactic| skip)
local macro_rules | `(tactic| walk_at "my_pad4") => `(tactic| skip)
local macro_rules | `(tactic| walk_at "my_pad5") => `(tactic| skip)
local macro_rules | `(tactic| walk_at "my_pad6") => `(tactic| skip)
local macro_rules | `(tactic| walk_at "my_pad7") => `(tactic| skip)
local macro_rules | `(tactic| walk_at "my_pad8") => `(tactic| skip)
local macro_rules | `(tactic| walk_at "my_pad9") => `(tactic| skip)
local macro_rules | `(tactic| walk_at "my_pad10") => `(tactic| skip)
local macro_rules | `(tactic| walk_at "my_pad11") => `(tactic| skip)
local macro_rules | `(tactic| walk_at "my_pad12") => `(tactic| skip)
local macro_rules | `(tactic| walk_at "my_pad13") => `(tactic| skip)
local macro_rules | `(tactic| walk_at "my_pad14") => `(tactic| skip)
local macro_rules | `(tactic| walk_at "my_pad15") => `(tactic| skip)
local macro_rules | `(tactic| walk_at "my_pad16") => `(tactic| skip)
local macro_rules | `(tactic| walk_at "my_pad17") => `(tactic| skip)
local macro_rules | `(tactic| walk_at "my_pad18") => `(tactic| skip)
section
variable {prog : Program} {w : World} {A : Around} {E : Value → Shared → Prop} {s : Shared} {h₀ : Heap} {L : Addr} {news : List (Addr × Obj)} {v v' : Value} {d : Dat} {Q : Value → Shared → Prop}
theorem dat_shaped {n : Nat} (hn : n ≤ 9) (hk : kqdOk n d = true) : SeqAt.shaped (kqdP d) = true := by
  have l := kqd_lay n d hk
  unfold SeqAt.shaped
  rw [l.1, Bool.true_and]
  exact decide_eq_true (Nat.le_trans l.2 (Nat.le_trans hn (by decide)))
theorem dat_eqv {n : Nat} (hk : kqdOk n d = true) : PyData.eqv (kqdP d) (kqdP d) = true := (kqd_eqv n d d n hk hk).mpr rfl
theorem dat_eq {n : Nat} (hn : n ≤ 9) (N : News h₀ L s.heap news) (Da : DatIn news v d) (Db : DatIn news v' d) (hk : kqdOk n d = true) (hu : A.units + 64 < cLine) (h : Q (.bool true) s) : wpAny (model prog w) A (compareOp .Eq v v') Q E s := by
  obtain ⟨as, ra⟩ := kqd_in N n Da hk
  obtain ⟨bs, rb⟩ := kqd_in N n Db hk
  exact eq_dataH ra rb (dat_shaped hn hk) (dat_shaped hn hk) hu (by rw [dat_eqv hk]; exact h)
theorem dat_ne {n : Nat} (hn : n ≤ 9) (N : News h₀ L s.heap news) (Da : DatIn news v d) (Db : DatIn news v' d) (hk : kqdOk n d = true) (hu : A.units + 64 < cLine) (h : Q (.bool false) s) : wpAny (model prog w) A (compareOp .NotEq v v') Q E s := by
  obtain ⟨as, ra⟩ := kqd_in N n Da hk
  obtain ⟨bs, rb⟩ := kqd_in N n Db hk
  exact ne_dataH ra rb (dat_shaped hn hk) (dat_shaped hn hk) hu (by rw [dat_eqv hk]; exact h)
end

end
section
local macro_rules | `(tactic| walk_at "my_pad0") => `(tactic| skip)
local macro_rules | `(tactic| walk_at "my_pad1") => `(tactic| skip)
local macro_rules | `(tactic| walk_at "my_pad2") => `(tactic| skip)
local macro_rules | `(tactic| walk_at "my_pad3") => `(tactic| skip)
local macro_rules | `(tactic| walk_at "my_pad4") => `(tactic| skip)
local macro_rules | `(tactic| walk_at "my_pad5") => `(tactic| skip)
local macro_rules | `(tactic| walk_at "my_pad6") => `(tactic| skip)
local macro_rules | `(tactic| walk_at "my_pad7") => `(tactic| skip)
local macro_rules | `(tactic| walk_at "my_pad8") => `(tactic| skip)
local macro_rules | `(tactic| walk_at "my_pad9") => `(tactic| skip)
local macro_rules | `(tactic| walk_at "my_pad10") => `(tactic| skip)
local macro_rules | `(tactic| walk_at "my_pad11") => `(tactic| skip)
local macro_rules | `(tactic| walk_at "my_pad12") => `(tactic| skip)
local macro_rules | `(tactic| walk_at "my_pad13") => `(tactic| skip)
local macro_rules | `(tactic| walk_at "my_pad14") => `(tactic| skip)
local macro_rules | `(tactic| walk_at "my_pad15") => `(tactic| skip)
local macro_rules | `(tactic| walk_at "my_pad16") => `(tactic| skip)
local macro_rules | `(tactic| walk_at "my_pad17") => `(tactic| skip)
local macro_rules | `(tactic| walk_at "my_pad18") => `(tactic| skip)
local macro_rules | `(tactic| walk_at "my_pad19") => `(tactic| skip)
section
variable {prog : Program} {w : World} {A : Around} {E : Value → Shared → Prop} {s : Shared} {env : Env} {h₀ : Heap} {x : Str} {body : List Stmt} {Q : Flow → Shared → Prop}
/-- a loop over a tuple of the ledger: what stands, stands -/
theorem kst_tup {ax : Addr} {its : List Value} {m₀ : Str → Option Value} {led : List (Addr × Obj)} (stored : List Str)
    (hh : A.handled = none) (F : Fr h₀ env.locals s.heap m₀) (N : News h₀ env.locals s.heap ((ax, tupObj its) :: led)) (hoff : ∀ p ∈ led, p.1 ≠ ax)
    (turn : ∀ (i : Nat) v (u : Str → Option Value) h tk own, its[i]? = some v → OwnOff own (led.map (·.1)) →
      Fr h₀ env.locals h (fun y => if y = x then some v else kstB (fun z => if stored.contains z then u z else m₀ z) [] y) → News h₀ env.locals h (led ++ own) →
      wpAny (model prog w) A (execs body env) (InvPostN h₀ env.locals (KstS (fun _ : Unit => led) (fun _ => []) (fun _ => True) x stored m₀ (fun _ _ => True) []) own (led.map (·.1)) { s with heap := h, toks := tk } Q) E { s with heap := h, toks := tk })
    (done : ∀ (u : Str → Option Value) h tk, Fr h₀ env.locals h (fun y => if y = x then u y else kstB (fun z => if stored.contains z then u z else m₀ z) [] y) → News h₀ env.locals h led → Q .next { s with heap := h, toks := tk }) :
    wpAny (model prog w) A (pyIter (.ref ax)) (fun it s₂ => LoopAtV prog w A h₀ env x body Q E it s₂) E s := by
  have nA := N _ (.head _)
  have ht : s.heap.IsTuple ax its.toArray := tup_is nA.1
  refine wpAny_pyIter_tuple ht ?_
  have hlt : ax < s.heap.objs.size := Heap.lt_size nA.1
  have W := Walks.tuple (prog := prog) (w := w) (A := A) hh s.heap.objs.size ax (Nat.ne_of_lt hlt) its.toArray
  refine loop_invN (fun _ m nx => KstS (fun _ : Unit => led) (fun _ => []) (fun _ => True) x stored m₀ (fun _ _ => True) [] m nx) W ?_ ?_ ?_ ?_ ⟨⟨_, Heap.get?_push_size _ rfl, rfl, rfl⟩, ht.push _⟩ (F.push _) (fun p hp => ⟨Heap.get?_push_of_some _ (N p (.tail _ hp)).1, (N p (.tail _ hp)).2⟩) ⟨(), rfl, trivial, fun _ h => (nomatch h), fun _ _ _ _ => rfl, trivial⟩ ?_ ?_
  · intro hm
    rcases List.mem_cons.mp hm with e | hm
    · exact absurd F.ns.lt (e ▸ Nat.lt_irrefl _)
    · exact nA.2.1 (List.mem_singleton.mp hm).symm
  · intro b hb
    rw [List.mem_singleton.mp hb]
    exact next_is_new F
  · intro p hp hI
    exact absurd (Heap.lt_size (N p (.tail _ hp)).1) ((List.mem_singleton.mp hI) ▸ Nat.lt_irrefl _)
  · intro p hp hI
    rcases List.mem_cons.mp hI with e | hI
    · exact absurd (Heap.lt_size (N p (.tail _ hp)).1) (e ▸ Nat.lt_irrefl _)
    · exact hoff p hp (List.mem_singleton.mp hI)
  · rintro i v m₁ nx h tk own hi hv _ ho ⟨c, rfl, _, h1, h2, _⟩ F₁ N₁
    exact turn i v m₁ h tk own (by simpa using hv) ho (kst_fr (fun _ h => (nomatch h)) h2 F₁) N₁
  · rintro m₁ nx h tk ⟨c, rfl, _, h1, h2, _⟩ F₁ N₁
    exact done m₁ h tk (kst_frOut (fun _ h => (nomatch h)) h2 F₁) N₁
end

end
section
local macro_rules | `(tactic| walk_at "my_pad0") => `(tactic| skip)
local macro_rules | `(tactic| walk_at "call ref") => `(tactic| ((with_reducible show wpAny _ _ (call (Value.ref 76) [Value.str _ _, Value.int _ _]) _ _ _); (refine' fault_call ?k1 ?k2 ?k3 ?k4 ?k5 ?k6 ?k7 ?k8 ?_; (case k1 => k_asm); (case k2 => k_asm); (case k3 => k_asm); (case k4 => k_asm); (case k5 => k_asm); (case k6 => walk_at "my_kind"); (case k7 => walk_at "my_room"); (case k8 => walk_at "my_room")); intro e' T' dx' k3' k4' h' tk' F' N' l1; (try k_sweep)))
local macro_rules | `(tactic| walk_at "my_go0") => `(tactic| (refine' code_defS0 ?k1 ?k2 ?k3 ?k4 ?k5 ?kA ?k6 ?k7 ?k8 ?k9 ?kB ?_ ?cK ?c2 ?c3 ?c4 ?c5; (case kA => exact rfl); (case k2 => k_asm); (case k1 => k_asm); (case k3 => k_asm); (case k4 => k_asm); (case k5 => k_asm); (case k6 => k_is); (case k7 => k_is); (case k8 => ktr_room); (case k9 => exact BindsTo.of_eq rfl); (case kB => exact locs rfl); (case cK => assumption); (case c2 => exact rfl); (case c3 => exact rfl); (case c4 => exact rfl); (case c5 => decide); k_whole; intro g' L' h' FG' F' N' B' X' T' D'; (try dsimp only); (try k_lift B'); (try k_fold)))
local macro_rules | `(tactic| walk_at "my_goS") => `(tactic| (refine' code_defS ?k1 ?k2 ?k3 ?k4 ?k5 ?XB ?TB ?D ?T0 ?kA ?k6 ?k7 ?k8 ?k9 ?kB ?_ ?cK ?c2 ?c3 ?c4 ?c5; (case kA => exact rfl); (case k2 => k_asm); (case k1 => k_asm); (case XB => assumption); (case TB => assumption); (case D => assumption); (case T0 => first | assumption | exact KtsTurn.refl); (case k3 => k_asm); (case k4 => k_asm); (case k5 => k_asm); (case k6 => k_is); (case k7 => k_is); (case k8 => ktr_room); (case k9 => exact BindsTo.of_eq rfl); (case kB => exact locs rfl); (case cK => assumption); (case c2 => exact rfl); (case c3 => exact rfl); (case c4 => exact rfl); (case c5 => decide); k_whole; intro g' L' h' FG' F' N' B' X' T' D'; (try dsimp only); (try k_lift B'); (try k_fold)))
local macro_rules | `(tactic| walk_at "my_goC") => `(tactic| (refine' code_defC ?k1 ?k2 ?k3 ?k4 ?k5 ?kA ?kF ?kK ?k6 ?k7 ?k8 ?k9 ?kB ?kD ?_ ?c2 ?c3 ?c4; (case kA => exact rfl); (case kF => exact rfl); (case kK => assumption); (case k1 => k_asm); (case k2 => k_asm); (case k3 => k_asm); (case k4 => k_asm); (case k5 => k_asm); (case k6 => k_is); (case k7 => k_is); (case k8 => ktr_room); (case k9 => exact BindsTo.of_eq rfl); (case kB => exact rfl); (case kD => decide +kernel); (case c2 => exact rfl); (case c3 => exact rfl); (case c4 => exact rfl); k_whole; intro g' L' h' tk' cells' FG' F' N' Y' B' X' T' l1; (try k_lt l1); k_cells Y'; (try simp only [List.cons_append, List.nil_append] at N'); (try dsimp only); (try k_lift B'); (try k_fold)))
local macro_rules | `(tactic| walk_at "call ref") => `(tactic| ((first | with_reducible show wpAny _ _ (call (Value.ref 197) _) _ _ _ | with_reducible show wpAny _ _ (call (Value.ref 197, _).fst _) _ _ _ | with_reducible show wpAny _ _ (call (Value.ref 204) _) _ _ _ | with_reducible show wpAny _ _ (call (Value.ref 204, _).fst _) _ _ _); refine stop_of ?_))
local macro_rules | `(tactic| walk_at "exec For Name Tuple") => `(tactic| refine stop_of ?_)
local macro_rules | `(tactic| walk_at "exec For Name Tuple cons") => `(tactic| refine stop_of ?_)
local macro_rules | `(tactic| walk_at "exec For Name Tuple cons nil") => `(tactic| refine stop_of ?_)
local macro_rules | `(tactic| walk_at "exec For Name Call") => `(tactic| refine stop_of ?_)
local macro_rules | `(tactic| walk_at "exec For Name Call cons") => `(tactic| refine stop_of ?_)
local macro_rules | `(tactic| walk_at "exec For Name Call cons nil") => `(tactic| refine stop_of ?_)
def HaltIter : Prop := True
local macro_rules | `(tactic| walk_at "pyIter ref") => `(tactic| ((with_reducible rename HaltIter => hz9); (with_reducible show wpAny _ _ (pyIter (Value.ref _)) (fun it s₂ => LoopAtV _ _ _ _ _ _ _ _ _ it s₂) _ _); refine stop_of ?_))
local macro_rules | `(tactic| walk_at "InvEndN") => `(tactic| refine stop_of ?_)
local macro_rules | `(tactic| walk_at "compareOp NotEq ref ref") => `(tactic| refine stop_of ?_)
local macro_rules | `(tactic| walk_at "PEnd") => `(tactic| refine stop_of ?_)
local macro_rules | `(tactic| walk_at "subscriptTail Name Slice ref ref") => `(tactic| refine stop_of ?_)
local macro_rules | `(tactic| walk_at "binaryOp Mult int int") => `(tactic| refine stop_of ?_)
local macro_rules | `(tactic| walk_at "binaryOp Pow int int") => `(tactic| refine stop_of ?_)
local macro_rules | `(tactic| walk_at "eval IfExp") => `(tactic| refine stop_of ?_)
local macro_rules | `(tactic| walk_at "my_rg") => `(tactic| (refine' readG (b := 0) ?k1 ?k2 ?k3 ?k4 ?k5 ?xb ?tb ?dd ?t0 ?k6 ?k7 ?k8 ?k9 ?k10 ?kg ?rt; (case k1 => k_asm); (case k2 => k_asm); (case k3 => k_asm); (case k4 => k_asm); (case k5 => walk_at "my_kind"); (case xb => assumption); (case tb => assumption); (case dd => assumption); (case t0 => exact KtsTurn.refl); (case k6 => walk_at "my_room"); (case k7 => walk_at "my_room"); (case k8 => k_asm); (case k9 => omega); (case k10 => omega); (case' rt => (intro p' r' k3' k4' k5' k6' h' tk' F' N' l1 l2; (try k_lt l2); (try k_lt l1); (try k_sweep)))))
/-- two ways that tell the same int, joined -/
theorem join_int {prog : Program} {w : World} {A : Around} {E Q : Value → Shared → Prop} {s : Shared} {h₀ : Heap} {L : Addr} {m : Str → Option Value} {news : List (Addr × Obj)} {x : Sem Value} (n : Int) (F : Fr h₀ L s.heap m) (N : News h₀ L s.heap news)
    (h1 : wpAny (model prog w) A x (PEnd h₀ L m s news fun v => ∃ tv, v = .int n tv) E s)
    (h2 : ∀ tv h' tk', Fr h₀ L h' m → News h₀ L h' news → Q (.int n tv) { s with heap := h', toks := tk' }) : wpAny (model prog w) A x Q E s :=
  wpAny_mono h1 (fun v s' hp => by
    obtain ⟨h', tk', rfl, F', N', tv, rfl⟩ := hp
    exact h2 tv h' tk' F' N') fun _ _ h => h
theorem kind_one {kd : Str} {Z : List Nat} {B e : Nat} (hK : KindOk kd Z B e) (h : (kd == Str.ofString "b") = true) : e = 1 := by
  w_top off
  rcases hK with ⟨rfl, rfl, rfl, rfl⟩ | ⟨rfl, rfl, rfl, rfl⟩
  · rfl
  · exact absurd h (by decide +kernel)
theorem kind_four {kd : Str} {Z : List Nat} {B e : Nat} (hK : KindOk kd Z B e) (h : (kd == Str.ofString "b") = false) : e = 4 := by
  w_top off
  rcases hK with ⟨rfl, rfl, rfl, rfl⟩ | ⟨rfl, rfl, rfl, rfl⟩
  · exact absurd h (by decide +kernel)
  · rfl
theorem bits_ok {v n k : Int} : kqdOk 2 (.tuple [.tuple [.str (Str.ofString "bits"), .int v, .int n], .int k]) = true := by
  w_top off
  have h : PyData.strOk (Str.ofString "bits") = true := by decide +kernel
  simp [kqdOk, h]
theorem slice_due {prog : Program} {w : World} {A : Around} {E Q : Value → Shared → Prop} {s : Shared} {h₀ : Heap} {L : Addr} {m : Str → Option Value} {news : List (Addr × Obj)} {value slice : Expr} {t : Addr} {x y z : Value} {u : Tok} (F : Fr h₀ L s.heap m) (N : News h₀ L s.heap news) (hm : (t, tupObj [x, y, z]) ∈ news)
    (h : ∀ p h', Fr h₀ L h' m → News h₀ L h' ((p, tupObj [y, z]) :: news) → Q (.ref p) { s with heap := h' })
    (hs : subscripted slice false (.ref t) (.ref s.heap.objs.size) = operate [.ref s.heap.objs.size, .ref t] (getItem (.ref t) (.ref s.heap.objs.size)) := by with_unfolding_all rfl)
    (hg : ∀ r, letTemporaryGo value (.ref t) r = pure () := by intro _; with_unfolding_all rfl) :
    wpAny (model prog w) A (subscriptTail value slice (.ref t) (.ref s.heap.objs.size)) Q E { s with heap := s.heap.push { cls := .type "slice", data := .fields #[.int 1 u, .none, .none] } } :=
  slice_tuple_from (a := 1) F N ⟨_, (N _ hm).1, rfl, _, rfl⟩ (by decide) (by simp) (fun h' F' N' => h _ h' F' (by simpa using N')) hs hg (by simp [sizeLine_eq])
theorem pieces_call {w : World} {mean : ExcName → Option Value} {mg mb : Str → Option Value} {dp un : Nat} {gd : Option (List Code)} {cn : Str} {cs : Scope} {a : Addr} {ccd : Value} {A₀ : Around} {base h₀ : Heap} {L : Addr} {m : Str → Option Value} {s : Shared} {Q E : Value → Shared → Prop} {kd fg rw : Str} {Z : List Nat} {bs es : Nat} {tk tf tr : Tok} {news : List (Addr × Obj)} (B : Below A₀ base [] h₀) (F : Fr h₀ L s.heap m) (X : (hd.heap_39 w.params).In h₀) (T : Top hd.view_39 (looseW hd.view_39 [Str.ofString "SIMPLE"]) mean mg mb h₀) (hcs : cs.kind = .function) (XB : (hd.heap_39 w.params).In base) (TB : Top hd.view_39 (looseW hd.view_39 [Str.ofString "SIMPLE"]) mean mg mb base) (hdp : dp + 100 < recursionLimit) (hun : un + 1000 < cLine)
   (N : News h₀ L s.heap news) (hK : KindOk kd Z bs es) (hf : ∀ c ∈ sg fg, c ∈ Z) (hfl : 1 ≤ fg.length ∧ fg.length ≤ 40) (hrow : ∀ c ∈ sg rw, c = 48 ∨ c = 49) (hrl : rw.length = es * fg.length) (hval : val 2 (sg rw) = val bs (sg fg))
   (ret : ∀ h' tk', Fr h₀ L h' m → News h₀ L h' news → Q (.bool true) { s with heap := h', toks := tk' }) :
   wpAny (model Challenge.rw_qz0006_03.row.prog w) (ktrTop dp un gd cn cs L a ccd [] []) (call (.ref 211) [.str kd tk, .str fg tf, .str rw tr]) Q E s := by
  w_top off
  revert X XB; k_fill; intro X XB; refine wpAny_call ?_; k_dflt (walk_at "my_go0")
  have hhl : (Str.ofString "#").length = 1 := by decide +kernel
  have hhb : (Str.ofString "#b").length = 2 := by decide +kernel
  have hHalt : HaltIter := trivial
  have hB := kind_base hK
  have hkl : kd.length = 1 := by rw [← sg_len]; exact kind_len hK
  have hrl2 : rw.length ≤ 160 := by
    rw [hrl]
    have h1 : es * fg.length ≤ 4 * fg.length := Nat.mul_le_mul_right _ hB.2.2.2
    omega
  k_steps
  unfold Stop
  rename Fr _ _ _ _ => F1
  rename News _ _ _ _ => N1
  refine' sum_call ?a1 F1 ?a3 ?a4 ?a5 ?a6 ?a7 N1 hrow (by omega) ?_
  case a1 => k_asm
  case a3 => k_asm
  case a4 => k_asm
  case a5 => walk_at "my_kind"
  case a6 => walk_at "my_room"
  case a7 => walk_at "my_room"
  intro v1 tv1 h1 tk1 hv1 F2 N2
  rw [hval] at hv1
  subst hv1
  k_steps
  unfold Stop
  rename Fr _ _ _ _ => F3
  rename News _ _ _ _ => N3
  refine join_int (es : Int) F3 N3 ?ife ?_
  case ife =>
    refine wpAny_IfExp ?_
    k_steps
    all_goals unfold Stop
    all_goals (rename Fr _ _ _ _ => kF; rename News _ _ _ _ => kN)
    · rename (_ == _) = true => hq
      exact PEnd.intro kF kN (fun _ h => h) ⟨_, by rw [kind_one hK hq]; rfl⟩
    · rename (_ == _) = false => hq
      exact PEnd.intro kF kN (fun _ h => h) ⟨_, by rw [kind_four hK hq]; rfl⟩
  intro tve h4 tk4 F4 N4
  k_steps
  unfold Stop
  rename Fr _ _ _ _ => F5
  refine' For_invVF F5 ?f1 ?f2 ?_
  case f1 => exact rfl
  case f2 => exact rfl
  k_steps
  unfold Stop
  rename IsRange _ _ _ _ _ _ _ _ => rg
  rename News _ _ _ _ => N6
  rename Fr _ _ _ _ => F6
  refine' kst_range (σ := Unit) (n := ((fg.length : Int) - 1).toNat) (fun _ => _) (fun _ => []) (fun _ => True) ["one", "other"] (fun _ _ => True) () rfl rg (small_one (by omega) (by omega) (by omega) (by omega)) (rangeSize_nat _ _) F6 N6 trivial (List.forall_mem_nil _) trivial ?turn ?done
  case turn =>
    intro c pre k tt u h tk own hk hlt hoff _ _ F7 N7
    obtain ⟨b, rfl⟩ : ∃ b : Nat, k = (b : Int) := ⟨1 + pre.length, by omega⟩
    have hb1 : 1 ≤ b ∧ b < fg.length := by omega
    have hbi : (0 : Int) ≤ (b : Int) := Int.natCast_nonneg b
    k_steps
    unfold Stop
    have hs1 : sg (Txt.slice fg none (some (b : Int))) = (sg fg).take b := slice_to (by omega)
    have hl1 : (Txt.slice fg none (some (b : Int))).length = b := by rw [← sg_len, hs1, List.length_take, sg_len]; omega
    obtain ⟨va, na, ka, ga, ea1, ea2⟩ : ∃ v n k, bitsRes (sg (Str.ofString "#" ++ kd ++ Txt.slice fg none (some (b : Int)))) 0 = some (v, n, k) ∧ v = val bs ((sg fg).take b) ∧ n = es * b :=
      ⟨_, _, _, piece_text hK (by rw [hs1]; exact fun c hc => hf c (List.mem_of_mem_take hc)) (by omega), by rw [hs1], by rw [sg_len, hl1]⟩
    walk_at "my_rg"
    case kg => exact ga
    k_steps
    unfold Stop
    have hs2 : sg (Txt.slice fg (some (b : Int)) none) = (sg fg).drop b := slice_from (by omega) (by omega)
    have hl2 : (Txt.slice fg (some (b : Int)) none).length = fg.length - b := by rw [← sg_len, hs2, List.length_drop, sg_len]
    obtain ⟨vb, nb, kb, gb, eb1, eb2⟩ : ∃ v n k, bitsRes (sg (Str.ofString "#" ++ kd ++ Txt.slice fg (some (b : Int)) none)) 0 = some (v, n, k) ∧ v = val bs ((sg fg).drop b) ∧ n = es * (fg.length - b) :=
      ⟨_, _, _, piece_text hK (by rw [hs2]; exact fun c hc => hf c (List.mem_of_mem_drop hc)) (by omega), by rw [hs2], by rw [sg_len, hl2]⟩
    have hnb : nb ≤ 160 := by
      have h1 : es * (fg.length - b) ≤ 4 * (fg.length - b) := Nat.mul_le_mul_right _ hB.2.2.2
      omega
    walk_at "my_rg"
    case kg => exact gb
    clear gb ga
    k_steps
    unfold Stop
    refine mul_int ?_ (IntMulOk.of_left (bits_small es (by omega)))
    k_steps
    · with_reducible rename (_ : Int) ≠ _ => hne
      exact absurd (by rw [ea2, Int.natCast_mul]) hne
    · unfold Stop
      refine pow_int_small (by omega) (by omega) (by decide) ?_
      have hva : va < 16 ^ 41 := by
        rw [ea1]
        refine Nat.lt_of_lt_of_le (val_lt bs ⟨hB.1, hB.2.1⟩ fun c hc => kind_hex hK c (hf c (List.mem_of_mem_take hc))) (Nat.pow_le_pow_right (by decide) ?_)
        rw [List.length_take, sg_len]
        omega
      have hmul := mul_ok hva (show nb ≤ 200 by omega)
      clear hva
      have hsum : ((va : Int) * (2 : Int) ^ (nb : Int).toNat) = (((va * 2 ^ nb : Nat) : Int)) := by
        rw [Int.toNat_natCast, Int.natCast_mul, Int.natCast_pow]
        rfl
      generalize (2 : Int) ^ (nb : Int).toNat = pw at hmul hsum
      k_steps
      unfold Stop
      refine mul_int ?_ hmul
      rw [hsum]
      clear hmul hsum
      have hval2 : va * 2 ^ nb + vb = val bs (sg fg) := by
        have h1 := val_cut hK ((sg fg).take b) ((sg fg).drop b)
        rwa [List.take_append_drop, ← ea1, ← eb1, List.length_drop, sg_len, ← eb2] at h1
      generalize va * 2 ^ nb = pv at hval2
      have hbits : (na : Int) + (nb : Int) = (rw.length : Int) := by
        rw [hrl, ea2, eb2, ← Int.natCast_add, ← Nat.mul_add]
        congr 2
        omega
      k_steps
      unfold Stop
      rename Fr _ _ _ _ => F8
      rename News _ _ _ _ => N8
      rw [hbits, ← Int.natCast_add, hval2] at N8
      refine slice_due (s := ⟨_, _, _, _, _⟩) F8 N8 (by k_memK) ?_
      intro p9 h9 F9 N9
      refine dat_ne (n := 1) (by decide) N9 (.tuple (.tail _ (.head _)) (.cons (.int _ _) (.cons (.int _ _) .nil))) (.tuple (.head _) (.cons (.int _ _) (.cons (.int _ _) .nil))) (by simp [kqdOk]) ?hu ?_
      case hu => walk_at "my_room"
      k_steps
      unfold Stop
      rename Fr _ _ _ _ => F10
      rename News _ _ _ _ => N10
      refine' kst_end () F10 N10 ?e1 ?e2 rfl trivial (List.forall_mem_nil _) ?e3 trivial
      case e1 => exact fun p hp => .tail _ (.tail _ (.tail _ (.tail _ (.tail _ (.tail _ (.tail _ (List.mem_append_left _ hp)))))))
      case e2 => exact fun p hp => .tail _ (.tail _ (.tail _ (.tail _ (.tail _ (.tail _ (.tail _ (List.mem_append_right _ hp)))))))
      case e3 => walk_at "my_same3"
  case done =>
    intro c u h tk _ _ F7 N7
    (try clear hHalt)
    k_steps
    unfold Stop
    rename Fr _ _ _ _ => F7
    refine' For_invVF F7 ?g1 ?g2 ?_
    case g1 => exact rfl
    case g2 => exact rfl
    k_steps
    (try unfold Stop)
    rename News _ _ _ _ => N8
    rename Fr _ _ _ _ => F8
    with_reducible rename _ ∧ _ ∧ AllLt _ news => l9
    refine' kst_tup ["text"] rfl F8 N8 ?off ?turn2 ?done2
    case off => exact List.forall_mem_cons.mpr ⟨Nat.ne_of_lt l9.1, List.forall_mem_cons.mpr ⟨Nat.ne_of_lt l9.2.1, fun p hp => Nat.ne_of_lt (allLt_mem l9.2.2 p hp)⟩⟩
    case turn2 =>
      intro i v u h tk own hv ho F9 N9
      obtain ⟨tx, tt, rfl, ht1, ht2, ht3⟩ := three_ok hK hf hfl hrow hrl hrl2 hval hv
      clear hv
      k_steps
      unfold Stop
      walk_at "my_rg"
      case kg => exact ht1
      clear ht1
      k_steps
      unfold Stop
      rename Fr _ _ _ _ => F10
      rename News _ _ _ _ => N10
      refine dat_ne (n := 2) (by decide) N10 (.tuple (.tail _ (.head _)) (.cons (.tuple (.tail _ (.tail _ (.head _))) (.cons (.str _ _) (.cons (.int _ _) (.cons (.int _ _) .nil)))) (.cons (.int _ _) .nil))) (.tuple (.head _) (.cons (.tuple (.tail _ (.tail _ (.tail _ (List.mem_append_left _ (.tail _ (.head _)))))) (.cons (.str _ _) (.cons (.int _ _) (.cons (.int _ _) .nil)))) (.cons (.int _ _) .nil))) bits_ok ?hu2 ?_
      case hu2 => walk_at "my_room"
      k_steps
      unfold Stop
      rename Fr _ _ _ _ => F11
      rename News _ _ _ _ => N11
      refine' kst_end () F11 N11 ?i1 ?i2 rfl trivial (List.forall_mem_nil _) ?i3 trivial
      case i1 => exact fun p hp => .tail _ (.tail _ (.tail _ (List.mem_append_left _ hp)))
      case i2 => exact fun p hp => .tail _ (.tail _ (.tail _ (List.mem_append_right _ hp)))
      case i3 => walk_at "my_same3"
    case done2 =>
      intro u h tk F9 N9
      k_steps
      rename Fr _ _ _ _ => kF
      rename News _ _ _ _ => kN
      exact ret _ _ kF (cb_drop kN fun p hp => .tail _ (.tail _ hp))

end
section
local macro_rules | `(tactic| walk_at "my_pad0") => `(tactic| skip)
local macro_rules | `(tactic| walk_at "my_pad1") => `(tactic| skip)
local macro_rules | `(tactic| walk_at "my_pad2") => `(tactic| skip)
local macro_rules | `(tactic| walk_at "my_pad3") => `(tactic| skip)
local macro_rules | `(tactic| walk_at "my_pad4") => `(tactic| skip)
local macro_rules | `(tactic| walk_at "my_pad5") => `(tactic| skip)
local macro_rules | `(tactic| walk_at "my_pad6") => `(tactic| skip)
local macro_rules | `(tactic| walk_at "my_pad7") => `(tactic| skip)
local macro_rules | `(tactic| walk_at "my_pad8") => `(tactic| skip)
local macro_rules | `(tactic| walk_at "my_pad9") => `(tactic| skip)
local macro_rules | `(tactic| walk_at "my_pad10") => `(tactic| skip)
local macro_rules | `(tactic| walk_at "my_pad11") => `(tactic| skip)
local macro_rules | `(tactic| walk_at "my_pad12") => `(tactic| skip)
local macro_rules | `(tactic| walk_at "my_pad13") => `(tactic| skip)
local macro_rules | `(tactic| walk_at "my_pad14") => `(tactic| skip)
local macro_rules | `(tactic| walk_at "my_pad15") => `(tactic| skip)
local macro_rules | `(tactic| walk_at "my_pad16") => `(tactic| skip)
local macro_rules | `(tactic| walk_at "my_pad17") => `(tactic| skip)
local macro_rules | `(tactic| walk_at "my_pad18") => `(tactic| skip)
local macro_rules | `(tactic| walk_at "my_pad19") => `(tactic| skip)
local macro_rules | `(tactic| walk_at "my_pad20") => `(tactic| skip)
local macro_rules | `(tactic| walk_at "my_pad21") => `(tactic| skip)
def kindsL : List Str := [Str.ofString "b", Str.ofString "x", Str.ofString "b", Str.ofString "x", Str.ofString "b", Str.ofString "x", Str.ofString "B", Str.ofString ""]
def tailsL : List Str := [Str.ofString "", Str.ofString " ", Str.ofString ")", Str.ofString "(", Str.ofString "|", Str.ofString "\"", Str.ofString ";c", Str.ofString "#b1", Str.ofString ":k", Str.ofString "-", Str.ofString "q", Str.ofString "."]
def aheadL : List Str := [Str.ofString "", Str.ofString " ", Str.ofString "(", Str.ofString "a ", Str.ofString "; r\n"]
def zOf (kd : Str) : List Nat := if (kd == Str.ofString "b") = true then [48, 49] else sg hexS
def bOf (kd : Str) : Nat := if (kd == Str.ofString "b") = true then 2 else 16
def eOf (kd : Str) : Nat := if (kd == Str.ofString "b") = true then 1 else 4
theorem x_is : Str.ofString "x" = ⟨#[120]⟩ := by decide +kernel
theorem bb_is : Str.ofString "b" = ⟨#[98]⟩ := by decide +kernel
theorem kind_b {kd : Str} (h : (kd == Str.ofString "b") = true) : KindOk kd (zOf kd) (bOf kd) (eOf kd) := by
  unfold zOf bOf eOf
  rw [if_pos h, if_pos h, if_pos h]
  exact .inl ⟨(eq_of_beq h).trans bb_is, rfl, rfl, rfl⟩
theorem kind_x {kd : Str} (hb : (kd == Str.ofString "b") = false) (h : (kd == Str.ofString "x") = true) : KindOk kd (zOf kd) (bOf kd) (eOf kd) := by
  unfold zOf bOf eOf
  rw [if_neg (by rw [hb]; decide), if_neg (by rw [hb]; decide), if_neg (by rw [hb]; decide)]
  exact .inr ⟨(eq_of_beq h).trans x_is, rfl, rfl, rfl⟩
theorem z_b {kd : Str} (h : (kd == Str.ofString "b") = true) : zOf kd = [48, 49] := by unfold zOf; rw [if_pos h]
theorem z_x {kd : Str} (h : (kd == Str.ofString "b") = false) : zOf kd = sg hexS := by unfold zOf; rw [if_neg (by rw [h]; decide)]
theorem z_hex {kd : Str} : ∀ c ∈ zOf kd, c ∈ sg hexS := by
  unfold zOf
  split
  · exact bin_hex
  · exact fun _ h => h
theorem e_le {kd : Str} : 1 ≤ eOf kd ∧ eOf kd ≤ 4 := by
  unfold eOf
  split <;> decide
theorem any_or {kd a b : Str} (h : List.any [a, b] (fun y => y == kd) = true) : (kd == a) = true ∨ (kd == b) = true := by
  simp only [List.any_cons, List.any_nil, Bool.or_false, Bool.or_eq_true] at h
  rcases h with h | h
  · rw [Bool.beq_comm] at h; exact .inl h
  · rw [Bool.beq_comm] at h; exact .inr h
theorem any_no {kd a b : Str} (h : List.any [a, b] (fun y => y == kd) = false) : (kd == a) = false ∧ (kd == b) = false := by
  simp only [List.any_cons, List.any_nil, Bool.or_false, Bool.or_eq_false_iff] at h
  rw [Bool.beq_comm (a := a), Bool.beq_comm (a := b)] at h
  exact h
theorem kind_any {kd : Str} (h : List.any [Str.ofString "b", Str.ofString "x"] (fun y => y == kd) = true) : KindOk kd (zOf kd) (bOf kd) (eOf kd) := by
  rcases any_or h with h1 | h1
  · exact kind_b h1
  · cases hb : (kd == Str.ofString "b") with
    | true => exact kind_b hb
    | false => exact kind_x hb h1
theorem tail_all : ∀ tl ∈ tailsL, tl.length ≤ 3 ∧ (sg tl).head? ≠ some 98 ∧ (sg tl).head? ≠ some 120 ∧ (∀ c ∈ (sg tl).head?, c ∉ sg hexS) := by decide +kernel
theorem tail_ends : ∀ tl ∈ tailsL, if List.any [Str.ofString "-", Str.ofString "q", Str.ofString "."] (fun y => y == tl) = true then (∃ c ∈ (sg tl), (sg tl).head? = some c ∧ c ∈ sg simpleS) else (∀ c ∈ (sg tl).head?, c ∉ sg simpleS) := by decide +kernel
theorem ahead_all : ∀ a ∈ aheadL, a.length ≤ 4 := by decide +kernel
theorem kind_two : ∀ kd ∈ kindsL, (kd == Str.ofString "b") = false → (kd == Str.ofString "x") = false → kd = Str.ofString "B" ∨ kd = Str.ofString "" := by decide +kernel
theorem kind_l : ∀ kd ∈ kindsL, kd.length ≤ 1 := by decide +kernel
theorem text_sg {ah kd fx tl : Str} : sg (ah ++ Str.ofString "#" ++ kd ++ fx ++ tl) = sg ah ++ 35 :: (sg kd ++ (sg fx ++ sg tl)) := by
  rw [sg_app, sg_app, sg_app, sg_app, hash_is]
  simp
theorem due_kind {ah kd fx tl : Str} (hk : kd ∈ kindsL) (h : List.any [Str.ofString "b", Str.ofString "x"] (fun y => y == kd) = false) (hfx : kd = Str.ofString "" → sg fx = []) (ht : tl ∈ tailsL) :
    bitsRes (sg (ah ++ Str.ofString "#" ++ kd ++ fx ++ tl)) ah.length = none := by
  rw [text_sg, ← sg_len]
  obtain ⟨h1, h2⟩ := any_no h
  obtain ⟨_, t1, t2, _⟩ := tail_all tl ht
  rcases kind_two kd hk h1 h2 with rfl | rfl
  · rw [show sg (Str.ofString "B") = [66] from by decide +kernel]
    exact read_nokind (by simp) (by simp)
  · rw [hfx rfl, show sg (Str.ofString "") = [] from by decide +kernel, List.nil_append, List.nil_append]
    exact read_nokind t1 t2
theorem due_empty {ah kd fx tl : Str} (h : List.any [Str.ofString "b", Str.ofString "x"] (fun y => y == kd) = true) (hfx : sg fx = []) (ht : tl ∈ tailsL) :
    bitsRes (sg (ah ++ Str.ofString "#" ++ kd ++ fx ++ tl)) ah.length = none := by
  rw [text_sg, ← sg_len, hfx, List.nil_append]
  exact read_empty (kind_any h) fun c hc hz => (tail_all tl ht).2.2.2 c hc (z_hex c hz)
theorem due_ends {ah kd fx tl : Str} (h : List.any [Str.ofString "b", Str.ofString "x"] (fun y => y == kd) = true) (hf : ∀ c ∈ sg fx, c ∈ zOf kd) (ht : tl ∈ tailsL) (he : List.any [Str.ofString "-", Str.ofString "q", Str.ofString "."] (fun y => y == tl) = true) :
    bitsRes (sg (ah ++ Str.ofString "#" ++ kd ++ fx ++ tl)) ah.length = none := by
  rw [text_sg, ← sg_len]
  have h1 := tail_ends tl ht
  rw [if_pos he] at h1
  obtain ⟨c, _, h2, h3⟩ := h1
  exact read_ends (kind_any h) hf h2 (fun hz => (tail_all tl ht).2.2.2 c h2 (z_hex c hz)) h3
theorem due_good {ah kd fx tl : Str} (h : List.any [Str.ofString "b", Str.ofString "x"] (fun y => y == kd) = true) (hf : ∀ c ∈ sg fx, c ∈ zOf kd) (hne : sg fx ≠ []) (ht : tl ∈ tailsL) (he : List.any [Str.ofString "-", Str.ofString "q", Str.ofString "."] (fun y => y == tl) = false) :
    bitsRes (sg (ah ++ Str.ofString "#" ++ kd ++ fx ++ tl)) ah.length = some (val (bOf kd) (sg fx), eOf kd * fx.length, ah.length + 2 + fx.length) := by
  rw [text_sg, ← sg_len, ← sg_len (t := fx)]
  have h1 := tail_ends tl ht
  rw [if_neg (by rw [he]; decide)] at h1
  exact read_at (kind_any h) hf hne fun c hc => ⟨fun hz => (tail_all tl ht).2.2.2 c hc (z_hex c hz), h1 c hc⟩
theorem text_len {ah kd fx tl : Str} (h1 : ah ∈ aheadL) (h2 : kd ∈ kindsL) (h3 : fx.length ≤ 40) (h4 : tl ∈ tailsL) : ah.length < (ah ++ Str.ofString "#" ++ kd ++ fx ++ tl).length ∧ (ah ++ Str.ofString "#" ++ kd ++ fx ++ tl).length ≤ 2000 := by
  have e1 : (Str.ofString "#").length = 1 := by decide +kernel
  have a1 := ahead_all ah h1
  have a2 := kind_l kd h2
  have a3 := (tail_all tl h4).1
  simp only [Str.length_append, e1]
  omega
/-- what the row of bits is to the figures -/
def RowFor (kd y z : Str) : Prop := (∀ c ∈ sg z, c = 48 ∨ c = 49) ∧ z.length = eOf kd * y.length ∧ val 2 (sg z) = val (bOf kd) (sg y)
theorem rowFor_b {kd y : Str} (h : (kd == Str.ofString "b") = true) (hy : ∀ c ∈ sg y, c ∈ zOf kd) : RowFor kd y y := by
  rw [z_b h] at hy
  refine ⟨fun c hc => by simpa using hy c hc, ?_, ?_⟩
  · unfold eOf; rw [if_pos h, Nat.one_mul]
  · unfold bOf; rw [if_pos h]
theorem rowFor_x {kd y z : Str} (h : (kd == Str.ofString "b") = false) (hy : ∀ c ∈ sg y, c ∈ zOf kd) (hz : sg z = rowOf (sg y)) : RowFor kd y z := by
  rw [z_x h] at hy
  refine ⟨fun c hc => row_in hy c (by rwa [hz] at hc), ?_, ?_⟩
  · unfold eOf; rw [if_neg (by rw [h]; decide), ← sg_len, hz, rowOf_len, sg_len]
  · unfold bOf; rw [if_neg (by rw [h]; decide), hz, val2_row hy]

end
section
local macro_rules | `(tactic| walk_at "my_pad0") => `(tactic| skip)
local macro_rules | `(tactic| walk_at "my_pad1") => `(tactic| skip)
local macro_rules | `(tactic| walk_at "my_pad2") => `(tactic| skip)
local macro_rules | `(tactic| walk_at "my_pad3") => `(tactic| skip)
local macro_rules | `(tactic| walk_at "my_pad4") => `(tactic| skip)
local macro_rules | `(tactic| walk_at "my_pad5") => `(tactic| skip)
local macro_rules | `(tactic| walk_at "my_pad6") => `(tactic| skip)
local macro_rules | `(tactic| walk_at "my_pad7") => `(tactic| skip)
local macro_rules | `(tactic| walk_at "my_pad8") => `(tactic| skip)
local macro_rules | `(tactic| walk_at "my_pad9") => `(tactic| skip)
local macro_rules | `(tactic| walk_at "my_pad10") => `(tactic| skip)
local macro_rules | `(tactic| walk_at "my_pad11") => `(tactic| skip)
local macro_rules | `(tactic| walk_at "my_pad12") => `(tactic| skip)
local macro_rules | `(tactic| walk_at "my_pad13") => `(tactic| skip)
local macro_rules | `(tactic| walk_at "my_pad14") => `(tactic| skip)
local macro_rules | `(tactic| walk_at "my_pad15") => `(tactic| skip)
local macro_rules | `(tactic| walk_at "my_pad16") => `(tactic| skip)
local macro_rules | `(tactic| walk_at "my_pad17") => `(tactic| skip)
local macro_rules | `(tactic| walk_at "my_pad18") => `(tactic| skip)
local macro_rules | `(tactic| walk_at "my_pad19") => `(tactic| skip)
local macro_rules | `(tactic| walk_at "my_pad20") => `(tactic| skip)
local macro_rules | `(tactic| walk_at "my_pad21") => `(tactic| skip)
local macro_rules | `(tactic| walk_at "my_pad22") => `(tactic| skip)
/-- what stands behind the kind -/
def FxOk (kd fg fx : Str) : Prop := fx.length ≤ 40 ∧ ((kd == Str.ofString "") = true → sg fx = []) ∧ ((kd == Str.ofString "") = false → fx = fg)
theorem fx_yes {kd fg : Str} (hl : fg.length ≤ 40) (h : (kd != Str.ofString "") = true) : FxOk kd fg fg := ⟨hl, fun e => (by rw [bne, e] at h; cases h), fun _ => rfl⟩
theorem fx_no {kd fg : Str} (h : (kd != Str.ofString "") = false) : FxOk kd fg (Str.ofString "") := ⟨by decide +kernel, fun _ => (by decide +kernel), fun e => (by rw [bne, e] at h; cases h)⟩
theorem any_some {kd : Str} (h : List.any [Str.ofString "b", Str.ofString "x"] (fun y => y == kd) = true) : (kd == Str.ofString "") = false := by
  rcases any_or h with h | h
  · rw [eq_of_beq h]; decide +kernel
  · rw [eq_of_beq h]; decide +kernel
theorem res_kind {ah kd fg fx tl t : Str} (ht : t = ah ++ Str.ofString "#" ++ kd ++ fx ++ tl) (hk : kd ∈ kindsL) (hTl : tl ∈ tailsL) (hfx : FxOk kd fg fx) (h : List.any [Str.ofString "b", Str.ofString "x"] (fun y => y == kd) = false) :
    bitsRes (sg t) ah.length = none := by
  rw [ht]
  exact due_kind hk h (fun e => hfx.2.1 (by rw [e]; decide +kernel)) hTl
theorem res_empty {ah kd fg fx tl t : Str} (ht : t = ah ++ Str.ofString "#" ++ kd ++ fx ++ tl) (hTl : tl ∈ tailsL) (hfx : FxOk kd fg fx) (h : List.any [Str.ofString "b", Str.ofString "x"] (fun y => y == kd) = true) (he : (fg == Str.ofString "") = true) :
    bitsRes (sg t) ah.length = none := by
  rw [ht]
  exact due_empty h (by rw [hfx.2.2 (any_some h)]; exact sg_empty he) hTl
theorem res_ends {ah kd fg fx tl t : Str} (ht : t = ah ++ Str.ofString "#" ++ kd ++ fx ++ tl) (hTl : tl ∈ tailsL) (hfx : FxOk kd fg fx) (h : List.any [Str.ofString "b", Str.ofString "x"] (fun y => y == kd) = true) (hf : ∀ c ∈ sg fg, c ∈ zOf kd) (he : List.any [Str.ofString "-", Str.ofString "q", Str.ofString "."] (fun y => y == tl) = true) :
    bitsRes (sg t) ah.length = none := by
  rw [ht]
  exact due_ends h (by rw [hfx.2.2 (any_some h)]; exact hf) hTl he
theorem res_good {ah kd fg fx tl t rw' : Str} (ht : t = ah ++ Str.ofString "#" ++ kd ++ fx ++ tl) (hTl : tl ∈ tailsL) (hfx : FxOk kd fg fx) (h : List.any [Str.ofString "b", Str.ofString "x"] (fun y => y == kd) = true) (hf : ∀ c ∈ sg fg, c ∈ zOf kd) (hne : (fg == Str.ofString "") = false) (he : List.any [Str.ofString "-", Str.ofString "q", Str.ofString "."] (fun y => y == tl) = false) (hr : rw'.length = eOf kd * fg.length) :
    ∃ k : Nat, bitsRes (sg t) ah.length = some (val (bOf kd) (sg fg), rw'.length, k) ∧ (k : Int) = (ah.length : Int) + 2 + (fg.length : Int) := by
  obtain rfl := hfx.2.2 (any_some h)
  refine ⟨ah.length + 2 + fx.length, ?_, by omega⟩
  rw [ht, hr]
  exact due_good h hf (sg_some hne) hTl he
theorem len_pos {fg : Str} (h : (fg == Str.ofString "") = false) : 1 ≤ fg.length := by
  have h1 := sg_some h
  rw [← sg_len]
  cases h2 : sg fg with
  | nil => exact absurd h2 h1
  | cons a r => rw [List.length_cons]; omega
theorem none_ok3 {k : Int} : kqdOk 1 (.tuple [.none, .int k]) = true := by simp [kqdOk]

end
section
local macro_rules | `(tactic| walk_at "my_pad0") => `(tactic| skip)
local macro_rules | `(tactic| walk_at "my_pad1") => `(tactic| skip)
local macro_rules | `(tactic| walk_at "my_pad2") => `(tactic| skip)
local macro_rules | `(tactic| walk_at "my_pad3") => `(tactic| skip)
local macro_rules | `(tactic| walk_at "my_pad4") => `(tactic| skip)
local macro_rules | `(tactic| walk_at "my_pad5") => `(tactic| skip)
local macro_rules | `(tactic| walk_at "my_pad6") => `(tactic| skip)
local macro_rules | `(tactic| walk_at "my_pad7") => `(tactic| skip)
local macro_rules | `(tactic| walk_at "my_pad8") => `(tactic| skip)
local macro_rules | `(tactic| walk_at "my_pad9") => `(tactic| skip)
local macro_rules | `(tactic| walk_at "my_pad10") => `(tactic| skip)
local macro_rules | `(tactic| walk_at "my_pad11") => `(tactic| skip)
local macro_rules | `(tactic| walk_at "my_pad12") => `(tactic| skip)
local macro_rules | `(tactic| walk_at "my_pad13") => `(tactic| skip)
local macro_rules | `(tactic| walk_at "my_pad14") => `(tactic| skip)
local macro_rules | `(tactic| walk_at "my_pad15") => `(tactic| skip)
local macro_rules | `(tactic| walk_at "my_pad16") => `(tactic| skip)
local macro_rules | `(tactic| walk_at "my_pad17") => `(tactic| skip)
local macro_rules | `(tactic| walk_at "my_pad18") => `(tactic| skip)
local macro_rules | `(tactic| walk_at "my_pad19") => `(tactic| skip)
local macro_rules | `(tactic| walk_at "my_pad20") => `(tactic| skip)
local macro_rules | `(tactic| walk_at "my_pad21") => `(tactic| skip)
local macro_rules | `(tactic| walk_at "my_pad22") => `(tactic| skip)
local macro_rules | `(tactic| walk_at "call ref") => `(tactic| ((with_reducible show wpAny _ _ (call (Value.ref 76) [Value.str _ _, Value.int _ _]) _ _ _); (refine' fault_call ?k1 ?k2 ?k3 ?k4 ?k5 ?k6 ?k7 ?k8 ?_; (case k1 => k_asm); (case k2 => k_asm); (case k3 => k_asm); (case k4 => k_asm); (case k5 => k_asm); (case k6 => walk_at "my_kind"); (case k7 => walk_at "my_room"); (case k8 => walk_at "my_room")); intro e' T' dx' k3' k4' h' tk' F' N' l1; (try k_sweep)))
theorem len_ints_K {prog : Program} {w : World} {A : Around} {E Q : Value → Shared → Prop} {s : Shared} {h₀ : Heap} {L l : Addr} {news : List (Addr × Obj)} {vs : List Value} {ns : List Int} {n : Nat} (N : News h₀ L s.heap news) (hm : (l, listOf vs.toArray n) ∈ news) (hv : IntsAre vs ns) (hl : vs.length ≤ 60)
    (h : Q (.int ns.length (s.toks + 1)) { s with toks := s.toks + 1 + 1 }) : wpAny (model prog w) A (call (.builtin "len") [.ref l]) Q E s := by
  w_top off
  have e : vs.toArray.size = ns.length := by rw [List.size_toArray, hv.length]
  refine len_list (News.isList N hm) ?_ (by rw [e]; exact h)
  rw [List.size_toArray]
  omega
local macro_rules | `(tactic| walk_at "call builtin:len") => `(tactic| (k_dflt (refine' len_ints_K ?k1 ?k2 ?k3 ?k4 ?_; (case k1 => k_asm); (case k2 => k_mem); (case k3 => assumption); (case k4 => assumption))))
theorem spoon_call {w : World} {mean : ExcName → Option Value} {mg mb : Str → Option Value} {dp un : Nat} {gd : Option (List Code)} {cn : Str} {cs : Scope} {a : Addr} {ccd : Value} {cl : List (Str × Addr)} {outer : List Env} {A₀ : Around} {base h₀ : Heap} {L : Addr} {m : Str → Option Value} {s : Shared} {Q E : Value → Shared → Prop} {j lc : Addr} {t2 tw : Tok} {k n1 n2 : Nat} {many : Nat} {vs : List Value} {ns : List Int} {rest : List (Addr × Obj)} (B : Below A₀ base outer h₀) (F : Fr h₀ L s.heap m) (X : (hd.heap_39 w.params).In h₀) (T : Top hd.view_39 (looseW hd.view_39 [Str.ofString "SIMPLE"]) mean mg mb h₀) (hcs : cs.kind = .function) (hdp : dp + 10 < recursionLimit) (hun : un + 100 < cLine)
   (N : News h₀ L s.heap ((j, listOf #[.ref lc, .int (k : Int) t2] n1) :: (lc, listOf vs.toArray n2) :: rest)) (hjr : ∀ p ∈ rest, p.1 ≠ j) (hjl : lc ≠ j) (hk : k ≤ 300) (hm : 2 ≤ many ∧ many ≤ 22) (hv : IntsAre vs ns) (hn : ∀ n ∈ ns, 0 ≤ n ∧ n ≤ 5040) (hvl : vs.length ≤ 60)
   (ret : ∀ v tv t3 h' tk', (0 ≤ v ∧ v < (many : Int)) → Fr h₀ L h' m → News h₀ L h' ((j, listOf #[.ref lc, .int ((k + 1 : Nat) : Int) t3] n1) :: (lc, listOf vs.toArray n2) :: rest) → Q (.int v tv) { s with heap := h', toks := tk' }) :
   wpAny (model Challenge.rw_qz0006_03.row.prog w) (ktrTop dp un gd cn cs L a ccd cl outer) (call (.ref 187) [.ref j, .int (many : Int) tw]) Q E s := by
  w_top off
  revert X; k_fill; intro X; refine wpAny_call ?_; k_dflt cell_enter
  have hk0 : (0 : Int) ≤ (k : Int) := Int.natCast_nonneg k
  have hnl : ns.length = vs.length := hv.length.symm
  k_steps
  all_goals (rename Fr _ _ _ _ => kF; rename News _ _ _ _ => kN)
  all_goals exact ret _ _ _ _ _ ⟨fmod_lo _ (by omega), fmod_hi _ (by omega)⟩ kF kN
theorem spoon_any {w : World} {mean : ExcName → Option Value} {mg mb : Str → Option Value} {dp un : Nat} {gd : Option (List Code)} {cn : Str} {cs : Scope} {a : Addr} {ccd : Value} {cl : List (Str × Addr)} {outer : List Env} {A₀ : Around} {base h₀ : Heap} {L : Addr} {m : Str → Option Value} {s : Shared} {Q E : Value → Shared → Prop} {j lc : Addr} {t2 tw : Tok} {k n1 n2 : Nat} {many : Nat} {vs : List Value} {ns : List Int} {news : List (Addr × Obj)} {g : Obj → List (Addr × Obj)} (B : Below A₀ base outer h₀) (F : Fr h₀ L s.heap m) (X : (hd.heap_39 w.params).In h₀) (T : Top hd.view_39 (looseW hd.view_39 [Str.ofString "SIMPLE"]) mean mg mb h₀) (hcs : cs.kind = .function) (hdp : dp + 10 < recursionLimit) (hun : un + 100 < cLine)
   (N : News h₀ L s.heap news) (U : UpdF j (listOf #[.ref lc, .int (k : Int) t2] n1) news g) (hlc : (lc, listOf vs.toArray n2) ∈ news) (hjl : lc ≠ j) (hk : k ≤ 300) (hm : 2 ≤ many ∧ many ≤ 22) (hv : IntsAre vs ns) (hn : ∀ n ∈ ns, 0 ≤ n ∧ n ≤ 5040) (hvl : vs.length ≤ 60)
   (ret : ∀ v tv t3 h' tk', (0 ≤ v ∧ v < (many : Int)) → Fr h₀ L h' m → News h₀ L h' (g (listOf #[.ref lc, .int ((k + 1 : Nat) : Int) t3] n1)) → Q (.int v tv) { s with heap := h', toks := tk' }) :
   wpAny (model Challenge.rw_qz0006_03.row.prog w) (ktrTop dp un gd cn cs L a ccd cl outer) (call (.ref 187) [.ref j, .int (many : Int) tw]) Q E s := by
  w_top off
  obtain ⟨pre, post, rfl, hg, a1, a2⟩ := U.split
  refine spoon_call (lc := lc) (t2 := t2) (n1 := n1) (n2 := n2) (rest := pre ++ post) B F X T hcs hdp hun (cb_drop N ?_) ?_ hjl hk hm hv hn hvl fun v tv t3 h' tk' p1 F' N' => ret v tv t3 h' tk' p1 F' (cb_drop N' ?_)
  · intro p hp
    rcases List.mem_cons.mp hp with rfl | hp
    · exact mid_mem
    · rcases List.mem_cons.mp hp with rfl | hp
      · exact hlc
      · rcases List.mem_append.mp hp with hp | hp
        · exact List.mem_append_left _ hp
        · exact List.mem_append_right _ (.tail _ hp)
  · intro p hp
    rcases List.mem_append.mp hp with hp | hp
    · exact a1 p hp
    · exact a2 p hp
  · intro p hp
    rw [hg] at hp
    rcases List.mem_append.mp hp with hp | hp
    · exact .tail _ (.tail _ (List.mem_append_left _ hp))
    · rcases List.mem_cons.mp hp with rfl | hp
      · exact .head _
      · exact .tail _ (.tail _ (List.mem_append_right _ hp))

end
section
local macro_rules | `(tactic| walk_at "my_pad0") => `(tactic| skip)
local macro_rules | `(tactic| walk_at "my_pad1") => `(tactic| skip)
local macro_rules | `(tactic| walk_at "my_pad2") => `(tactic| skip)
local macro_rules | `(tactic| walk_at "my_pad3") => `(tactic| skip)
local macro_rules | `(tactic| walk_at "my_pad4") => `(tactic| skip)
local macro_rules | `(tactic| walk_at "my_pad5") => `(tactic| skip)
local macro_rules | `(tactic| walk_at "my_pad6") => `(tactic| skip)
local macro_rules | `(tactic| walk_at "my_pad7") => `(tactic| skip)
local macro_rules | `(tactic| walk_at "my_pad8") => `(tactic| skip)
local macro_rules | `(tactic| walk_at "my_pad9") => `(tactic| skip)
local macro_rules | `(tactic| walk_at "my_pad10") => `(tactic| skip)
local macro_rules | `(tactic| walk_at "my_pad11") => `(tactic| skip)
local macro_rules | `(tactic| walk_at "my_pad12") => `(tactic| skip)
local macro_rules | `(tactic| walk_at "my_pad13") => `(tactic| skip)
local macro_rules | `(tactic| walk_at "my_pad14") => `(tactic| skip)
local macro_rules | `(tactic| walk_at "my_pad15") => `(tactic| skip)
local macro_rules | `(tactic| walk_at "my_pad16") => `(tactic| skip)
local macro_rules | `(tactic| walk_at "my_pad17") => `(tactic| skip)
local macro_rules | `(tactic| walk_at "my_pad18") => `(tactic| skip)
local macro_rules | `(tactic| walk_at "my_pad19") => `(tactic| skip)
local macro_rules | `(tactic| walk_at "my_pad20") => `(tactic| skip)
local macro_rules | `(tactic| walk_at "my_pad21") => `(tactic| skip)
local macro_rules | `(tactic| walk_at "my_pad22") => `(tactic| skip)
local macro_rules | `(tactic| walk_at "my_pad23") => `(tactic| skip)
local macro_rules | `(tactic| walk_at "my_pad24") => `(tactic| skip)
local macro_rules | `(tactic| walk_at "call ref") => `(tactic| ((with_reducible show wpAny _ _ (call (Value.ref 76) [Value.str _ _, Value.int _ _]) _ _ _); (refine' fault_call ?k1 ?k2 ?k3 ?k4 ?k5 ?k6 ?k7 ?k8 ?_; (case k1 => k_asm); (case k2 => k_asm); (case k3 => k_asm); (case k4 => k_asm); (case k5 => k_asm); (case k6 => walk_at "my_kind"); (case k7 => walk_at "my_room"); (case k8 => walk_at "my_room")); intro e' T' dx' k3' k4' h' tk' F' N' l1; (try k_sweep)))
theorem row_any {w : World} {mean : ExcName → Option Value} {mg mb : Str → Option Value} {dp un : Nat} {gd : Option (List Code)} {cn : Str} {cs : Scope} {a : Addr} {ccd : Value} {cl : List (Str × Addr)} {outer : List Env} {A₀ : Around} {base h₀ : Heap} {L : Addr} {m : Str → Option Value} {s : Shared} {Q E : Value → Shared → Prop} {kd : Str} {ty tb : Tok} {y : Str} {news : List (Addr × Obj)} (B : Below A₀ base outer h₀) (F : Fr h₀ L s.heap m) (X : (hd.heap_39 w.params).In h₀) (T : Top hd.view_39 (looseW hd.view_39 [Str.ofString "SIMPLE"]) mean mg mb h₀) (hcs : cs.kind = .function) (hdp : dp + 10 < recursionLimit) (hun : un + 100 < cLine)
   (N : News h₀ L s.heap news) (hy : ∀ c ∈ sg y, c ∈ zOf kd) (hl : y.length ≤ 2000)
   (ret : ∀ z tz h' tk', RowFor kd y z → Fr h₀ L h' m → News h₀ L h' news → Q (.str z tz) { s with heap := h', toks := tk' }) :
   wpAny (model Challenge.rw_qz0006_03.row.prog w) (ktrTop dp un gd cn cs L a ccd cl outer) (call (.ref 192) [.str kd tb, .str y ty]) Q E s := by
  w_top off
  cases hb : (kd == Str.ofString "b") with
  | true =>
    have e := eq_of_beq hb
    subst e
    exact row_b (tk := 0) B F X T hcs hdp hun N fun ty h' tk' F' N' => ret _ _ _ _ (rowFor_b hb hy) F' N'
  | false =>
    exact row_x (tk := 0) B F X T hcs hdp hun N hb (fun c hc => z_hex c (hy c hc)) hl fun z tz h' tk' hz F' N' => ret _ _ _ _ (rowFor_x hb hy hz) F' N'

end
section
local macro_rules | `(tactic| walk_at "my_pad0") => `(tactic| skip)
local macro_rules | `(tactic| walk_at "my_pad1") => `(tactic| skip)
local macro_rules | `(tactic| walk_at "my_pad2") => `(tactic| skip)
local macro_rules | `(tactic| walk_at "my_pad3") => `(tactic| skip)
local macro_rules | `(tactic| walk_at "my_pad4") => `(tactic| skip)
local macro_rules | `(tactic| walk_at "my_pad5") => `(tactic| skip)
local macro_rules | `(tactic| walk_at "my_pad6") => `(tactic| skip)
local macro_rules | `(tactic| walk_at "my_pad7") => `(tactic| skip)
local macro_rules | `(tactic| walk_at "my_pad8") => `(tactic| skip)
local macro_rules | `(tactic| walk_at "my_pad9") => `(tactic| skip)
local macro_rules | `(tactic| walk_at "my_pad10") => `(tactic| skip)
local macro_rules | `(tactic| walk_at "my_pad11") => `(tactic| skip)
local macro_rules | `(tactic| walk_at "my_pad12") => `(tactic| skip)
local macro_rules | `(tactic| walk_at "my_pad13") => `(tactic| skip)
local macro_rules | `(tactic| walk_at "my_pad14") => `(tactic| skip)
local macro_rules | `(tactic| walk_at "my_pad15") => `(tactic| skip)
local macro_rules | `(tactic| walk_at "my_pad16") => `(tactic| skip)
local macro_rules | `(tactic| walk_at "my_pad17") => `(tactic| skip)
local macro_rules | `(tactic| walk_at "my_pad18") => `(tactic| skip)
local macro_rules | `(tactic| walk_at "my_pad19") => `(tactic| skip)
local macro_rules | `(tactic| walk_at "my_pad20") => `(tactic| skip)
local macro_rules | `(tactic| walk_at "my_pad21") => `(tactic| skip)
local macro_rules | `(tactic| walk_at "my_pad22") => `(tactic| skip)
local macro_rules | `(tactic| walk_at "my_pad23") => `(tactic| skip)
local macro_rules | `(tactic| walk_at "my_pad24") => `(tactic| skip)
local macro_rules | `(tactic| walk_at "my_pad25") => `(tactic| skip)
local macro_rules | `(tactic| walk_at "my_pad26") => `(tactic| skip)
def strsOf : List Value → Option (List Str)
  | [] => some []
  | .str y _ :: r => (strsOf r).map (y :: ·)
  | _ => none
theorem strsOf_are : ∀ {vs : List Value} {ys : List Str}, strsOf vs = some ys → StrsAre vs ys
  | [], ys, h => by cases h; exact .nil
  | v :: r, ys, h => by
    cases v with
    | str y t =>
      unfold strsOf at h
      cases hr : strsOf r with
      | none => rw [hr] at h; cases h
      | some zs => rw [hr] at h; cases h; exact .cons y t (strsOf_are hr)
    | _ => cases h
def tupIn (K : Frag) (a : Addr) : Option (List Str) := match K.lookup a with
  | some ⟨.type c, _, .seq its _, _⟩ => if c = "tuple" then strsOf its.toList else none
  | _ => none
theorem tupIn_at {K : Frag} {h : Heap} {a : Addr} {ys : List Str} (X : K.In h) (q : tupIn K a = some ys) : ∃ its, IsTup h a its ∧ StrsAre its.toList ys := by
  unfold tupIn at q
  split at q
  · rename_i c d its n sl ho
    split at q
    · rename_i hc
      subst hc
      exact ⟨its, ⟨_, X _ _ ho, rfl, n, rfl⟩, strsOf_are q⟩
    · cases q
  · cases q
theorem in_K_strs {prog : Program} {w : World} {A : Around} {E : Value → Shared → Prop} {s : Shared} {K : Frag} {a : Addr} {ys : List Str} {x : Str} {u : Tok} {Q : Value → Shared → Prop} {h₀ : Heap} {L : Addr} {m : Str → Option Value}
    (X : K.In h₀) (F : Fr h₀ L s.heap m) (q : tupIn K a = some ys) (h : Q (.bool (ys.any (· == x))) s) : wpAny (model prog w) A (compareOp .In (.str x u) (.ref a)) Q E s := by
  obtain ⟨its, h1, h2⟩ := tupIn_at (X.keeps F.keep) q
  exact in_tuple_strs h1 h2 h
theorem any_is (ys : List Str) (x : Str) : ys.any (· == x) = ys.contains x := by
  induction ys with
  | nil => rfl
  | cons a r ih => rw [List.any_cons, List.contains_cons, ih, Bool.beq_comm]

end
section
local macro_rules | `(tactic| walk_at "my_pad0") => `(tactic| skip)
local macro_rules | `(tactic| walk_at "my_pad1") => `(tactic| skip)
local macro_rules | `(tactic| walk_at "my_pad2") => `(tactic| skip)
local macro_rules | `(tactic| walk_at "my_pad3") => `(tactic| skip)
local macro_rules | `(tactic| walk_at "my_pad4") => `(tactic| skip)
local macro_rules | `(tactic| walk_at "my_pad5") => `(tactic| skip)
local macro_rules | `(tactic| walk_at "my_pad6") => `(tactic| skip)
local macro_rules | `(tactic| walk_at "my_pad7") => `(tactic| skip)
local macro_rules | `(tactic| walk_at "my_pad8") => `(tactic| skip)
local macro_rules | `(tactic| walk_at "my_pad9") => `(tactic| skip)
local macro_rules | `(tactic| walk_at "my_pad10") => `(tactic| skip)
local macro_rules | `(tactic| walk_at "my_pad11") => `(tactic| skip)
local macro_rules | `(tactic| walk_at "my_pad12") => `(tactic| skip)
local macro_rules | `(tactic| walk_at "my_pad13") => `(tactic| skip)
local macro_rules | `(tactic| walk_at "my_pad14") => `(tactic| skip)
local macro_rules | `(tactic| walk_at "my_pad15") => `(tactic| skip)
local macro_rules | `(tactic| walk_at "my_pad16") => `(tactic| skip)
local macro_rules | `(tactic| walk_at "my_pad17") => `(tactic| skip)
local macro_rules | `(tactic| walk_at "my_pad18") => `(tactic| skip)
local macro_rules | `(tactic| walk_at "my_pad19") => `(tactic| skip)
local macro_rules | `(tactic| walk_at "my_pad20") => `(tactic| skip)
local macro_rules | `(tactic| walk_at "my_pad21") => `(tactic| skip)
local macro_rules | `(tactic| walk_at "my_pad22") => `(tactic| skip)
local macro_rules | `(tactic| walk_at "my_pad23") => `(tactic| skip)
local macro_rules | `(tactic| walk_at "my_pad24") => `(tactic| skip)
local macro_rules | `(tactic| walk_at "my_pad25") => `(tactic| skip)
local macro_rules | `(tactic| walk_at "my_pad26") => `(tactic| skip)
local macro_rules | `(tactic| walk_at "my_pad27") => `(tactic| skip)
theorem getD_mem {α : Type} {ws : List α} {j : Nat} {d : α} (h : j < ws.length) : ws.getD j d ∈ ws := by
  rw [List.getD_eq_getElem?_getD, List.getElem?_eq_getElem h]
  exact List.getElem_mem h
def intsOf : List Value → Option (List Int)
  | [] => some []
  | .int y _ :: r => (intsOf r).map (y :: ·)
  | _ => none
theorem intsOf_are : ∀ {vs : List Value} {ys : List Int}, intsOf vs = some ys → IntsAre vs ys
  | [], ys, h => by cases h; exact .nil
  | v :: r, ys, h => by
    cases v with
    | int y t =>
      unfold intsOf at h
      cases hr : intsOf r with
      | none => rw [hr] at h; cases h
      | some zs => rw [hr] at h; cases h; exact .cons y t (intsOf_are hr)
    | _ => cases h
def tupInts (K : Frag) (a : Addr) : Option (List Int) := match K.lookup a with
  | some ⟨.type c, _, .seq its _, _⟩ => if c = "tuple" then intsOf its.toList else none
  | _ => none
theorem tupInts_at {K : Frag} {h : Heap} {a : Addr} {ys : List Int} (X : K.In h) (q : tupInts K a = some ys) : ∃ its, IsTup h a its ∧ IntsAre its.toList ys := by
  unfold tupInts at q
  split at q
  · rename_i c d its n sl ho
    split at q
    · rename_i hc
      subst hc
      exact ⟨its, ⟨_, X _ _ ho, rfl, n, rfl⟩, intsOf_are q⟩
    · cases q
  · cases q
section
variable {prog : Program} {w : World} {A : Around} {E : Value → Shared → Prop} {s : Shared} {K : Frag} {a : Addr} {i : Int} {u : Tok} {Q : Value → Shared → Prop} {h₀ : Heap} {L : Addr} {m : Str → Option Value} {value slice : Expr}
theorem menu_strs {ys : List Str} {n : Nat} (X : K.In h₀) (F : Fr h₀ L s.heap m) (q : tupIn K a = some ys) (hn : ys.length = n) (hb : 0 ≤ i ∧ i < (n : Int)) (hf : n ≤ 100) (h : ∀ y t, y ∈ ys → Q (.str y t) s)
    (hs : subscripted slice false (.ref a) (.int i u) = operate [.ref a, .int i u] (getItem (.ref a) (.int i u)) := by with_unfolding_all rfl) :
    wpAny (model prog w) A (subscriptTail value slice (.ref a) (.int i u)) Q E s := by
  obtain ⟨its, h1, h2⟩ := tupIn_at (X.keeps F.keep) q
  exact KTb.item_tup (vs := its.toList) h1 h2 hb.1 (by omega) (by omega) (fun t' hlt => h _ t' (getD_mem hlt)) hs
theorem menu_ints {ys : List Int} {n : Nat} (X : K.In h₀) (F : Fr h₀ L s.heap m) (q : tupInts K a = some ys) (hn : ys.length = n) (hb : 0 ≤ i ∧ i < (n : Int)) (hf : n ≤ 100) (h : ∀ y t, y ∈ ys → Q (.int y t) s)
    (hs : subscripted slice false (.ref a) (.int i u) = operate [.ref a, .int i u] (getItem (.ref a) (.int i u)) := by with_unfolding_all rfl) :
    wpAny (model prog w) A (subscriptTail value slice (.ref a) (.int i u)) Q E s := by
  obtain ⟨its, h1, h2⟩ := tupInts_at (X.keeps F.keep) q
  exact item_anyT (vs := its.toList) h1 h2 hb.1 (by omega) (by omega) (fun t' => h _ t' (getD_mem (by omega))) hs
end
def sizesL : List Int := [2, 0, 1, 3, 5, 40, 13, 4]
theorem sizes_ok : ∀ y ∈ sizesL, 0 ≤ y ∧ y ≤ 40 := by decide
section
variable {prog : Program} {w : World} {A : Around} {E : Value → Shared → Prop} {s : Shared} {K : Frag} {a : Addr} {i : Int} {u ty : Tok} {Q : Value → Shared → Prop} {h₀ : Heap} {L : Addr} {m : Str → Option Value} {value slice : Expr} {y : Str}
theorem menu_sizes (X : K.In h₀) (F : Fr h₀ L s.heap m) (q : tupInts K a = some sizesL) (hb : 0 ≤ i ∧ i < ((8 : Nat) : Int)) (h : ∀ (n : Nat) t, n ≤ 40 → Q (.int (n : Int) t) s)
    (hs : subscripted slice false (.ref a) (.int i u) = operate [.ref a, .int i u] (getItem (.ref a) (.int i u)) := by with_unfolding_all rfl) :
    wpAny (model prog w) A (subscriptTail value slice (.ref a) (.int i u)) Q E s :=
  menu_ints (ys := sizesL) (n := 8) X F q rfl hb (by decide) (fun y t hy => by
    have h1 := sizes_ok y hy
    obtain ⟨n, rfl⟩ : ∃ n : Nat, y = (n : Int) := ⟨y.toNat, by omega⟩
    exact h n t (by omega)) hs
theorem pick_sign {n : Nat} (hb : 0 ≤ i ∧ i < (n : Int)) (hl : y.length = n) (hf : n ≤ 100) (h : ∀ x t k, x.length = 1 → (∀ c ∈ sg x, c ∈ sg y) → Q (.str x t) { s with toks := k })
    (hs : subscripted slice false (.str y ty) (.int i u) = operate [.str y ty, .int i u] (getItem (.str y ty) (.int i u)) := by with_unfolding_all rfl)
    (ht : ∀ r, letTemporaryGo value (.str y ty) r = pure () := by intro _; with_unfolding_all rfl) :
    wpAny (model prog w) A (subscriptTail value slice (.str y ty) (.int i u)) Q E s :=
  item_str (fitsSsize_of (N := 9223372036854775808) (by omega) (by omega) (Int.le_refl _)) (by omega) (by omega) (fun _ => by
    refine h _ _ _ (by rw [item_sg hb.1 (by omega)]; rfl) fun c hc => ?_
    rw [item_sg hb.1 (by omega)] at hc
    obtain rfl : c = _ := List.mem_singleton.mp hc
    exact getD_mem (by rw [sg_len]; omega)) hs ht
end
theorem z_one {kd x : Str} (h : (kd == Str.ofString "b") = true) (hx : ∀ c ∈ sg x, c ∈ sg (Str.ofString "01")) : ∀ c ∈ sg x, c ∈ zOf kd := fun c hc => by
  rw [z_b h, ← show sg (Str.ofString "01") = [48, 49] from by decide +kernel]
  exact hx c hc
theorem six_hex : ∀ c ∈ sg (Str.ofString "0123456789ABCDEFabcdef"), c ∈ sg hexS := by decide +kernel
theorem z_six {kd x : Str} (h : (kd == Str.ofString "b") = false) (hx : ∀ c ∈ sg x, c ∈ sg (Str.ofString "0123456789ABCDEFabcdef")) : ∀ c ∈ sg x, c ∈ zOf kd := fun c hc => by
  rw [z_x h]
  exact six_hex c (hx c hc)
theorem z_more {kd x y : Str} (hx : ∀ c ∈ sg x, c ∈ zOf kd) (hy : ∀ c ∈ sg y, c ∈ zOf kd) : ∀ c ∈ sg (x ++ y), c ∈ zOf kd := fun c hc => by
  rw [sg_app] at hc
  rcases List.mem_append.mp hc with hc | hc
  · exact hx c hc
  · exact hy c hc

end
section
local macro_rules | `(tactic| walk_at "my_pad0") => `(tactic| skip)
local macro_rules | `(tactic| walk_at "my_pad1") => `(tactic| skip)
local macro_rules | `(tactic| walk_at "my_pad2") => `(tactic| skip)
local macro_rules | `(tactic| walk_at "my_pad3") => `(tactic| skip)
local macro_rules | `(tactic| walk_at "my_pad4") => `(tactic| skip)
local macro_rules | `(tactic| walk_at "my_pad5") => `(tactic| skip)
local macro_rules | `(tactic| walk_at "my_pad6") => `(tactic| skip)
local macro_rules | `(tactic| walk_at "my_pad7") => `(tactic| skip)
local macro_rules | `(tactic| walk_at "my_pad8") => `(tactic| skip)
local macro_rules | `(tactic| walk_at "my_pad9") => `(tactic| skip)
local macro_rules | `(tactic| walk_at "my_pad10") => `(tactic| skip)
local macro_rules | `(tactic| walk_at "my_pad11") => `(tactic| skip)
local macro_rules | `(tactic| walk_at "my_pad12") => `(tactic| skip)
local macro_rules | `(tactic| walk_at "my_pad13") => `(tactic| skip)
local macro_rules | `(tactic| walk_at "my_pad14") => `(tactic| skip)
local macro_rules | `(tactic| walk_at "my_pad15") => `(tactic| skip)
local macro_rules | `(tactic| walk_at "my_pad16") => `(tactic| skip)
local macro_rules | `(tactic| walk_at "my_pad17") => `(tactic| skip)
local macro_rules | `(tactic| walk_at "my_pad18") => `(tactic| skip)
local macro_rules | `(tactic| walk_at "my_pad19") => `(tactic| skip)
local macro_rules | `(tactic| walk_at "call ref") => `(tactic| ((with_reducible show wpAny _ _ (call (Value.ref 76) [Value.str _ _, Value.int _ _]) _ _ _); (refine' fault_call ?k1 ?k2 ?k3 ?k4 ?k5 ?k6 ?k7 ?k8 ?_; (case k1 => k_asm); (case k2 => k_asm); (case k3 => k_asm); (case k4 => k_asm); (case k5 => k_asm); (case k6 => walk_at "my_kind"); (case k7 => walk_at "my_room"); (case k8 => walk_at "my_room")); intro e' T' dx' k3' k4' h' tk' F' N' l1; (try k_sweep)))
local macro_rules | `(tactic| walk_at "my_room2") => `(tactic| first | decide | decide +kernel | k_room | (simp only [depth_in1, units_in1] at *; first | decide | omega))
local macro_rules | `(tactic| walk_at "my_room") => `(tactic| walk_at "my_room2")
local macro_rules | `(tactic| walk_at "call ref") => `(tactic| ((first | with_reducible show wpAny _ _ (call (Value.ref 187) _) _ _ _ | with_reducible show wpAny _ _ (call (Value.ref 187, _).fst _) _ _ _ | with_reducible show wpAny _ _ (call (Value.ref 192) _) _ _ _ | with_reducible show wpAny _ _ (call (Value.ref 192, _).fst _) _ _ _ | with_reducible show wpAny _ _ (call (Value.ref 197) _) _ _ _ | with_reducible show wpAny _ _ (call (Value.ref 197, _).fst _) _ _ _ | with_reducible show wpAny _ _ (call (Value.ref 204) _) _ _ _ | with_reducible show wpAny _ _ (call (Value.ref 204, _).fst _) _ _ _ | with_reducible show wpAny _ _ (call (Value.ref 211) _) _ _ _ | with_reducible show wpAny _ _ (call (Value.ref 211, _).fst _) _ _ _); refine stop_of ?_))
local macro_rules | `(tactic| walk_at "exec For Name Call") => `(tactic| refine stop_of ?_)
local macro_rules | `(tactic| walk_at "exec For Name Call cons") => `(tactic| refine stop_of ?_)
local macro_rules | `(tactic| walk_at "exec For Name Call cons nil") => `(tactic| refine stop_of ?_)
local macro_rules | `(tactic| walk_at "InvEndN") => `(tactic| refine stop_of ?_)
def HaltIf : Prop := True
local macro_rules | `(tactic| walk_at "pyIter ref") => `(tactic| ((with_reducible show wpAny _ _ (pyIter (Value.ref _)) (fun it s₂ => LoopAtV _ _ _ _ _ _ _ _ _ it s₂) _ _); refine stop_of ?_))
theorem cells_ok (l : List Int) : ∀ n ∈ l.map (fun k' => k'.fmod 5040), 0 ≤ n ∧ n ≤ 5040 := fun n hn => by
  obtain ⟨k, _, rfl⟩ := List.mem_map.mp hn
  exact ⟨fmod_lo k (by decide), Int.le_of_lt (fmod_hi k (by decide))⟩
local macro_rules | `(tactic| walk_at "my_sp3") => `(tactic| ((first | with_reducible show wpAny _ _ (call (Value.ref 187) _) _ _ _ | with_reducible show wpAny _ _ (call (Value.ref 187, _).fst _) _ _ _); k_dflt (refine' spoon_any ?k1 ?k2 ?k3 ?k4 ?k5 ?k6 ?k7 ?k8 ?k9 ?k10 ?k11 ?k12 ?k13 ?k14 ?k15 ?k16 ?rt; (case k1 => k_asm); (case k2 => k_asm); (case k3 => k_asm); (case k4 => k_asm); (case k5 => exact rfl); (case k6 => walk_at "my_room2"); (case k7 => walk_at "my_room2"); (case k8 => k_asm); (case k9 => k_updF); (case k10 => k_mem); (case k11 => assumption); (case k12 => omega); (case k13 => decide); (case k14 => assumption); (case k15 => exact cells_ok _); (case k16 => assumption); (intro v' tv' t3' h' tk' q1' F' N'; (try dsimp only at N'); (try k_sweep)))))
local macro_rules | `(tactic| walk_at "call ref") => `(tactic| first | walk_at "my_sp3")
local macro_rules | `(tactic| walk_at "subscriptTail Name Call ref") => `(tactic| ((with_reducible show wpAny _ _ (subscriptTail _ _ (Value.ref 177) (Value.int _ _)) _ _ _); k_dflt (refine' menu_strs (ys := aheadL) (n := 5) ?k1 ?k2 ?k3 rfl ?k4 (by decide) ?_; (case k1 => k_asm); (case k2 => k_asm); (case k3 => kernel_rfl); (case k4 => assumption); (intro y' t' hAh))))
local macro_rules | `(tactic| walk_at "subscriptTail Name Call ref") => `(tactic| ((with_reducible show wpAny _ _ (subscriptTail _ _ (Value.ref 178) (Value.int _ _)) _ _ _); k_dflt (refine' menu_strs (ys := kindsL) (n := 8) ?k1 ?k2 ?k3 rfl ?k4 (by decide) ?_; (case k1 => k_asm); (case k2 => k_asm); (case k3 => kernel_rfl); (case k4 => assumption); (intro y' t' hKd))))
local macro_rules | `(tactic| walk_at "subscriptTail Name Call ref") => `(tactic| ((with_reducible show wpAny _ _ (subscriptTail _ _ (Value.ref 180) (Value.int _ _)) _ _ _); k_dflt (refine' menu_strs (ys := tailsL) (n := 12) ?k1 ?k2 ?k3 rfl ?k4 (by decide) ?_; (case k1 => k_asm); (case k2 => k_asm); (case k3 => kernel_rfl); (case k4 => assumption); (intro y' t' hTl))))
local macro_rules | `(tactic| walk_at "subscriptTail Name Call ref") => `(tactic| ((with_reducible show wpAny _ _ (subscriptTail _ _ (Value.ref 179) (Value.int _ _)) _ _ _); k_dflt (refine' menu_sizes ?k1 ?k2 ?k3 ?k4 ?_; (case k1 => k_asm); (case k2 => k_asm); (case k3 => kernel_rfl); (case k4 => assumption); (intro n' t' hSz))))
local macro_rules | `(tactic| walk_at "subscriptTail") => `(tactic| ((with_reducible show wpAny _ _ (subscriptTail _ _ (Value.str _ _) (Value.int _ _)) _ _ _); k_dflt (refine' pick_sign ?k1 ?k2 ?k3 ?_; (case k1 => assumption); (case k2 => decide +kernel); (case k3 => decide); (intro x' t' k' hxl hxm))))
local macro_rules | `(tactic| walk_at "subscriptTail Name") => `(tactic| ((with_reducible show wpAny _ _ (subscriptTail _ _ (Value.str _ _) (Value.int _ _)) _ _ _); k_dflt (refine' pick_sign ?k1 ?k2 ?k3 ?_; (case k1 => assumption); (case k2 => decide +kernel); (case k3 => decide); (intro x' t' k' hxl hxm))))
local macro_rules | `(tactic| walk_at "subscriptTail Name Call") => `(tactic| ((with_reducible show wpAny _ _ (subscriptTail _ _ (Value.str _ _) (Value.int _ _)) _ _ _); k_dflt (refine' pick_sign ?k1 ?k2 ?k3 ?_; (case k1 => assumption); (case k2 => decide +kernel); (case k3 => decide); (intro x' t' k' hxl hxm))))
local macro_rules | `(tactic| walk_at "subscriptTail Name Call str") => `(tactic| ((with_reducible show wpAny _ _ (subscriptTail _ _ (Value.str _ _) (Value.int _ _)) _ _ _); k_dflt (refine' pick_sign ?k1 ?k2 ?k3 ?_; (case k1 => assumption); (case k2 => decide +kernel); (case k3 => decide); (intro x' t' k' hxl hxm))))
local macro_rules | `(tactic| walk_at "subscriptTail Name Call str int") => `(tactic| ((with_reducible show wpAny _ _ (subscriptTail _ _ (Value.str _ _) (Value.int _ _)) _ _ _); k_dflt (refine' pick_sign ?k1 ?k2 ?k3 ?_; (case k1 => assumption); (case k2 => decide +kernel); (case k3 => decide); (intro x' t' k' hxl hxm))))
local macro_rules | `(tactic| walk_at "subscriptTail Constant") => `(tactic| ((with_reducible show wpAny _ _ (subscriptTail _ _ (Value.str _ _) (Value.int _ _)) _ _ _); k_dflt (refine' pick_sign ?k1 ?k2 ?k3 ?_; (case k1 => assumption); (case k2 => decide +kernel); (case k3 => decide); (intro x' t' k' hxl hxm))))
local macro_rules | `(tactic| walk_at "subscriptTail Constant Call") => `(tactic| ((with_reducible show wpAny _ _ (subscriptTail _ _ (Value.str _ _) (Value.int _ _)) _ _ _); k_dflt (refine' pick_sign ?k1 ?k2 ?k3 ?_; (case k1 => assumption); (case k2 => decide +kernel); (case k3 => decide); (intro x' t' k' hxl hxm))))
local macro_rules | `(tactic| walk_at "subscriptTail Constant Call str") => `(tactic| ((with_reducible show wpAny _ _ (subscriptTail _ _ (Value.str _ _) (Value.int _ _)) _ _ _); k_dflt (refine' pick_sign ?k1 ?k2 ?k3 ?_; (case k1 => assumption); (case k2 => decide +kernel); (case k3 => decide); (intro x' t' k' hxl hxm))))
local macro_rules | `(tactic| walk_at "subscriptTail Constant Call str int") => `(tactic| ((with_reducible show wpAny _ _ (subscriptTail _ _ (Value.str _ _) (Value.int _ _)) _ _ _); k_dflt (refine' pick_sign ?k1 ?k2 ?k3 ?_; (case k1 => assumption); (case k2 => decide +kernel); (case k3 => decide); (intro x' t' k' hxl hxm))))
theorem subL {a b : Addr × Obj} {own own2 : List (Addr × Obj)} : ∀ p ∈ a :: b :: own, p ∈ a :: b :: (own ++ own2) := fun p hp => by
  rcases List.mem_cons.mp hp with rfl | hp
  · exact .head _
  · rcases List.mem_cons.mp hp with rfl | hp
    · exact .tail _ (.head _)
    · exact .tail _ (.tail _ (List.mem_append_left _ hp))
theorem join_val {prog : Program} {w : World} {A : Around} {E Q : Value → Shared → Prop} {s : Shared} {h₀ : Heap} {L : Addr} {m : Str → Option Value} {news : List (Addr × Obj)} {x : Sem Value} (P : Value → Prop) (F : Fr h₀ L s.heap m) (N : News h₀ L s.heap news)
    (h1 : wpAny (model prog w) A x (PEnd h₀ L m s news P) E s)
    (h2 : ∀ v h' tk', P v → Fr h₀ L h' m → News h₀ L h' news → Q v { s with heap := h', toks := tk' }) : wpAny (model prog w) A x Q E s :=
  wpAny_mono h1 (fun v s' hp => by
    obtain ⟨h', tk', rfl, F', N', hP⟩ := hp
    exact h2 v h' tk' hP F' N') fun _ _ h => h
local macro_rules | `(tactic| walk_at "eval IfExp") => `(tactic| (with_reducible rename HaltIf => hz9); refine stop_of ?_)
local macro_rules | `(tactic| walk_at "compareOp NotEq ref ref") => `(tactic| refine stop_of ?_)
local macro_rules | `(tactic| walk_at "PEnd") => `(tactic| refine stop_of ?_)
local macro_rules | `(tactic| walk_at "my_read0") => `(tactic| (refine' read0 ?k1 ?k2 ?k3 ?k4 ?k5 ?k6 ?k7 ?k8 ?k9 ?ka ?kb ?kc ?rt ?bad; (case k2 => k_asm); (case k1 => k_asm); (case k3 => k_asm); (case k4 => k_asm); (case k5 => exact rfl); (case k6 => assumption); (case k7 => assumption); (case k8 => walk_at "my_room2"); (case k9 => walk_at "my_room2"); (case ka => k_asm); (case kb => omega); (case kc => omega)))
theorem law_try : PySem.Challenge.rw_qz0006_03.Holds := hd (by
  w_top off
  k_go0
  (all_goals try k_fold)
  k_steps
  unfold Stop
  rename IntsAre _ (List.map _ _) => hI1
  rename List.length _ = List.length (List.map _ _) => hL8
  have hl1 := hL8
  replace hl1 : _ ≤ 60 := Nat.le_trans (Nat.le_of_eq hl1) (by rw [List.length_map, List.length_take]; omega)
  rename _ ∧ _ => l9
  rename Fr _ _ _ _ => F1
  refine' For_invVF F1 ?f1 ?f2 ?_
  case f1 => exact rfl
  case f2 => exact rfl
  k_steps
  unfold Stop
  rename IsRange _ _ _ _ _ _ _ _ => rg
  rename News _ _ _ _ => N2
  rename Fr _ _ _ _ => F2
  rename_i dA z14 z13 z12 lA z10 z9 z8 z7 z6 z5 z4 z3 z2 z1
  have hdl : dA ≠ lA := Nat.ne_of_lt l9.1
  refine' kst_range (σ := Nat × Tok) (n := 2) (fun c => [(lA, listOf #[.ref dA, .int (c.1 : Int) c.2] 0), (dA, listOf ys.toArray ys.length)]) (fun _ => []) (fun _ => True) ["ahead", "kind", "figures", "place", "tail", "row", "text", "due"] (fun pre c => c.1 ≤ 50 * pre.length) (0, _) rfl rg (by decide) (by decide) F2 (cb_drop N2 ?n0) trivial (List.forall_mem_nil _) (Nat.zero_le _) ?turn ?done
  case n0 => walk_at "my_sub"
  case turn =>
    intro c pre k tt u h tk own hk hlt hoff _ hP F3 N3
    obtain ⟨kj, tj⟩ := c
    dsimp only at *
    have hkj : kj ≤ 50 := by omega
    k_steps
    unfold Stop
    rename News _ _ _ _ => N4
    rename Fr _ _ _ _ => F4
    rename _ ∈ aheadL => hAh
    rename _ ∈ kindsL => hKd
    rename_i ah ta va tva t3a h5 tka qa kd tkd D9 h4 l9b h3 h2 h1 h0
    refine' For_invVF F4 ?f1 ?f2 ?_
    case f1 => exact rfl
    case f2 => exact rfl
    k_steps
    unfold Stop
    rename IsRange _ _ _ _ _ _ _ _ => rg2
    rename News _ _ _ _ => N5
    rename Fr _ _ _ _ => F5
    rename _ ≤ 40 => hSz
    rename_i nf tnf e9 hb9 h9 tk9 t91 u91 v91 a9
    refine' kst_range (σ := Str × Tok × Nat × Tok) (n := nf) (fun c => (lA, listOf #[.ref dA, .int (c.2.2.1 : Int) c.2.2.2] 0) :: (dA, listOf ys.toArray ys.length) :: own) (fun c => [("figures", .str c.1 c.2.1)]) (fun _ => True) [] (fun pre c => c.1.length = pre.length ∧ (∀ x ∈ sg c.1, x ∈ zOf kd) ∧ c.2.2.1 = kj + 3 + pre.length) (_, _, kj + 1 + 1 + 1, _) rfl rg2 (small_one (by omega) (by omega) (by omega) (by omega)) (by rw [rangeSize_nat, Int.sub_zero, Int.toNat_natCast]) F5 (cb_drop N5 ?n1) trivial ?k1 ?p1 ?turn2 ?done2
    case n1 => walk_at "my_sub"
    case k1 => kst_all
    case p1 => exact ⟨(by show (Str.ofString "").length = 0; decide +kernel), (by rw [show sg (Str.ofString "") = [] from by decide +kernel]; exact fun _ h => nomatch h), rfl⟩
    case turn2 =>
      intro c pre2 k2 t2 u2 h20 tk20 own2 hk2 hlt2 hoff2 _ hP2 F6 N6
      obtain ⟨fg, tfg, kk, tkk⟩ := c
      dsimp only at *
      obtain ⟨hfl, hfz, hkk⟩ := hP2
      have hkk2 : kk ≤ 100 := by omega
      have hfl2 : fg.length ≤ 40 := by omega
      have hja2 : ∀ p ∈ own ++ own2, p.1 ≠ lA := fun p hp => by
        rcases List.mem_append.mp hp with hp | hp
        · exact hoff p hp _ (.head _)
        · exact hoff2 p hp _ (.head _)
      simp only [List.cons_append] at N6
      k_steps
      all_goals unfold Stop
      all_goals (rename News _ _ _ _ => N7; rename Fr _ _ _ _ => F7)
      · rename (kd == _) = _ => hkb
        rename Str.length _ = 1 => hxl
        rename ∀ (c : Nat), c ∈ sg _ → c ∈ sg _ => hxm
        refine' kst_end (fg ++ _, _, kk + 1, _) F7 N7 ?e1 ?e2 rfl trivial ?e3 ?e4 ⟨?e5, z_more hfz (z_one hkb hxm), ?e6⟩
        case e1 => exact subL
        case e2 => exact fun p hp => .tail _ (.tail _ (List.mem_append_right _ hp))
        case e3 => kst_all
        case e4 => walk_at "my_same3"
        case e5 => dsimp only; rw [Str.length_append, List.length_append, List.length_singleton, hxl, hfl]
        case e6 => dsimp only; rw [List.length_append, List.length_singleton, hkk]; omega
      · rename (kd == _) = _ => hkb
        rename Str.length _ = 1 => hxl
        rename ∀ (c : Nat), c ∈ sg _ → c ∈ sg _ => hxm
        refine' kst_end (fg ++ _, _, kk + 1, _) F7 N7 ?e1 ?e2 rfl trivial ?e3 ?e4 ⟨?e5, z_more hfz (z_six hkb hxm), ?e6⟩
        case e1 => exact subL
        case e2 => exact fun p hp => .tail _ (.tail _ (List.mem_append_right _ hp))
        case e3 => kst_all
        case e4 => walk_at "my_same3"
        case e5 => dsimp only; rw [Str.length_append, List.length_append, List.length_singleton, hxl, hfl]
        case e6 => dsimp only; rw [List.length_append, List.length_singleton, hkk]; omega
    case done2 =>
      intro c u2 h20 tk20 _ hP2 F6 N6
      obtain ⟨fg, tfg, kk, tkk⟩ := c
      dsimp only at *
      obtain ⟨hfl, hfz, hkk⟩ := hP2
      rw [rangeKs_length] at hfl hkk
      have hkk2 : kk ≤ 100 := by omega
      have hfl2 : fg.length ≤ 40 := by omega
      have hja2 : ∀ p ∈ own, p.1 ≠ lA := fun p hp => hoff p hp _ (.head _)
      have hal := ahead_all ah hAh
      have hkl := kind_l kd hKd
      have hhl : (Str.ofString "#").length = 1 := by decide +kernel
      have hHalt : HaltIf := trivial
      k_steps
      unfold Stop
      rename _ ∈ tailsL => hTl
      rename News _ _ _ _ => N9
      rename Fr _ _ _ _ => F9
      rename_i tl ttl
      have htl := (tail_all tl hTl).1
      refine' row_any ?i1 F9 ?i3 ?i4 ?i5 ?i6 ?i7 N9 hfz (by omega) ?_
      case i1 => k_asm
      case i3 => k_asm
      case i4 => k_asm
      case i5 => exact rfl
      case i6 => walk_at "my_room2"
      case i7 => walk_at "my_room2"
      intro rw trw h30 tk30 hRow F10 N10
      k_steps
      unfold Stop
      rename News _ _ _ _ => N11
      rename Fr _ _ _ _ => F11
      refine join_val (fun v => ∃ fx tfx, v = .str fx tfx ∧ FxOk kd fg fx) F11 N11 ?ife ?_
      case ife =>
        refine wpAny_IfExp ?_
        k_steps
        all_goals unfold Stop
        all_goals (rename Fr _ _ _ _ => kF; rename News _ _ _ _ => kN)
        · exact PEnd.intro kF kN (fun _ h => h) ⟨_, _, rfl, fx_yes hfl2 (by assumption)⟩
        · exact PEnd.intro kF kN (fun _ h => h) ⟨_, _, rfl, fx_no (by assumption)⟩
      intro v h40 tk40 hv F12 N12
      obtain ⟨fx, tfx, rfl, hfx⟩ := hv
      have hfx1 := hfx.1
      k_steps
      unfold Stop
      rename News _ _ _ _ => N13
      rename Fr _ _ _ _ => F13
      rename HaltIf => hHalt2
      clear hHalt2
      obtain ⟨t, ht⟩ : ∃ t, t = ah ++ Str.ofString "#" ++ kd ++ fx ++ tl := ⟨_, rfl⟩
      rw [← ht] at F13
      have htt := text_len hAh hKd hfx1 hTl
      rw [← ht] at htt
      obtain ⟨r1, r2, r3⟩ := hRow
      have he4 := @e_le kd
      have hrw : rw.length ≤ 160 := by
        have h1 : eOf kd * fg.length ≤ 4 * fg.length := Nat.mul_le_mul_right _ he4.2
        omega
      refine' sum_call ?j1 F13 ?j3 ?j4 ?j5 ?j6 ?j7 N13 r1 (by omega) ?_
      case j1 => k_asm
      case j3 => k_asm
      case j4 => k_asm
      case j5 => exact rfl
      case j6 => walk_at "my_room2"
      case j7 => walk_at "my_room2"
      intro vs1 tvs h50 tk50 hvs F14 N14
      rw [r3] at hvs
      subst hvs
      k_steps
      all_goals unfold Stop
      · rename List.any _ _ = _ => hA
        rename (fg == _) = _ => hE
        have hres := res_empty ht hTl hfx hA hE
        walk_at "my_read0"
        case rt =>
          intro v n k p r k3 k4 k5 k6 h' tk' e
          rw [hres] at e
          cases e
        intro p9 k9 h60 tk60 _ F15 N15 l15
        clear hres ht
        k_steps
        unfold Stop
        rename News _ _ _ _ => N16
        refine dat_ne (n := 1) (by decide) N16 (.tuple (.head _) (.cons .none (.cons (.int _ _) .nil))) (.tuple (.tail _ (.head _)) (.cons .none (.cons (.int _ _) .nil))) none_ok3 ?hu ?_
        case hu => exact Nat.le_of_ble_eq_true rfl
        k_steps
        all_goals (try unfold Stop)
        · exfalso
          rename (fg != _) = true => hN
          rw [bne, hE] at hN
          cases hN
        · rename News _ _ _ _ => kN
          rename Fr _ _ _ _ => kF
          (try rw [← hL8])
          (try rw [← hL8] at kN)
          refine' kst_end (kk + 1, _) kF kN ?e1 ?e2 rfl trivial (List.forall_mem_nil _) ?e3 ?e4
          case e1 => walk_at "my_sub"
          case e2 => walk_at "my_sub"
          case e3 => walk_at "my_same3"
          case e4 => dsimp only; rw [List.length_append, List.length_singleton]; omega
      · rename List.any _ _ = _ => hT
        rename (fg == _) = _ => hE
        rename List.any [Str.ofString "b", Str.ofString "x"] _ = _ => hA
        have hres := res_ends ht hTl hfx hA hfz hT
        walk_at "my_read0"
        case rt =>
          intro v n k p r k3 k4 k5 k6 h' tk' e
          rw [hres] at e
          cases e
        intro p9 k9 h60 tk60 _ F15 N15 l15
        clear hres ht
        k_steps
        unfold Stop
        rename News _ _ _ _ => N16
        refine dat_ne (n := 1) (by decide) N16 (.tuple (.head _) (.cons .none (.cons (.int _ _) .nil))) (.tuple (.tail _ (.head _)) (.cons .none (.cons (.int _ _) .nil))) none_ok3 ?hu ?_
        case hu => exact Nat.le_of_ble_eq_true rfl
        k_steps
        all_goals (try unfold Stop)
        · rename News _ _ _ _ => N17
          rename Fr _ _ _ _ => F17
          refine' pieces_call ?k1 F17 ?k3 ?k4 ?k5 ?k6 ?k7 ?k8 ?k9 N17 (kind_any hA) hfz ⟨len_pos hE, hfl2⟩ r1 r2 r3 ?_
          case k1 => k_asm
          case k3 => k_asm
          case k4 => k_asm
          case k5 => exact rfl
          case k6 => assumption
          case k7 => assumption
          case k8 => walk_at "my_room2"
          case k9 => walk_at "my_room2"
          intro h70 tk70 F18 N18
          k_steps
          unfold Stop
          rename News _ _ _ _ => kN
          rename Fr _ _ _ _ => kF
          (try rw [← hL8])
          (try rw [← hL8] at kN)
          refine' kst_end (kk + 1, _) kF kN ?e1 ?e2 rfl trivial (List.forall_mem_nil _) ?e3 ?e4
          case e1 => walk_at "my_sub"
          case e2 => walk_at "my_sub"
          case e3 => walk_at "my_same3"
          case e4 => dsimp only; rw [List.length_append, List.length_singleton]; omega
        · rename News _ _ _ _ => kN
          rename Fr _ _ _ _ => kF
          (try rw [← hL8])
          (try rw [← hL8] at kN)
          refine' kst_end (kk + 1, _) kF kN ?e1 ?e2 rfl trivial (List.forall_mem_nil _) ?e3 ?e4
          case e1 => walk_at "my_sub"
          case e2 => walk_at "my_sub"
          case e3 => walk_at "my_same3"
          case e4 => dsimp only; rw [List.length_append, List.length_singleton]; omega
      · rename List.any _ _ = _ => hT
        rename (fg == _) = _ => hE
        rename List.any [Str.ofString "b", Str.ofString "x"] _ = _ => hA
        obtain ⟨k8, hres, hk8⟩ := res_good ht hTl hfx hA hfz hE hT r2
        walk_at "my_read0"
        case bad =>
          intro p k5 h' tk' e
          rw [hres] at e
          cases e
        intro v9 n9 k9 p9 q9 z3 z4 z5 z6 h60 tk60 e _ F15 N15 l15 l16
        rw [hres] at e
        cases e
        rw [hk8] at N15
        clear hres ht
        k_steps
        unfold Stop
        rename News _ _ _ _ => N16
        refine dat_ne (n := 2) (by decide) N16 (.tuple (.head _) (.cons (.tuple (.tail _ (.head _)) (.cons (.str _ _) (.cons (.int _ _) (.cons (.int _ _) .nil)))) (.cons (.int _ _) .nil))) (.tuple (.tail _ (.tail _ (.tail _ (.tail _ (.head _))))) (.cons (.tuple (.tail _ (.tail _ (.tail _ (.tail _ (.tail _ (.head _)))))) (.cons (.str _ _) (.cons (.int _ _) (.cons (.int _ _) .nil)))) (.cons (.int _ _) .nil))) bits_ok ?hu ?_
        case hu => exact Nat.le_of_ble_eq_true rfl
        k_steps
        all_goals (try unfold Stop)
        · rename News _ _ _ _ => N17
          rename Fr _ _ _ _ => F17
          refine' pieces_call ?k1 F17 ?k3 ?k4 ?k5 ?k6 ?k7 ?k8 ?k9 N17 (kind_any hA) hfz ⟨len_pos hE, hfl2⟩ r1 r2 r3 ?_
          case k1 => k_asm
          case k3 => k_asm
          case k4 => k_asm
          case k5 => exact rfl
          case k6 => assumption
          case k7 => assumption
          case k8 => walk_at "my_room2"
          case k9 => walk_at "my_room2"
          intro h70 tk70 F18 N18
          k_steps
          unfold Stop
          rename News _ _ _ _ => kN
          rename Fr _ _ _ _ => kF
          (try rw [← hL8])
          (try rw [← hL8] at kN)
          refine' kst_end (kk + 1, _) kF kN ?e1 ?e2 rfl trivial (List.forall_mem_nil _) ?e3 ?e4
          case e1 => walk_at "my_sub"
          case e2 => walk_at "my_sub"
          case e3 => walk_at "my_same3"
          case e4 => dsimp only; rw [List.length_append, List.length_singleton]; omega
        · rename News _ _ _ _ => kN
          rename Fr _ _ _ _ => kF
          (try rw [← hL8])
          (try rw [← hL8] at kN)
          refine' kst_end (kk + 1, _) kF kN ?e1 ?e2 rfl trivial (List.forall_mem_nil _) ?e3 ?e4
          case e1 => walk_at "my_sub"
          case e2 => walk_at "my_sub"
          case e3 => walk_at "my_same3"
          case e4 => dsimp only; rw [List.length_append, List.length_singleton]; omega
      · rename List.any _ _ = _ => hA
        have hres := res_kind ht hKd hTl hfx hA
        walk_at "my_read0"
        case rt =>
          intro v n k p r k3 k4 k5 k6 h' tk' e
          rw [hres] at e
          cases e
        intro p9 k9 h60 tk60 _ F15 N15 l15
        clear hres ht
        k_steps
        unfold Stop
        rename News _ _ _ _ => N16
        refine dat_ne (n := 1) (by decide) N16 (.tuple (.head _) (.cons .none (.cons (.int _ _) .nil))) (.tuple (.tail _ (.head _)) (.cons .none (.cons (.int _ _) .nil))) none_ok3 ?hu ?_
        case hu => exact Nat.le_of_ble_eq_true rfl
        k_steps
        all_goals (try unfold Stop)
        · rename News _ _ _ _ => kN
          rename Fr _ _ _ _ => kF
          (try rw [← hL8])
          (try rw [← hL8] at kN)
          refine' kst_end (kk + 1, _) kF kN ?e1 ?e2 rfl trivial (List.forall_mem_nil _) ?e3 ?e4
          case e1 => walk_at "my_sub"
          case e2 => walk_at "my_sub"
          case e3 => walk_at "my_same3"
          case e4 => dsimp only; rw [List.length_append, List.length_singleton]; omega
  case done =>
    intro c u h tk _ hP F3 N3
    k_steps)

end
end Mine
theorem PySem.Challenge.cw_qz0006_03_holds : PySem.Challenge.rw_qz0006_03.Holds :=
  Mine.law_try
