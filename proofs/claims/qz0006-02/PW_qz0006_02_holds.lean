import PyProof.Rows.All
import Wide.All
import OpenK.AllK
import Wide.FinOn
import PySem.Challenge.RW_qz0006_02
open PySem PySem.W PySem.Calls PyProof.Rows
set_option Elab.async false
set_option maxRecDepth 100000
set_option maxHeartbeats 8000000
namespace Mine
section
/-- the statements of the text that stay in view -/
def hd.view_39 : Program := view PySem.Challenge.rw_qz0006_02.row.toRowW.prog [0, 2, 3, 5, 6, 7, 9, 10, 11, 12, 13, 14, 15, 16, 17, 18, 20, 21, 22, 23, 24, 25, 26, 27, 28, 29]
-- The head in one check of the kernel, without the library's twins of the text: they make the compiled file 25 MB. The library's twins of its own functions (of topRun, treeTable, openSeen) make the check lighter.
local macro_rules | `(tactic| o_head $H) => `(tactic|
  (refine holds_open (q := hd.view_39) (loose := [Str.ofString "SIMPLE"]) (Xt := fun s => xlAt hd.view_39 [] s && recOk (RowW.records PySem.Challenge.rw_qz0006_02.row.toRowW) s) (XP := XL hd.view_39 []) (Yf := Hook.obs $H) (Ya := Hook.val $H) (YP := Hook.says $H) (N := 3576) ?hl (Hook.of $H) (Hook.keeps $H) (fun s e => xl_of s (Bool.and_eq_true_iff.mp e).1) XL.keeps (by rfl) (by rfl) (by rfl) (fun s e => recFacts_of (Bool.and_eq_true_iff.mp e).2) (by rfl) (by first | assumption | decide +kernel) (by decide +kernel) ⟨rfl, rfl, rfl, rfl, rfl, by decide +kernel⟩ ?hw ?hc; (case hl => first | (intro w; unfold openEnds topFrom; rewrite [PySem.W.Fast.te14082659384304107361, PySem.W.Fast.te14364793385576792824, PySem.W.Fast.te4187177175401517315]; kernel_rfl) | (intro w; kernel_rfl))))
open_top hd for PySem.Challenge.rw_qz0006_02

end
section
section
open PySem.Spec

section
variable {prog : Program} {w : World} {A : Around} {E : Value → Shared → Prop} {h : Heap} {g : Array GenState} {d : Drawn} {t : Nat} {os : OsState}
variable {nm q : Str} {C N : Addr} {bs bm : List Value} {hdct : Bool} {sn : List Str} {sub : List Value} {ab : Bool} {col : Option Bool} {dd : Option Addr} {k0 k1 k2 k3 k5 : Option Value}

/-- Exception.__new__ upon an own class, whatever stands between -/
theorem new_made {R : Result → Shared → Prop} {rest : List Value} (hB : bm.contains (.type "Exception") = true) (hA : bm.contains (.type "AttributeError") = false) (hN : bm.contains (.type "NameError") = false)
    (hC : h.get? C = some (excClassObj nm q C N bs bm hdct sn sub ab col dd k0 k1 k2 k3 k5 "Exception.__new__"))
    (hq : R (.ok (.ret (.ref (h.objs.size + 1)))) ⟨(h.push { cls := .type "tuple", data := .seq rest.toArray }).push
      { cls := .ref C, data := .fields #[.ref h.objs.size, .none, .none, .none, .bool false, .none] }, g, d, t, os⟩) (hrest : rest.length ≤ sizeLine) :
    codeAny (model prog w) A (.builtin "Exception.__new__" ⟨.ref C :: rest, []⟩) R ⟨h, g, d, t, os⟩ := by
  have F := PySem.F.excBase_Exception
  have hends := F.ends
  have c1 : (Value.ref C :: bm).contains (.type "Exception") = true := by rw [List.contains_cons, hB, Bool.or_true]
  have c2 : (Value.ref C :: bm).contains (.type "AttributeError") = false := by rw [List.contains_cons, hA]; rfl
  have c3 : (Value.ref C :: bm).contains (.type "NameError") = false := by rw [List.contains_cons, hN]; rfl
  refine codeAny_builtinAt F.entry ?_
  unfold Builtin.«BaseException.__new__»
  refine _root_.PySem.wpAt_bind ?_
  show _root_.PySem.wpAt _ _ _ (stack >>= _) _ _ _
  refine _root_.PySem.wpAt_bind (_root_.PySem.wpAt_stack fun p below => _root_.PySem.wpAt_of_wpAny ?_)
  wp_walk
  refine _root_.PySem.wpAt_of_wpAny ?_
  rw [F.owner]
  repeat (first | with_reducible refine wpAny_madeHere_exc F.canon hC ?_ | with_reducible refine wpAny_loadPart_at hC ?_ | (with_reducible refine wpAny_isSubtype_exc hC ?_; first | rw [c1] | rw [c2] | rw [c3]) | wp_step)
  show R _ _
  rw [Heap.size_push]
  exact hq

theorem new_checked {M : Model} {rest : List Value} {Q : Unit → Shared → Prop} (hB : bm.contains (.type "Exception") = true)
    (hC : h.get? C = some (excClassObj nm q C N bs bm hdct sn sub ab col dd k0 k1 k2 k3 k5 "Exception.__new__"))
    (hq : Q () ⟨h, g, d, t, os⟩) : wpAny M A (checkBuiltinCall "Exception.__new__" ⟨.ref C :: rest, []⟩) Q E ⟨h, g, d, t, os⟩ :=
  wpAny_check_new_subU (bmB := bm) PySem.F.excBase_Exception hB .base hC hq

theorem type_called {mN : Str → Option Value} {rest : List Value} {fI : Addr} {oI : Obj} {Q : Fin → Shared → Prop} (hB : bm.contains (.type "Exception") = true) (hA : bm.contains (.type "AttributeError") = false) (hN : bm.contains (.type "NameError") = false)
    (hC : h.get? C = some (excClassObj nm q C N bs bm hdct sn sub ab col dd k0 k1 k2 k3 k5 "Exception.__new__")) (hn : h.Ns N mN) (hi : mN "__init__" = some (.ref fI))
    (hfI : h.get? fI = some oI) (hfc : oI.cls = .type "function")
    (hq : ∀ h' e, Heap.MadeExcOf h h' e (.ref C) rest →
      wpAny (model prog w) A (call (.ref fI) (.ref e :: rest)) (fun r s' => r = .none ∧ Q (.done (.ret (.ref e))) s') E ⟨h', g, d, t, os⟩) (hrest : rest.length ≤ sizeLine) :
    wpAny (model prog w) A (Builtin.«type.__call__» ⟨.ref C :: rest, []⟩) Q E ⟨h, g, d, t, os⟩ := by
  repeat (first | with_reducible refine wpAny_loadPart_at hC ?_ | with_reducible refine wpAny_madeBy_exc hC ?_ | wp_step)
  refine codeAny_call_builtin_code (Code.quiet_builtin _ PySem.F.excBase_Exception.quiet) (new_checked hB hC ?_)
  refine new_made hB hA hN hC ?_ hrest
  show wpAny _ _ _ _ _ _
  have up : ∀ b o, h.get? b = some o → ((h.push { cls := .type "tuple", data := .seq rest.toArray }).push { cls := .ref C, data := .fields #[.ref h.objs.size, .none, .none, .none, .bool false, .none] }).get? b = some o :=
    fun b o e => Heap.get?_push_of_some _ (Heap.get?_push_of_some _ e)
  have hC₁ := up _ _ hC
  have hfI₁ := up _ _ hfI
  have hn₁ := hn.keeps up
  have hget : ((h.push { cls := .type "tuple", data := .seq rest.toArray }).push
      { cls := .ref C, data := .fields #[.ref h.objs.size, .none, .none, .none, .bool false, .none] }).get? (h.objs.size + 1) = some
      { cls := .ref C, data := .fields #[.ref h.objs.size, .none, .none, .none, .bool false, .none] } := by heap_get
  have hcC : (Value.ref C :: bm).contains (.ref C) = true := by simp
  unfold isInstance
  repeat (first | with_reducible refine wpAny_loadPart_at hget ?_ | (with_reducible refine wpAny_isSubtype_exc hC₁ ?_; rw [hcC]) | wp_step)
  show wpAny _ _ (typeLookup (.ref C) _) _ _ _
  rw [typeLookup_eq]
  refine wpAny_bind (wpAny_mroOf_exc hC₁ ?_)
  rw [lookupAlong_cons]
  refine wpAny_bind (wpAny_classOwn_exc hC₁ hn₁ ?_)
  rw [hi]
  refine wpAny_pure ?_
  refine wpAny_holding (wpAny_bind ?_)
  unfold bindSpecial
  refine wpAny_bind (wpAny_typeOf (T := "function") ⟨_, hfI₁, hfc⟩ ?_)
  rw [if_pos (by decide)]
  refine wpAny_pure (wpAny_bind (wpAny_mono (hq _ (h.objs.size + 1) ⟨up, Heap.get?_none_of_le (Nat.le_succ _), h.objs.size, hget, Heap.get?_none_of_le (Nat.le_refl _), ?_⟩) (fun r s' hr => ?_) fun _ _ x => x))
  · exact Heap.get?_push_of_some _ (Heap.get?_push_at rfl rfl)
  · obtain ⟨rfl, hQ⟩ := hr
    wp_walk
    exact hQ

theorem exc_call {mN : Str → Option Value} {rest : List Value} {fI : Addr} {oI : Obj} {Q : Value → Shared → Prop} (hB : bm.contains (.type "Exception") = true) (hA : bm.contains (.type "AttributeError") = false) (hN : bm.contains (.type "NameError") = false)
    (hC : h.get? C = some (excClassObj nm q C N bs bm hdct sn sub ab col dd k0 k1 k2 k3 k5 "Exception.__new__")) (hn : h.Ns N mN) (hi : mN "__init__" = some (.ref fI))
    (hfI : h.get? fI = some oI) (hfc : oI.cls = .type "function")
    (hq : ∀ h' e, Heap.MadeExcOf h h' e (.ref C) rest →
      wpAny (model prog w) (A.under (.builtin "type.__call__" ⟨.ref C :: rest, []⟩)) (call (.ref fI) (.ref e :: rest)) (fun r s' => r = .none ∧ Q (.ref e) s') E ⟨h', g, d, t, os⟩) (hrest : rest.length ≤ sizeLine) :
    wpAny (model prog w) A (call (.ref C) rest) Q E ⟨h, g, d, t, os⟩ := by
  have f1 := tc_lookup
  have f2 := tc_bind (.ref C)
  have hT : (⟨h, g, d, t, os⟩ : Shared).TypeIs (.ref C) "type" := ⟨_, hC, rfl⟩
  refine wpAny_call (codeAny_of_tree ?_)
  show wpAny _ _ (callAny (.ref C) _) _ _ _
  repeat (any_goals (first | assumption | with_reducible refine wpAny_loadPart_at hC ?_ | wp_step))
  refine ⟨rfl, ?_⟩
  exact codeAny_call_builtin_at (Code.quiet_builtin _ (by decide +kernel)) entry_typeCall (wpAny_check_type_call_sub hC (type_called hB hA hN hC hn hi hfI hfc hq hrest))
end

theorem wd_slot : Slot "wrapper_descriptor" "__get__" "wrapper_descriptor.__get__" := .of (owner := "wrapper_descriptor") (n := "__get__") (by rw [typeLookup_type, builtinLookup_eq_fast]; kernel_rfl) (by decide +kernel) (by decide +kernel) (by decide +kernel)
  (by first | exact .inl (by decide +kernel) | exact .inr (by decide +kernel)) (by rw [isSubtype_type]; kernel_rfl)
theorem wd_entry : entryFor table "wrapper_descriptor.__get__" = some Builtin.«wrapper_descriptor.__get__» := entryFor_of_tree (by kernel_rfl)
theorem wd_args (a b c : Value) : argsOk "wrapper_descriptor.__get__" ⟨[a, b, c], []⟩ := by unfold argsOk; kernel_rfl
theorem wd_get {prog : Program} {w : World} {A : Around} {h : Heap} {g : Array GenState} {d : Drawn} {t : Nat} {os : OsState} {x C : Addr} {ox : Obj} {R : Result → Shared → Prop}
    (hx : h.get? x = some ox) (hc : ox.cls = .ref C) (hs : Looks (model prog w) h (isSubtype (.ref C) (.type "Exception")) true)
    (hq : R (.ok (.ret (.ref h.objs.size))) ⟨h.push { cls := .type "method-wrapper", data := .fields #[.builtin "Exception.__init__", .ref x] }, g, d, t, os⟩) :
    codeAny (model prog w) A (.call (.builtin "wrapper_descriptor.__get__") ⟨[.builtin "Exception.__init__", .ref x, .ref C], []⟩) R ⟨h, g, d, t, os⟩ := by
  refine codeAny_call_builtin wd_slot.plain wd_entry (wd_slot.check _ _ _ _ _ _ _ _ (by show typeOf _ = _; kernel_rfl) (wd_args _ _ _) ?_)
  unfold Builtin.«wrapper_descriptor.__get__»
  repeat (first | (with_reducible refine wpAny_loadPart_at hx ?_; rw [hc]) | (with_reducible refine Looks.at hs ?_) | (with_reducible refine wpAny_newObj_type ?_ (by size_fits)) | wp_step | dsimp only)
  rw [show ".".intercalate (("Exception.__init__" : String).cutAt '.').dropLast = "Exception" from by decide +kernel]
  unfold newFields
  repeat (first | (with_reducible refine Looks.at hs ?_) | (with_reducible refine wpAny_newObj_type ?_ (by size_fits)) | wp_step | dsimp only)
  exact hq

/-- super().__init__ at Exception's own: the road to the method-wrapper -/
theorem sup_ga {prog : Program} {w : World} {A : Around} {E : Value → Shared → Prop} {h : Heap} {g : Array GenState} {d : Drawn} {t : Nat} {os : OsState} {so D x C : Addr} {l₀ l : List Value} {K : Frag} {tk : Tok} {Q : Fin → Shared → Prop}
    (hso : h.get? so = some { cls := .type "super", dict := none, data := .fields #[.ref D, .ref x, .ref C], slots := #[] }) (hno : Looks (model prog w) h (opaqueClassAbove (.ref C)) none)
    (hC : Looks (model prog w) h (mroOf (.ref C)) l₀) (hl : (l₀.dropWhile (· != .ref D)).drop 1 = l) (X : K.In h)
    (hf : alongIn K "__init__" l = some (some (.builtin "Exception.__init__"))) (hxC : x ≠ C)
    {ox : Obj} (hx : h.get? x = some ox) (hc : ox.cls = .ref C) (hs : Looks (model prog w) h (isSubtype (.ref C) (.type "Exception")) true)
    (hq : Q (.done (.ret (.ref h.objs.size))) ⟨h.push { cls := .type "method-wrapper", data := .fields #[.builtin "Exception.__init__", .ref x] }, g, d, t, os⟩) :
    wpAny (model prog w) A (Builtin.«super.__getattribute__» ⟨[.ref so, .str "__init__" tk], []⟩) Q E ⟨h, g, d, t, os⟩ := by
  have hty : typeOf (.builtin "Exception.__init__") = pure (.type "wrapper_descriptor") := by kernel_rfl
  have hlk : typeLookup (.type "wrapper_descriptor") "__get__" = pure (some (.builtin "wrapper_descriptor.__get__")) := by rw [typeLookup_type, builtinLookup_eq_fast]; kernel_rfl
  have hne : (Value.ref x == Value.ref C) = false := by simp [hxC]
  have hn : (("__init__" : Str) == ("__class__" : Str)) = false := by decide
  have hdt : ({ cls := .type "super", dict := none, data := .fields #[.ref D, .ref x, .ref C], slots := #[] } : Obj).data = .fields #[.ref D, .ref x, .ref C] := rfl
  have f0 : (#[.ref D, .ref x, .ref C] : Array Value)[0]? = some (.ref D) := rfl
  have f1 : (#[.ref D, .ref x, .ref C] : Array Value)[1]? = some (.ref x) := rfl
  have f2 : (#[.ref D, .ref x, .ref C] : Array Value)[2]? = some (.ref C) := rfl
  unfold Builtin.«super.__getattribute__»
  repeat (first
    | (with_reducible refine wpAny_field hso hdt f0 ?_) | (with_reducible refine wpAny_field hso hdt f1 ?_) | (with_reducible refine wpAny_field hso hdt f2 ?_)
    | (with_reducible refine ks_wpAny_notOpaque hno ?_)
    | (with_reducible refine Looks.at hC ?_; rw [hl])
    | (refine ks_forIn_along X (fun _ _ => rfl) rfl ?_ hf)
    | (with_reducible refine wpAny_of_eq hty ?_)
    | (with_reducible refine wpAny_of_eq hlk ?_)
    | (simp only [hn, hne, Bool.or_false, Bool.false_eq_true, if_false])
    | wp_step
    | dsimp only)
  refine wd_get hx hc hs ?_
  dsimp only
  repeat (first | wp_step | dsimp only)
  exact hq
end
section
open PySem.Builtin PySem.Builtin.ObjectAttr

section
variable {prog : Program} {w : World} {A : Around} {s : Shared} {K : Frag} {h₀ : Heap} {L x C : Addr} {m : Str → Option Value} {R : Result → Shared → Prop} {ox : Obj} {od : Option Obj}

theorem mid_mem {α : Type} {a : α} {l r : List α} : a ∈ l ++ a :: r := List.mem_append_right _ (.head _)
theorem exc_refuse (self : Value) : refuseLoop self "__setattr__" [.type "Exception", .type "BaseException", .type "object"] = pure () := by kernel_rfl

theorem exc_refuse2 (self : Value) (C D : Addr) : refuseLoop self "__setattr__" [.ref C, .ref D, .type "Exception", .type "BaseException", .type "object"] = pure () := by
  rw [refuseLoop_ref, refuseLoop_ref]; exact exc_refuse self
def excStore (K : Frag) (C : Addr) : Bool := match clsIn K C with
  | some cd => cd.hasDict && (match cd.mro with
    | [.ref _, .ref _, .type a, .type b, .type c] => a == "Exception" && b == "BaseException" && c == "object"
    | _ => false)
  | none => false
theorem excStore_of {K : Frag} {C : Addr} (h : excStore K C = true) : ∃ cd, clsIn K C = some cd ∧ (∀ self, refuseLoop self "__setattr__" cd.mro = pure ()) ∧ cd.mro.contains (.type "object") = true ∧ cd.hasDict = true := by
  unfold excStore at h
  split at h
  · rename_i cd hc
    rw [Bool.and_eq_true] at h
    obtain ⟨h1, h2⟩ := h
    split at h2
    · rename_i A B a b c hm
      simp only [Bool.and_eq_true, beq_iff_eq] at h2
      obtain ⟨⟨rfl, rfl⟩, rfl⟩ := h2
      exact ⟨cd, hc, fun self => by rw [hm]; exact exc_refuse2 _ _ _, by rw [hm]; simp, h1⟩
    · cases h2
  · cases h
/-- object.__setattr__ upon an object of an own exception class -/
theorem osa_exc {cd : ClassData} {name : Str} {tk : Tok} {v : Value} (X : K.In s.heap) (I : InstAt s.heap x ox C od) (hc : clsIn K C = some cd) (hr : refuseLoop (.ref x) "__setattr__" cd.mro = pure ()) (ho : cd.mro.contains (.type "object") = true)
    (ht : findIn K (.ref C) name = some none)
    (h : ∀ b, wpAny (model prog w) A.in1 (storeInOwnDict (.ref x) (.ref C) (.str name tk) name v b)
      (fun fin s' => match fin with | PySem.Fin.done f => R (.ok f) s' | PySem.Fin.again c' => c'.quiet = true ∧ codeAny (model prog w) A c' R s') (fun e s' => R (.error e) s') s) :
    codeAny (model prog w) A (.call (.builtin "object.__setattr__") ⟨[.ref x, .str name tk, v], []⟩) R s := by
  have SF := PySem.F.store_object
  have ne : cd.mro.isEmpty = false := by cases q : cd.mro with | nil => rw [q] at ho; cases ho | cons _ _ => rfl
  have sub : Looks (model prog w) s.heap (isInstance (.ref x) (.type "object")) true := I.type.andThen (looks_mroIn X (by unfold mroIn; rw [hc, Option.bind_some, if_neg (by rw [ne]; decide), ho]))
  refine codeAny_call_builtin SF.slot.plain SF.entry (@check_slot (model prog w) _ _ s "object.__setattr__" "object" "__setattr__" (.ref x) [.str name tk, v] [] _ SF.kind SF.split sub (SF.args (.ref x) (.str name tk) v) ?_)
  have hm : Looks (model prog w) s.heap (mroOf (.ref C)) cd.mro := (looks_clsIn X hc).andThen .now
  have L3 : Looks (model prog w) s.heap (storeTaker? none) none := .now
  rw [osa_eq, refuse_eq]
  refine wpAny_bind (wpAny_bind (I.type.here (wpAny_bind (hm.here ?_))))
  rw [hr]
  refine wpAny_pure (wpAny_bind (I.type.here (wpAny_bind ((looks_findIn X ht).here (wpAny_bind (L3.here ?_))))))
  exact h _

/-- the first attribute of an exception: its dict is made -/
theorem osa_first {cd : ClassData} {name : Str} {tk : Tok} {v : Value} {pre post : List (Addr × Obj)} {vs : Array Value} (F : Fr h₀ L s.heap m) (N : News h₀ L s.heap (pre ++ (x, (⟨.ref C, none, .fields vs, #[]⟩ : Obj)) :: post)) (X : K.In s.heap)
    (hc : clsIn K C = some cd) (hr : refuseLoop (.ref x) "__setattr__" cd.mro = pure ()) (ho : cd.mro.contains (.type "object") = true) (hh : cd.hasDict = true)
    (ht : findIn K (.ref C) name = some none) (h1 : ∀ p ∈ pre, p.1 ≠ x) (h2 : ∀ p ∈ post, p.1 ≠ x)
    (h : ∀ dx h', Fr h₀ L h' m → News h₀ L h' ((dx, dictOf [⟨PyData.keyHash w.params name, .str name s.toks, v⟩] 1) :: (pre ++ (x, (⟨.ref C, some dx, .fields vs, #[]⟩ : Obj)) :: post)) → (∀ p ∈ pre ++ (x, (⟨.ref C, none, .fields vs, #[]⟩ : Obj)) :: post, p.1 < dx) → R (.ok (.ret .none)) { s with heap := h', toks := s.toks + 1 }) :
    codeAny (model prog w) A (.call (.builtin "object.__setattr__") ⟨[.ref x, .str name tk, v], []⟩) R s := by
  have hx : s.heap.get? x = some (⟨.ref C, none, .fields vs, #[]⟩ : Obj) := (N _ mid_mem).1
  have I : InstAt s.heap x ⟨.ref C, none, .fields vs, #[]⟩ C none := ⟨hx, rfl, rfl, trivial⟩
  refine osa_exc X I hc hr ho ht fun b => ?_
  have N1 := N.push F emptyDict
  have F1 := F.push emptyDict
  have lt : ∀ p ∈ pre ++ (x, (⟨.ref C, none, .fields vs, #[]⟩ : Obj)) :: post, p.1 < s.heap.objs.size := fun p hp => Heap.lt_size (N p hp).1
  rw [← List.cons_append] at N1
  obtain ⟨F2, N2⟩ := news_upd (f := fun o => { o with dict := some s.heap.objs.size }) F1 N1 (o' := (⟨.ref C, some s.heap.objs.size, .fields vs, #[]⟩ : Obj)) (fun p hp => by
    rcases List.mem_cons.mp hp with rfl | hp
    · exact Nat.ne_of_gt (lt _ mid_mem)
    · exact h1 p hp) h2 rfl rfl
  have D := (N2 (s.heap.objs.size, emptyDict) (.head _)).1
  obtain ⟨F3, N3⟩ := news_upd (pre := []) (f := Obj.putName name (PyData.keyHash w.params name) (.str name s.toks) v) F2 (by simpa using N2) (o' := dictOf [⟨PyData.keyHash w.params name, .str name s.toks, v⟩] 1) (by simp) (fun p hp => by
    refine Nat.ne_of_lt ?_
    rcases List.mem_append.mp hp with hp | hp
    · exact lt p (List.mem_append_left _ hp)
    · rcases List.mem_cons.mp hp with rfl | hp
      · exact lt (x, ⟨.ref C, none, .fields vs, #[]⟩) mid_mem
      · exact lt p (List.mem_append_right _ (.tail _ hp))) rfl rfl
  have D' := (N3 _ (.head _)).1
  obtain ⟨hp, g, d, t, os⟩ := s
  have hx1 : (hp.push emptyDict).get? x = some ⟨.ref C, none, .fields vs, #[]⟩ := (N1 (x, ⟨.ref C, none, .fields vs, #[]⟩) (.tail _ mid_mem)).1
  refine wpAny_bind (wpAny_pure (wpAny_bind (wpAny_bind (wpAny_loadPart hx (wpAny_bind ((looks_clsIn X hc).here ?_))))))
  rw [hh]
  refine wpAny_bind (wpAny_alloc ?_)
  refine wpAny_bind (wpAny_update hx1 ?_)
  refine wpAny_pure (a := some hp.objs.size) (wpAny_bind (wpAny_pure (wpAny_bind ?_)))
  unfold nsSet
  refine wpAny_bind (wpAny_bind (wpAny_askSetting (wpAny_pure (wpAny_bind (wpAny_mkText (wpAny_bind (wpAny_loadPart D ?_)))))))
  dsimp only
  rw [aRefKeyMayBeTheName_at, show ((!(#[] : Array DictEntry).any (·.key.isStr name)) && (#[] : Array DictEntry).any (·.refKey)) = false from by simp]
  refine wpAny_updatePart D ?_
  refine wpAny_bind (wpAny_lookBehind D' (pastItsLine_dict (by rw [sizeLine_eq]; exact Nat.le_of_ble_eq_true rfl)) ?_)
  exact wpAny_pure (h _ _ F3 N3 lt)

/-- a further one -/
theorem osa_next {cd : ClassData} {name : Str} {tk : Tok} {v : Value} {dx : Addr} {es es' : List DictEntry} {k n : Nat} {pre post : List (Addr × Obj)} {vs : Array Value} (F : Fr h₀ L s.heap m) (N : News h₀ L s.heap (pre ++ (dx, dictOf es k) :: post)) (hx : s.heap.get? x = some ⟨.ref C, some dx, .fields vs, #[]⟩) (X : K.In s.heap)
    (hc : clsIn K C = some cd) (hr : refuseLoop (.ref x) "__setattr__" cd.mro = pure ()) (ho : cd.mro.contains (.type "object") = true) (hh : cd.hasDict = true)
    (ht : findIn K (.ref C) name = some none) (h1 : ∀ p ∈ pre, p.1 ≠ dx) (h2 : ∀ p ∈ post, p.1 ≠ dx) (hk : es.any (·.refKey) = false)
    (e : Obj.putName name (PyData.keyHash w.params name) (.str name s.toks) v (dictOf es k) = dictOf es' n) (hz : es'.length ≤ 1000)
    (h : ∀ h', Fr h₀ L h' m → News h₀ L h' (pre ++ (dx, dictOf es' n) :: post) → R (.ok (.ret .none)) { s with heap := h', toks := s.toks + 1 }) :
    codeAny (model prog w) A (.call (.builtin "object.__setattr__") ⟨[.ref x, .str name tk, v], []⟩) R s := by
  have D : s.heap.get? dx = some (dictOf es k) := (N _ mid_mem).1
  have I : InstAt s.heap x ⟨.ref C, some dx, .fields vs, #[]⟩ C (some (dictOf es k)) := ⟨hx, rfl, rfl, D⟩
  refine osa_exc X I hc hr ho ht fun b => ?_
  obtain ⟨U1, U2⟩ := news_upd (f := Obj.putName name (PyData.keyHash w.params name) (.str name s.toks) v) F N h1 h2 e rfl
  have D' := (U2 (dx, dictOf es' n) mid_mem).1
  refine wpAny_bind (wpAny_pure (wpAny_bind (wpAny_bind (wpAny_loadPart hx (wpAny_bind ((looks_clsIn X hc).here ?_))))))
  rw [hh]
  refine wpAny_pure (a := some dx) (wpAny_bind (wpAny_pure (wpAny_bind ?_)))
  unfold nsSet
  refine wpAny_bind (wpAny_bind (wpAny_askSetting (wpAny_pure (wpAny_bind (wpAny_mkText (wpAny_bind (wpAny_loadPart D ?_)))))))
  dsimp only
  have c : (!(es.toArray).any (·.key.isStr name) && (es.toArray).any (·.refKey)) = false := by
    rw [← Array.any_toList, ← Array.any_toList]
    show (!(es.any _) && es.any _) = false
    rw [hk, Bool.and_false]
  rw [aRefKeyMayBeTheName_at, c]
  refine wpAny_updatePart D ?_
  refine wpAny_bind (wpAny_lookBehind D' (pastItsLine_dict (by rw [List.size_toArray, sizeLine_eq]; omega)) ?_)
  exact wpAny_pure (h _ U1 U2)
end
end
abbrev mwObj (x : Addr) : Obj := { cls := .type "method-wrapper", data := .fields #[.builtin "Exception.__init__", .ref x] }

section
variable {prog : Program} {w : World} {A : Around} {E : Value → Shared → Prop} {h : Heap} {g : Array GenState} {d : Drawn} {t : Nat} {os : OsState}

theorem sup_getMethod {so D x C : Addr} {l₀ l : List Value} {K : Frag} {ox : Obj} {pl : Sem Bool} {Q : Value × List Value → Shared → Prop}
    (hso : h.get? so = some { cls := .type "super", dict := none, data := .fields #[.ref D, .ref x, .ref C], slots := #[] }) (hno : Looks (model prog w) h (opaqueClassAbove (.ref C)) none)
    (hC : Looks (model prog w) h (mroOf (.ref C)) l₀) (hl : (l₀.dropWhile (· != .ref D)).drop 1 = l) (X : K.In h)
    (hf : alongIn K "__init__" l = some (some (.builtin "Exception.__init__"))) (hxC : x ≠ C) (hx : h.get? x = some ox) (hc : ox.cls = .ref C) (hs : Looks (model prog w) h (isSubtype (.ref C) (.type "Exception")) true)
    (hq : Q (.ref h.objs.size, []) ⟨h.push (mwObj x), g, d, t + 1, os⟩) :
    wpAny (model prog w) A (getMethod (.ref so) "__init__" pl) Q E ⟨h, g, d, t, os⟩ := by
  have hlk := F.ks_slot_super_ga.lookup
  have hcan := F.ks_canon_super_ga
  have hT : ∀ t', (⟨h, g, d, t', os⟩ : Shared).TypeIs (.ref so) "super" := fun _ => ⟨_, hso, rfl⟩
  unfold getMethod
  refine wpAny_bind (wpAny_specialOf (hT _) hlk ?_)
  show wpAny _ _ (if (Manifest.canonical "super.__getattribute__" != "object.__getattribute__") = true then _ else _) _ _ _
  rw [if_pos hcan]
  unfold getAttr getAttrBy
  refine wpAny_bind (wpAny_bind (wpAny_mkText (wpAny_holding (wpAny_bind (wpAny_typeOf (hT _) (wpAny_bind (wpAny_of_eq hlk ?_)))))))
  show wpAny _ _ (getAttrByItsOwn (.ref so) (.str _ t) (.type "super") (.builtin "super.__getattribute__") true false) _ _ _
  unfold getAttrByItsOwn hookBefore callGetattribute boundAndCalled
  refine wpAny_bind (wpAny_of_eq (show (if onTheHeap (.type "super") then typeLookup (.type "super") "__getattr__" else pure none) = pure none from rfl) ?_)
  refine wpAny_bind (wpAny_attempt (wpAny_holding ?_))
  show wpAny _ _ (bindSpecial (.builtin "super.__getattribute__") (.ref so) >>= _) _ _ _
  refine wpAny_bind (wpAny_of_eq (F.ks_slot_super_ga.bind _) ?_)
  refine wpAny_mono (Q := fun v s' => v = .ref h.objs.size ∧ s' = ⟨h.push (mwObj x), g, d, t + 1, os⟩) (E := fun _ _ => False)
    (wpAny_call_entry F.ks_slot_super_ga (hT _) F.ks_entry_super_ga (sup_ga hso hno hC hl X hf hxC hx hc hs ⟨_, rfl, rfl, rfl⟩) (F.ks_gaArgs_super _ _)) (fun v s' hv => ?_) fun _ _ z => z.elim
  obtain ⟨rfl, rfl⟩ := hv
  exact wpAny_pure (wpAny_pure hq)

/-- Exception.__init__, bound, called: the args are laid anew -/
theorem mw_call {cC : Value} {dC : Option Addr} {cd : ClassData} {slC : Array (Option Value)} {mw x C T : Addr} {dx : Option Addr} {vs : List Value} {Q : Value → Shared → Prop} (hm : h.get? mw = some (mwObj x)) (hx : h.get? x = some (⟨.ref C, dx, .fields #[.ref T, .none, .none, .none, .bool false, .none], #[]⟩ : Obj))
    (hC : h.get? C = some (⟨cC, dC, .cls cd, slC⟩ : Obj)) (hs : Looks (model prog w) h (isSubtype (.ref C) (.type "Exception")) true) (hv : vs.length ≤ sizeLine)
    (hq : Q .none ⟨(h.push { cls := .type "tuple", data := .seq vs.toArray }).update x (Obj.mapFields (·.setIfInBounds 0 (.ref h.objs.size))), g, d, t, os⟩) :
    wpAny (model prog w) A (call (.ref mw) vs) Q E ⟨h, g, d, t, os⟩ := by
  refine wpAny_call (codeAny_of_tree ?_)
  show wpAny _ _ (callAny (.ref mw) _) _ _ _
  unfold callAny
  refine wpAny_bind (wpAny_load hm ?_)
  unfold checkBoundCall
  repeat (first | (with_reducible refine wpAny_loadPart_at hx ?_) | (with_reducible refine wpAny_load hC ?_) | wp_step | dsimp only)
  refine wpAny_onRaise ?_
  rw [show ∀ (a b : String) (n : Nat), Bind.check ⟨.positional, "*", "Exception", .self, [⟨"args", .varPos, false⟩]⟩ a b n (List.map (fun (x : Str × Value) => x.fst) []) = pure () from
    fun a b n => check_star_args _ _ _ _ _ _]
  refine wpAny_pure ?_
  show wpAny _ _ (again (.builtin "Exception.__init__" ⟨.ref x :: vs, []⟩)) _ _ _
  refine wpAny_pure ⟨Code.quiet_builtin _ (by decide +kernel), codeAny_builtin PySem.F.excBase_Exception.initEntry ?_⟩
  have hx' := Heap.get?_push_of_some { cls := .type "tuple", data := .seq vs.toArray } hx
  unfold Builtin.«BaseException.__init__»
  repeat (first | (with_reducible refine wpAny_loadPart_at hx ?_) | (with_reducible refine wpAny_loadPart_at hx' ?_) | (with_reducible refine wpAny_newObj_type ?_ (by simpa using hv)) | wp_step | dsimp only)
  exact hq
end

def MwP (q x : Addr) (h : Heap) : Prop := h.get? q = some (mwObj x)
section
variable {prog : Program} {w : World} {A : Around} {E : Value → Shared → Prop} {s : Shared} {K : Frag} {h₀ : Heap} {L x C D : Addr} {m : Str → Option Value} {news : List (Addr × Obj)} {ox : Obj}

theorem sup_method_N {so : Addr} {pl : Sem Bool} {Q : Value × List Value → Shared → Prop} (F : Fr h₀ L s.heap m) (X₀ : K.In h₀) (N : News h₀ L s.heap news) (hso : (so, ks_superObj D x C) ∈ news) (hx : (x, ox) ∈ news) (hc : ox.cls = .ref C)
    (ho : nsIn K cStatics "thirdparty.any" = some none) (hm : ks_superIn K C D "__init__" = some (some (.builtin "Exception.__init__"))) (hsub : mroIn K C (.type "Exception") = some true)
    (h : ∀ q h', Fr h₀ L h' m → News h₀ L h' ((q, mwObj x) :: news) → (∀ p ∈ news, p.1 < q) → Q (.ref q, []) { s with heap := h', toks := s.toks + 1 }) : wpAny (model prog w) A (getMethod (.ref so) "__init__" pl) Q E s := by
  have X : K.In s.heap := X₀.keeps F.keep
  obtain ⟨hh, g, d, t, os⟩ := s
  cases hcl : clsIn K C with
  | none => unfold ks_superIn at hm; rw [hcl] at hm; cases hm
  | some cd =>
    unfold ks_superIn at hm
    rw [hcl] at hm
    have hne : x ≠ C := by
      rintro rfl
      have hin := (X₀ x)
      unfold clsIn at hcl
      split at hcl
      · rename_i q
        have := hin _ q
        rw [(N _ hx).2.2] at this
        cases this
      · cases hcl
    refine sup_getMethod (N _ hso).1 (looks_opaque X ho) (l₀ := cd.mro) ?_ rfl X hm hne (N _ hx).1 hc (looks_mroIn X hsub) ?_
    · exact fun A Q E s k q => wpAny_bind ((looks_clsIn X hcl) A _ E s k (wpAny_pure q))
    · obtain ⟨F', N', l'⟩ := ks_newsPush (s := ⟨hh, g, d, t, os⟩) (o := mwObj x) F N rfl (Heap.get?_push_at rfl rfl) (fun b o e => Heap.get?_push_of_some _ e)
      exact h _ _ F' N' l'

theorem mw_with {q : Addr} {pos : Pos} {e : PySem.Expr} {env : Env} {Q : Value → Shared → Prop}
    (h : wpAny (model prog w) A (spliced (backTo pos (starEach [e] env))) (fun vs s₁ => MwP q x s₁.heap ∧ wpAny (model prog w) A (call (.ref q) ([] ++ vs)) Q E s₁) E s)
    (he : starEach [e] env = (false, eval e env) :: starEach [] env := by rfl) :
    wpAny (model prog w) A (callWith pos (.ref q) [] (backTo pos (starEach [e] env)) []) Q E s := by
  rw [he] at h ⊢
  refine callWith_of (P := MwP q x) rfl (fun h hq => ⟨.machine, .inr (.inl rfl), (Looks.ld (part := none) hq).andThen .now⟩) (evalArgs_plain h)

theorem mw_call_N {q T : Addr} {dx : Option Addr} {vs : List Value} {cC : Value} {dC : Option Addr} {cd : ClassData} {slC : Array (Option Value)} {pre post : List (Addr × Obj)} {Q : Value → Shared → Prop} (F : Fr h₀ L s.heap m) (X₀ : K.In h₀)
    (N : News h₀ L s.heap (pre ++ (x, (⟨.ref C, dx, .fields #[.ref T, .none, .none, .none, .bool false, .none], #[]⟩ : Obj)) :: post)) (hq : (q, mwObj x) ∈ pre ++ (x, (⟨.ref C, dx, .fields #[.ref T, .none, .none, .none, .bool false, .none], #[]⟩ : Obj)) :: post)
    (h1 : ∀ p ∈ pre, p.1 ≠ x) (h2 : ∀ p ∈ post, p.1 ≠ x) (hC : K.lookup C = some (⟨cC, dC, .cls cd, slC⟩ : Obj)) (hsub : mroIn K C (.type "Exception") = some true) (hv : vs.length ≤ sizeLine)
    (h : ∀ T' h', Fr h₀ L h' m → News h₀ L h' ((T', { cls := .type "tuple", data := .seq vs.toArray }) :: (pre ++ (x, (⟨.ref C, dx, .fields #[.ref T', .none, .none, .none, .bool false, .none], #[]⟩ : Obj)) :: post)) →
      (∀ p ∈ pre ++ (x, (⟨.ref C, dx, .fields #[.ref T, .none, .none, .none, .bool false, .none], #[]⟩ : Obj)) :: post, p.1 < T') → Q .none { s with heap := h' }) :
    wpAny (model prog w) A (call (.ref q) vs) Q E s := by
  have X : K.In s.heap := X₀.keeps F.keep
  have lt : ∀ p ∈ pre ++ (x, (⟨.ref C, dx, .fields #[.ref T, .none, .none, .none, .bool false, .none], #[]⟩ : Obj)) :: post, p.1 < s.heap.objs.size := fun p hp => Heap.lt_size (N p hp).1
  have N1 := N.push F { cls := .type "tuple", data := .seq vs.toArray }
  have F1 := F.push { cls := .type "tuple", data := .seq vs.toArray }
  rw [← List.cons_append] at N1
  obtain ⟨F2, N2⟩ := news_upd (f := Obj.mapFields (·.setIfInBounds 0 (.ref s.heap.objs.size))) F1 N1 (o' := (⟨.ref C, dx, .fields #[.ref s.heap.objs.size, .none, .none, .none, .bool false, .none], #[]⟩ : Obj)) (fun p hp => by
    rcases List.mem_cons.mp hp with rfl | hp
    · exact Nat.ne_of_gt (lt (x, _) mid_mem)
    · exact h1 p hp) h2 rfl rfl
  obtain ⟨hh, g, d, t, os⟩ := s
  exact mw_call (N _ hq).1 (N _ mid_mem).1 (X _ _ hC) (looks_mroIn X hsub) hv (h _ _ F2 N2 lt)

theorem set_first {name : Str} {v : Value} {pre post : List (Addr × Obj)} {vs : Array Value} {Q : Unit → Shared → Prop} (F : Fr h₀ L s.heap m) (X₀ : K.In h₀) (N : News h₀ L s.heap (pre ++ (x, (⟨.ref C, none, .fields vs, #[]⟩ : Obj)) :: post))
    (hs : findIn K (.ref C) "__setattr__" = some (some (.builtin "object.__setattr__"))) (hcls : excStore K C = true)
    (ht : findIn K (.ref C) name = some none) (h1 : ∀ p ∈ pre, p.1 ≠ x) (h2 : ∀ p ∈ post, p.1 ≠ x)
    (h : ∀ dx h', Fr h₀ L h' m → News h₀ L h' ((dx, dictOf [⟨PyData.keyHash w.params name, .str name (s.toks + 1), v⟩] 1) :: (pre ++ (x, (⟨.ref C, some dx, .fields vs, #[]⟩ : Obj)) :: post)) → (∀ p ∈ pre ++ (x, (⟨.ref C, none, .fields vs, #[]⟩ : Obj)) :: post, p.1 < dx) → Q () { s with heap := h', toks := s.toks + 2 }) :
    wpAny (model prog w) A (setAttr (.ref x) name v) Q E s := by
  have hx : s.heap.get? x = some (⟨.ref C, none, .fields vs, #[]⟩ : Obj) := (N _ mid_mem).1
  have I : InstAt s.heap x ⟨.ref C, none, .fields vs, #[]⟩ C none := ⟨hx, rfl, rfl, trivial⟩
  obtain ⟨cd, hc, hr, ho, hh⟩ := excStore_of hcls
  exact set_plain (X₀.keeps F.keep) I hs (osa_first (s := { s with toks := s.toks + 1 }) F N (X₀.keeps F.keep) hc (hr _) ho hh ht h1 h2 fun dx h' F' N' l => h dx h' F' N' l)

theorem set_next {name : Str} {v : Value} {dx : Addr} {es es' : List DictEntry} {k n : Nat} {pre post : List (Addr × Obj)} {vs : Array Value} {Q : Unit → Shared → Prop} (F : Fr h₀ L s.heap m) (X₀ : K.In h₀) (N : News h₀ L s.heap (pre ++ (dx, dictOf es k) :: post)) (hx : (x, (⟨.ref C, some dx, .fields vs, #[]⟩ : Obj)) ∈ pre ++ (dx, dictOf es k) :: post)
    (hs : findIn K (.ref C) "__setattr__" = some (some (.builtin "object.__setattr__"))) (hcls : excStore K C = true)
    (ht : findIn K (.ref C) name = some none) (h1 : ∀ p ∈ pre, p.1 ≠ dx) (h2 : ∀ p ∈ post, p.1 ≠ dx) (hk : es.any (·.refKey) = false)
    (e : Obj.putName name (PyData.keyHash w.params name) (.str name (s.toks + 1)) v (dictOf es k) = dictOf es' n) (hz : es'.length ≤ 1000)
    (h : ∀ h', Fr h₀ L h' m → News h₀ L h' (pre ++ (dx, dictOf es' n) :: post) → Q () { s with heap := h', toks := s.toks + 2 }) :
    wpAny (model prog w) A (setAttr (.ref x) name v) Q E s := by
  have I : InstAt s.heap x ⟨.ref C, some dx, .fields vs, #[]⟩ C (some (dictOf es k)) := ⟨(N _ hx).1, rfl, rfl, (N _ mid_mem).1⟩
  obtain ⟨cd, hc, hr, ho, hh⟩ := excStore_of hcls
  exact set_plain (X₀.keeps F.keep) I hs (osa_next (s := { s with toks := s.toks + 1 }) F N (N _ hx).1 (X₀.keeps F.keep) hc (hr _) ho hh ht h1 h2 hk e hz fun h' F' N' => h h' F' N')
end

def Stop (P : Prop) : Prop := P
theorem stop_of {P : Prop} (h : Stop P) : P := h
theorem inst_exc0 {h₀ h : Heap} {L x C : Addr} {news : List (Addr × Obj)} {vs : Array Value} {sl : Array (Option Value)} (N : News h₀ L h news) (h1 : (x, (⟨.ref C, none, .fields vs, sl⟩ : Obj)) ∈ news) :
    InstAt h x ⟨.ref C, none, .fields vs, sl⟩ C none := ⟨(N _ h1).1, rfl, rfl, trivial⟩
theorem inst_exc1 {h₀ h : Heap} {L x C dx : Addr} {news : List (Addr × Obj)} {od : Obj} {vs : Array Value} {sl : Array (Option Value)} (N : News h₀ L h news) (h1 : (x, (⟨.ref C, some dx, .fields vs, sl⟩ : Obj)) ∈ news) (h2 : (dx, od) ∈ news) :
    InstAt h x ⟨.ref C, some dx, .fields vs, sl⟩ C (some od) := ⟨(N _ h1).1, rfl, rfl, (N _ h2).1⟩
abbrev excObj (C T : Addr) (dx : Option Addr) : Obj := ⟨.ref C, dx, .fields #[.ref T, .none, .none, .none, .bool false, .none], #[]⟩
abbrev tupObj (vs : List Value) : Obj := { cls := .type "tuple", data := .seq vs.toArray }
theorem allLt_mem {d : Addr} : ∀ {l : List (Addr × Obj)}, AllLt d l → ∀ p ∈ l, p.1 < d
  | [], _, _, hp => nomatch hp
  | _ :: _, h, _, .head _ => h.1
  | _ :: _, h, _, .tail _ hp => allLt_mem h.2 _ hp
theorem allLt_ne {d : Addr} {l : List (Addr × Obj)} (h : AllLt d l) : ∀ p ∈ l, p.1 ≠ d := fun p hp => Nat.ne_of_lt (allLt_mem h p hp)

end
section
/-- the exception e of the class C, its dict at dx, with a traceback whose flight is fl -/
def TracedD (h base : Heap) (e C dx : Addr) (fl : Value) : Prop :=
  ∃ vs Tb oT ts, h.get? e = some (⟨.ref C, some dx, .fields vs, #[]⟩ : Obj) ∧ vs[1]? = some (.ref Tb) ∧ base.get? Tb = none ∧ Tb ≠ e ∧ h.get? Tb = some oT ∧ oT.data = .fields ts ∧ ts[3]? = some fl
def StateD (base : Heap) (l : List Env) (e C dx : Addr) (fl : Value) (h h' : Heap) : Prop := base.StaysIn h' ∧ h'.FunFrames base l ∧ TracedD h' base e C dx fl ∧ h.UpToSlots h'

section
variable {M : Model} {A : Around} {E : Value → Shared → Prop} {s : Shared}

theorem entryD {base : Heap} {env : Env} {outer : List Env} {L e C dx : Addr} {vs : Array Value} {head : Value} {hadNext : Bool} {Q : Unit → Shared → Prop}
    (hfr : A.frames = some (env :: outer)) (hl : s.heap.FunFrames base (env :: outer)) (hf : env.frame = some L)
    (he : s.heap.get? e = some (⟨.ref C, some dx, .fields vs, #[]⟩ : Obj)) (hkb : base.StaysIn s.heap) (hen : base.get? e = none) (hsz : 1 < vs.size)
    (h : ∀ h', StateD base (env :: outer) e C dx (rawInt L) s.heap h' → Q () { s with heap := h' }) :
    wpAny M A (do let a ← frameOf env; let pl ← entryPlaceOf L hadNext; let b ← EntryCells.newEntry head a .none (rawInt L) .none pl; setField (.ref e) 1 b) Q E s := by
  have hne : e ∉ (env :: outer).filterMap (·.frame) := fun hm => by
    obtain ⟨_, o, ho, hnf⟩ := hl.mem hm
    rw [he] at ho; injection ho with ho; subst ho; exact hnf vs rfl
  refine wpAny_bind (wpAny_frameOf_fun hfr hl hf fun h₁ hs₁ => ?_)
  refine wpAny_bind (wpAny_entryPlaceOf fun pl hpl => ?_)
  unfold EntryCells.newEntry newFields
  refine wpAny_bind (wpAny_newObj_type ?_ (hpl.sizeOk5 _ _ _ _ _))
  have e₁ := (hs₁.2.1 e hne).trans he
  have k₁ : base.StaysIn h₁ := fun b o hb => (hs₁.2.1 b fun hm => by rw [(hl.mem hm).1] at hb; cases hb).trans (hkb b o hb)
  have e₂ := Heap.get?_push_of_some (h := h₁) { cls := .type "traceback", dict := none, data := .fields ([head, .ref L, .none, rawInt L, .none] ++ (if pl.isEmpty then List.replicate 6 Value.none else pl)).toArray } e₁
  refine wpAny_setField e₂ rfl hsz (h _ ?_)
  have hT : h₁.objs.size ≠ e := Nat.ne_of_gt (Heap.lt_size e₁)
  have e₃ := Heap.get?_update_self (Obj.mapFields (·.setIfInBounds 1 (Value.ref h₁.objs.size))) e₂ rfl
  have T₃ := (Heap.get?_update_other (h₁.push { cls := .type "traceback", dict := none, data := .fields ([head, .ref L, .none, rawInt L, .none] ++ (if pl.isEmpty then List.replicate 6 Value.none else pl)).toArray })
    (Obj.mapFields (·.setIfInBounds 1 (Value.ref h₁.objs.size))) (Ne.symm hT)).trans (Heap.get?_push_size h₁ rfl)
  have keep : ∀ b o, b ≠ e → h₁.get? b = some o →
      ((h₁.push { cls := .type "traceback", dict := none, data := .fields ([head, .ref L, .none, rawInt L, .none] ++ (if pl.isEmpty then List.replicate 6 Value.none else pl)).toArray }).update e (Obj.mapFields (·.setIfInBounds 1 (Value.ref h₁.objs.size)))).get? b = some o :=
    fun b o hb q => (Heap.get?_update_other _ _ (Ne.symm hb)).trans (Heap.get?_push_of_some _ q)
  have apart : ∀ b o, s.heap.get? b = some o → (∀ ws, o.data ≠ .fields ws) → b ≠ e := fun b o hb hn q => by
    rw [q, he] at hb; injection hb with hb; subst hb; exact hn vs rfl
  refine ⟨fun b o hb => keep b o (fun q => by rw [q, hen] at hb; cases hb) (k₁ b o hb), hl.of_keeps fun b o hb hn => ?_, ⟨_, h₁.objs.size, _, _, e₃, by simp [hsz], k₁.fresh, hT, T₃, rfl, by rcases hpl with rfl | ⟨_, _, _, _, _, _, _, rfl⟩ <;> simp⟩, fun b o hb hn => ?_⟩
  · obtain ⟨sl, hs⟩ := hs₁.2.2 b o hb
    exact ⟨_, keep b _ (apart b o hb hn) hs, rfl⟩
  · obtain ⟨sl, hs⟩ := hs₁.2.2 b o hb
    exact ⟨sl, keep b _ (apart b o hb hn) hs⟩

theorem noteD_first {base : Heap} {env : Env} {outer : List Env} {L e C dx T : Addr} {Q : Unit → Shared → Prop}
    (hfr : A.frames = some (env :: outer)) (hl : s.heap.FunFrames base (env :: outer)) (hf : env.frame = some L) (he : s.heap.get? e = some (excObj C T (some dx))) (hkb : base.StaysIn s.heap) (hen : base.get? e = none)
    (h : ∀ h', StateD base (env :: outer) e C dx (rawInt L) s.heap h' → Q () { s with heap := h' }) : wpAny M A (noteFrame (.ref e) env) Q E s := by
  unfold noteFrame
  simp only [hf]
  refine wpAny_bind (wpAny_field he rfl (x := .none) rfl ?_)
  rw [if_neg (by decide)]
  exact entryD hfr hl hf he hkb hen (by show 1 < 6; decide) h

theorem noteD_next {base : Heap} {env : Env} {outer : List Env} {L e C dx : Addr} {Q : Unit → Shared → Prop}
    (hfr : A.frames = some (env :: outer)) (hl : s.heap.FunFrames base (env :: outer)) (hf : env.frame = some L) (ht : TracedD s.heap base e C dx .none) (hkb : base.StaysIn s.heap) (hen : base.get? e = none)
    (h : ∀ h', StateD base (env :: outer) e C dx (rawInt L) s.heap h' → Q () { s with heap := h' }) : wpAny M A (noteFrame (.ref e) env) Q E s := by
  obtain ⟨vs, Tb, oT, ts, he, h1, hnT, hTe, hT, hdT, h3⟩ := ht
  unfold noteFrame
  simp only [hf]
  refine wpAny_bind (wpAny_field he rfl h1 ?_)
  rw [if_pos (show (Value.ref Tb != Value.none) = true from by simp)]
  refine wpAny_bind (wpAny_field hT hdT h3 ?_)
  rw [if_neg (show ¬ ((Value.none == rawInt L) = true) from by simp [rawInt])]
  refine wpAny_bind (wpAny_setField hT hdT (Array.getElem?_eq_some_iff.mp h3).1 ?_)
  have other : ∀ b, b ≠ Tb → (s.heap.update Tb (Obj.mapFields (·.setIfInBounds 3 Value.none))).get? b = s.heap.get? b := fun b hb => Heap.get?_update_other _ _ (Ne.symm hb)
  have apart : ∀ b o, s.heap.get? b = some o → (∀ ws, o.data ≠ .fields ws) → b ≠ Tb := fun b o hb hn q => by
    rw [q, hT] at hb; injection hb with hb; subst hb; exact hn ts hdT
  exact entryD hfr (hl.of_keeps fun b o hb hn => ⟨o, (other b (apart b o hb hn)).trans hb, rfl⟩) hf ((other e (Ne.symm hTe)).trans he)
    (fun b o hb => (other b fun q => by rw [q, hnT] at hb; cases hb).trans (hkb b o hb)) hen (Array.getElem?_eq_some_iff.mp h1).1
    fun h' ⟨x1, x2, x3, x4⟩ => h h' ⟨x1, x2, x3, fun b o hb hn => x4 b o ((other b (apart b o hb hn)).trans hb) hn⟩

theorem flightD {base : Heap} {l : List Env} {e C dx : Addr} {fl : Value} {fr : Option Addr} {Q : Unit → Shared → Prop}
    (hkb : base.StaysIn s.heap) (hl : s.heap.FunFrames base l) (ht : TracedD s.heap base e C dx fl)
    (h : ∀ h', StateD base l e C dx (fr.elim Value.none fun f => rawInt f) s.heap h' → Q () { s with heap := h' }) :
    wpAny M A (setFlight (.ref e) fr) Q E s := by
  obtain ⟨vs, Tb, oT, ts, he, h1, hnT, hTe, hT, hdT, h3⟩ := ht
  have hsz : 3 < ts.size := (Array.getElem?_eq_some_iff.mp h3).1
  have other : ∀ b, b ≠ Tb → (s.heap.update Tb (Obj.mapFields (·.setIfInBounds 3 (fr.elim Value.none fun f => rawInt f)))).get? b = s.heap.get? b := fun b hb => Heap.get?_update_other _ _ (Ne.symm hb)
  have apart : ∀ b o, s.heap.get? b = some o → (∀ ws, o.data ≠ .fields ws) → b ≠ Tb := fun b o hb hn q => by
    rw [q, hT] at hb; injection hb with hb; subst hb; exact hn ts hdT
  unfold setFlight
  refine wpAny_bind (wpAny_field he rfl h1 ?_)
  rw [if_pos (show (Value.ref Tb != Value.none) = true from by simp)]
  refine wpAny_setField hT hdT hsz (h _ ⟨fun b o hb => (other b fun q => by rw [q, hnT] at hb; cases hb).trans (hkb b o hb), hl.of_keeps fun b o hb hn => ⟨o, (other b (apart b o hb hn)).trans hb, rfl⟩, ?_, fun b o hb hn => ⟨o.slots, (other b (apart b o hb hn)).trans hb⟩⟩)
  exact ⟨vs, Tb, _, _, (other e (Ne.symm hTe)).trans he, h1, hnT, hTe, Heap.get?_update_self _ hT (Obj.isFreed_of_fields (Obj.data_mapFields hdT _)), Obj.data_mapFields hdT _, by simp [hsz]⟩

def FlyD (base : Heap) (l : List Env) (e C dx : Addr) (fl : Value) (h : Heap) : Prop := base.StaysIn h ∧ base.get? e = none ∧ h.FunFrames base l ∧ TracedD h base e C dx fl

theorem leavingD {base : Heap} {env : Env} {outer : List Env} {L e C dx : Addr} {h₁ : Heap} {Q : Unit → Shared → Prop} (hen : base.get? e = none)
    (hn : ∀ {Q' : Unit → Shared → Prop}, (∀ h', StateD base (env :: outer) e C dx (rawInt L) h₁ h' → Q' () { s with heap := h' }) → wpAny M A (noteFrame (.ref e) env) Q' E s)
    (h : ∀ h', FlyD base outer e C dx .none h' → h₁.UpToSlots h' → Q () { s with heap := h' }) : wpAny M A (leaving env (.ref e)) Q E s := by
  unfold leaving
  refine wpAny_bind (hn fun h' x => ?_)
  obtain ⟨x1, x2, x3, x4⟩ := x
  refine flightD (fr := none) (l := env :: outer) x1 x2 x3 fun h'' y => ?_
  obtain ⟨y1, ⟨_, _, y2⟩, y3, y4⟩ := y
  exact h h'' ⟨y1, hen, y2, y3⟩ (x4.trans y4)
end

/-- in flight above the frames l; the ledger stands -/
def RaisedD (base G : Heap) (l : List Env) (e C dx : Addr) (news : List (Addr × Obj)) (h : Heap) : Prop :=
  ∃ B, base.StaysIn B ∧ (∀ b o, G.get? b = some o → b ∉ l.filterMap (·.frame) → B.get? b = some o) ∧ (∀ q ∈ news, B.get? q.1 = some q.2 ∧ G.get? q.1 = none ∧ base.get? q.1 = none) ∧ FlyD B l e C dx .none h

section
variable {M : Model} {A : Around} {E : Value → Shared → Prop} {s' : Shared} {base g g₂ : Heap} {outer : List Env} {L a e C dx T : Addr} {m : Str → Option Value} {name : Str} {scope : Scope} {cd : Value} {Q : Unit → Shared → Prop} {news : List (Addr × Obj)}
theorem leave_firstD (K : Below A base outer g) (F : Fr g L s'.heap m) (N : News g L s'.heap news) (he : s'.heap.get? e = some (excObj C T (some dx))) (heL : e ≠ L) (hge : g.get? e = none) (hne : ∀ p ∈ news, p.1 ≠ e)
    (hQ : ∀ h', RaisedD base g outer e C dx news h' → g.UpToSlots h' → Q () { s' with heap := h' }) (hk : scope.kind = .function := by rfl) :
    wpAny M (A.deeper (envOf name scope L a cd)) (leaving (envOf name scope L a cd) (.ref e)) Q E s' := by
  have K' := K.push (name := name) (a := a) (cd := cd) F hk
  have hin : ∀ env ∈ (envOf name scope L a cd :: outer), ∀ b, env.frame = some b → b ∈ e :: (envOf name scope L a cd :: outer).filterMap (·.frame) := fun env he b hb => .tail _ (List.mem_filterMap.mpr ⟨env, he, hb⟩)
  have hbe : base.get? e = none := fresh_of_stays K.stays hge
  have st : base.StaysIn (hideAll s'.heap (e :: (envOf name scope L a cd :: outer).filterMap (·.frame))) := fun b o q => hideAll_get _ (K'.stays b o q) fun hm => by
    rcases List.mem_cons.mp hm with rfl | hm
    · rw [hbe] at q; cases q
    · rw [(K'.frames.mem hm).1] at q; cases q
  have sg : ∀ b o, g.get? b = some o → b ∉ outer.filterMap (·.frame) → (hideAll s'.heap (e :: (envOf name scope L a cd :: outer).filterMap (·.frame))).get? b = some o := fun b o q nm => hideAll_get _ (F.keep b o q) fun hm => by
    rcases List.mem_cons.mp hm with rfl | hm
    · rw [hge] at q; cases q
    · rcases kts_mem hm with z | z
      · rw [z, kts_self F] at q; cases q
      · exact nm z
  have hl : ∀ q ∈ news, (hideAll s'.heap (e :: (envOf name scope L a cd :: outer).filterMap (·.frame))).get? q.1 = some q.2 ∧ g.get? q.1 = none ∧ base.get? q.1 = none := fun q hq => by
    refine ⟨hideAll_get _ (N q hq).1 fun hm => ?_, (N q hq).2.2, fresh_of_stays K.stays (N q hq).2.2⟩
    rcases List.mem_cons.mp hm with z | hm
    · exact hne q hq z
    · obtain ⟨env, he, hf⟩ := List.mem_filterMap.mp hm
      rcases List.mem_cons.mp he with rfl | he
      · exact (N q hq).2.1 (Option.some.inj hf).symm
      · obtain ⟨o, ho, _⟩ := (K.frames.mem (List.mem_filterMap.mpr ⟨env, he, hf⟩)).2
        rw [(N q hq).2.2] at ho; cases ho
  have hBe := hideAll_none (h := s'.heap) (e :: (envOf name scope L a cd :: outer).filterMap (·.frame)) (List.mem_cons_self (a := e))
  exact leavingD (h₁ := s'.heap) (L := L) hBe (fun k => noteD_first K'.stack (funFrames_hide K'.frames hin) rfl he (fun b o q => of_hideAll _ q) hBe k) fun h' y u =>
    hQ h' ⟨_, st, sg, hl, y⟩ ((Heap.UpToSlots.of_keeps F.keep).trans u)

theorem leave_onD (K : Below A base outer g) (F : Fr g L g₂ m) (R : RaisedD base g₂ (envOf name scope L a cd :: outer) e C dx news s'.heap) (hsm : g₂.UpToSlots s'.heap)
    (hQ : ∀ h', RaisedD base g outer e C dx news h' → g.UpToSlots h' → Q () { s' with heap := h' }) :
    wpAny M (A.deeper (envOf name scope L a cd)) (leaving (envOf name scope L a cd) (.ref e)) Q E s' := by
  obtain ⟨B, hB, hBG, hl, k1, k2, k3, k4⟩ := R
  exact leavingD (h₁ := s'.heap) (L := L) k2 (fun k => noteD_next (Around.frames_deeper K.stack) k3 rfl k4 k1 k2 k) fun h' y u =>
    hQ h' ⟨B, hB, fun b o q nm => hBG b o (F.keep b o q) (fun hm => by
      rcases kts_mem hm with z | z
      · rw [z, kts_self F] at q; cases q
      · exact nm z), fun q hq => ⟨(hl q hq).1, kts_none F.keep (hl q hq).2.1, (hl q hq).2.2⟩, y⟩ ((Heap.UpToSlots.of_keeps F.keep).trans (hsm.trans u))
end

section
variable {prog : Program} {w : World} {A₀ : Around} {E : Value → Shared → Prop} {s' : Shared} {base g g₀ G : Heap} {outer : List Env} {L a e C dx : Addr} {m : Str → Option Value} {name : Str} {scope : Scope} {cd : Value}
  {n : Str} {b₀ : Stmt} {suite : List Stmt} {pos np : Pos} {rest : List ExceptHandler} {Q : Flow → Shared → Prop} {news : List (Addr × Obj)} {KF : Frag}
  {p : Program} {loose : List Str} {mean : ExcName → Option Value} {mg mb : Str → Option Value} {x : Str}

theorem caught_D (R : RaisedD base G (envOf name scope L a cd :: outer) e C dx news s'.heap) (F : Fr g L G m) (K : Below A₀ base outer g) (hsm : G.UpToSlots s'.heap) (XB : KF.In base) (TB : Top p loose mean mg mb base)
    (D : KtsDicts (outer.filterMap (·.frame)) g) (T0 : KtsTurn (outer.filterMap (·.frame)) g₀ g)
    (ex : nsIn KF mainGlobals x = some (some (.ref C))) (q : ktsIn KF C "BaseException" = true)
    (k : ∀ h' g' tk vs, KtsTurn (outer.filterMap (·.frame)) g₀ g' → Fr g' L h' (fun y => if y = n then some (.ref e) else m y) → News g' L h' ((e, (⟨.ref C, some dx, .fields vs, #[]⟩ : Obj)) :: news) → Below A₀ base outer g' → KF.In g' → Top p loose mean mg mb g' → KtsDicts (outer.filterMap (·.frame)) g' →
      wpAny (model prog w) ((A₀.deeper (envOf name scope L a cd)).mark (some (.ref e))) (execs (b₀ :: suite) (envOf name scope L a cd))
        (fun f s₄ => wpAny (model prog w) (A₀.deeper (envOf name scope L a cd)) (do bindName (envOf name scope L a cd) n .none; unbindBehindTheSuite (envOf name scope L a cd) n pos) (fun _ s₅ => Q f s₅) E s₄)
        (AsSuiteRaised (model prog w) ((A₀.deeper (envOf name scope L a cd)).mark (some (.ref e))) (envOf name scope L a cd) n pos (notedBy (model prog w) ((A₀.deeper (envOf name scope L a cd)).mark (some (.ref e))) (envOf name scope L a cd) (cameBackBy (model prog w) (A₀.deeper (envOf name scope L a cd)) (envOf name scope L a cd) E)))
        { s' with heap := h', toks := tk })
    (hk : scope.kind = .function := by rfl) (hlo : (envOf name scope L a cd).kindOf n = some .local := by rfl) (hx : (envOf name scope L a cd).kindOf x = some .globalImplicit := by rfl) (hd : (x == ("__debug__" : Str)) = false := by decide) :
    wpAny (model prog w) (A₀.deeper (envOf name scope L a cd)) (noteFrame (.ref e) (envOf name scope L a cd))
      (fun _ s₂ => wpAny (model prog w) (A₀.deeper (envOf name scope L a cd)) (setFlight (.ref e) none) (fun _ s₃ =>
        wpAny (model prog w) (A₀.deeper (envOf name scope L a cd)) (handleBy (.ref e) (envOf name scope L a cd) (.ExceptHandler (some (.Name x np)) (some n) (b₀ :: suite) pos :: rest)) Q E s₃) E s₂) E s' := by
  obtain ⟨B, hB, hBG, hl, f1, f2, f3, f4⟩ := R
  have hL : B.get? L = none := by
    obtain ⟨_, ⟨L', _, hf, hn', _⟩, _⟩ := f3
    obtain rfl : L = L' := Option.some.inj hf
    exact hn'
  refine noteD_next (Around.frames_deeper K.stack) f3 rfl f4 f1 f2 fun h₄ y₄ => ?_
  obtain ⟨y1, y2, y3, y4⟩ := y₄
  refine flightD (fr := none) y1 y2 y3 fun h₅ z₅ => ?_
  obtain ⟨z1, z2, z3, z4⟩ := z₅
  have hsm₅ := hsm.trans (y4.trans z4)
  obtain ⟨g₅, T₅, F₅, K₅⟩ := kts_ground K F hBG z1 hsm₅
  have X₅ : KF.In g₅ := XB.keeps K₅.stays
  have P₅ : TopRead p loose mg mb g₅ := topRead_of (TB.keeps K₅.stays)
  obtain ⟨nm, q', N, bs, bm, hdct, sn, sub, ab, col, dd, k0, k1, k2, k3, k5, newId, hC, hbase, hbT⟩ := kts_cls X₅ q
  have hC₅ := F₅.keep _ _ hC
  have hob := z3
  obtain ⟨ws, _, _, _, hoe, _⟩ := hob
  refine wpAny_handleBy_cons (codeAny_handlers_test (name_K F₅ X₅ P₅ ex ?_ hk hx hd)) (by intro q; cases q)
  refine wpAny_excMatches_sub_self hC₅ hoe rfl hbase (codeAny_handlers_suite_as ?_)
  refine flightD (fr := none) z1 z2 z3 fun h₆ u₆ => ?_
  obtain ⟨u1, u2, u3, u4⟩ := u₆
  have hsm₆ := hsm₅.trans u4
  obtain ⟨g₆, T₆, F₆, K₆⟩ := kts_ground K F hBG u1 hsm₆
  obtain ⟨vs, _, _, _, hoe₆, _⟩ := u3
  have ne₆ : g₆.get? e = none := T₆.none_ _ (kts_fresh F hBG f2 fun o ho m => by
    obtain ⟨_, o', ho', hd⟩ := K.frames.mem m
    rw [ho] at ho'
    cases ho'
    obtain ⟨sl, hs⟩ := hsm₆ _ _ (F.keep _ _ ho) hd
    rw [hoe₆] at hs
    exact hd vs (congrArg Obj.data (Option.some.inj hs)).symm)
  have N₆ : News g₆ L h₆ ((e, (⟨.ref C, some dx, .fields vs, #[]⟩ : Obj)) :: news) := fun q hq => by
    rcases List.mem_cons.mp hq with rfl | hq
    · refine ⟨hoe₆, fun z => ?_, ne₆⟩
      obtain ⟨oL, es, ep, hoL, hdL, _⟩ := F₆.ns
      have z' : e = L := z
      rw [← z', hoe₆] at hoL
      have z₂ := Option.some.inj hoL
      rw [← z₂] at hdL
      cases hdL
    · exact ⟨u1 _ _ (hl q hq).1, (fun z => by have := (hl q hq).1; rw [z, hL] at this; cases this), T₆.none_ _ (kts_none F.keep (hl q hq).2.1)⟩
  have X₆ : KF.In g₆ := XB.keeps K₆.stays
  have P₆ : Top p loose mean mg mb g₆ := TB.keeps K₆.stays
  have D₆ : KtsDicts (outer.filterMap (·.frame)) g₆ := D.turn T₆
  refine stN F₆ N₆ (fun h₇ F₇ N₇ => ?_) hk hlo
  exact k h₇ g₆ _ _ (T0.trans T₆) F₇ N₇ K₆ X₆ P₆ D₆
end

def RaisesD (E : Value → Shared → Prop) (v : Value) (s : Shared) : Prop :=
  ∃ e C T dx K, v = .ref e ∧ s.heap.get? e = some (excObj C T (some dx)) ∧ Frag.In K s.heap ∧ mroIn K C (.type "BaseException") = some true ∧ typeIn K (.ref C) = some (.type "type") ∧ E (.ref e) s
theorem raise_own {M : Model} {A : Around} {E : Value → Shared → Prop} {Q : Flow → Shared → Prop} {s : Shared} {env : Env} {x : PySem.Expr} {pos : Pos} (hh : A.handled = none) (h : wpAny M A (eval x env) (RaisesD E) E s) :
    wpAny M A (exec (.Raise (some x) none pos) env) Q E s := by
  rw [arm_exec_Raise]
  refine wpAny_bind (wpAny_standAt ?_)
  show wpAny M A (raiseStmt env (some (eval x env >>= fun v => standAt pos >>= fun _ => pure v)) none) _ _ _
  unfold raiseStmt
  refine wpAny_bind (wpAny_bind (wpAny_mono h (fun v s₁ h₁ => ?_) fun _ _ z => z))
  obtain ⟨e, C, T, dx, K, rfl, he, X, hb, ht, hE⟩ := h₁
  have Lb : Looks M s₁.heap (isSubtype (.ref C) (.type "BaseException")) true := looks_mroIn X hb
  have Lt : Looks M s₁.heap (typeOf (.ref C)) (.type "type") := looks_typeIn X ht
  obtain ⟨hp, g, d, tk, os⟩ := s₁
  refine wpAny_bind (wpAny_standAt (wpAny_pure ?_))
  unfold excFromValue raisedInstance
  repeat (first | (with_reducible refine wpAny_loadPart_at he ?_) | (with_reducible refine Looks.at Lb ?_) | (with_reducible refine Looks.at Lt ?_) | wp_step | dsimp only)
  exact wpAny_raiseNew_none hh hE

theorem ns_of_in {K : Frag} {h : Heap} {N : Addr} {mg : Str → Option Value} {n : Str} {v : Value} (X : K.In h) (G : h.Ns N mg) (e : nsIn K N n = some (some v)) : mg n = some v := by
  obtain ⟨o, es, ep, ho, hd, _, hf⟩ := G
  unfold nsIn at e
  split at e
  · rename_i c d es' n' sl q
    have z := X _ _ q
    rw [ho] at z
    cases z
    cases hd
    split at e
    · rename_i en he
      cases e
      rw [← hf]
      unfold nsFind findBy
      rw [← Array.find?_toList, he]
      rfl
    · split at e <;> cases e
  · cases e
def excMk (K : Frag) (C fI : Addr) : Bool := match K.lookup C with
  | some ⟨.type "type", _, .cls cd, sl⟩ => (match cd.mro, sl.toList with
    | .ref C' :: bm, [_, _, _, _, some (.builtin n), _] => C' == C && n == "Exception.__new__" && !cd.hasDel && bm.contains (.type "Exception") && !bm.contains (.type "AttributeError") && !bm.contains (.type "NameError") && nsOkIn K cd.ns && nsIn K cd.ns "__init__" == some (some (.ref fI)) && typeIn K (.ref fI) == some (.type "function")
    | _, _ => false)
  | _ => false

theorem exc_call_K {prog : Program} {w : World} {A : Around} {E : Value → Shared → Prop} {s : Shared} {K : Frag} {C fI : Addr} {h₀ : Heap} {L : Addr} {m : Str → Option Value} {news : List (Addr × Obj)} {rest : List Value} {Q : Value → Shared → Prop}
    (F : Fr h₀ L s.heap m) (X₀ : K.In h₀) (N : News h₀ L s.heap news) (q : excMk K C fI = true) (hrest : rest.length ≤ sizeLine)
    (hq : ∀ h' e T, Fr h₀ L h' m → News h₀ L h' ((e, excObj C T none) :: (T, tupObj rest) :: news) → T ≠ e → (∀ p ∈ news, p.1 ≠ e) →
      wpAny (model prog w) (A.under (.builtin "type.__call__" ⟨.ref C :: rest, []⟩)) (call (.ref fI) (.ref e :: rest)) (fun r s' => r = .none ∧ Q (.ref e) s') E { s with heap := h' }) :
    wpAny (model prog w) A (call (.ref C) rest) Q E s := by
  have X : K.In s.heap := X₀.keeps F.keep
  obtain ⟨hh, g, d, t, os⟩ := s
  unfold excMk at q
  split at q
  · rename_i dd cd sl ho
    split at q
    · rename_i C' bm k0 k1 k2 k3 n k5 hm hs
      simp only [Bool.and_eq_true, beq_iff_eq, Bool.not_eq_true'] at q
      obtain ⟨⟨⟨⟨⟨⟨⟨⟨rfl, rfl⟩, hdel⟩, hB⟩, hA⟩, hN⟩, hns⟩, hi⟩, hf⟩ := q
      obtain ⟨nm, bs, mro, ns, qn, hd, sn, sub, ab, col, del⟩ := cd
      dsimp only at hm hdel hns hi
      subst hm hdel
      have hsl : sl = #[k0, k1, k2, k3, some (.builtin "Exception.__new__"), k5] := by
        obtain ⟨l⟩ := sl
        simp only at hs
        rw [hs]
      subst hsl
      obtain ⟨of, hof, hfc⟩ : ∃ of, hh.get? fI = some of ∧ of.cls = .type "function" := by
        have hf' : (K.lookup fI).map (·.cls) = some (.type "function") := hf
        cases z : K.lookup fI with
        | none => rw [z] at hf'; cases hf'
        | some of => rw [z] at hf'; exact ⟨of, X _ _ z, Option.some.inj hf'⟩
      have hNs := Heap.Ns.of_isNs (isNs_of_in X hns)
      have hmN : hh.nsMap ns "__init__" = some (.ref fI) := ns_of_in X hNs hi
      refine exc_call hB hA hN (X _ _ ho) hNs hmN hof hfc (fun h' e hm => ?_) hrest
      obtain ⟨k, hnew, T, he, hT, hTo⟩ := hm
      have ne : T ≠ e := fun z => by rw [z, he] at hTo; cases hTo
      have nl : ∀ p ∈ news, p.1 ≠ e := fun p hp z => by have := (N p hp).1; rw [z, hnew] at this; cases this
      have fresh : ∀ b, hh.get? b = none → b ≠ L ∧ h₀.get? b = none := fun b hb => by
        refine ⟨fun z => ?_, ?_⟩
        · obtain ⟨oL, _, _, hoL, _⟩ := F.ns
          rw [z, hoL] at hb; cases hb
        · cases z : h₀.get? b with
          | none => rfl
          | some o => rw [F.keep _ _ z] at hb; cases hb
      refine hq h' e T (F.keeps k) (fun p hp => ?_) ne nl
      rcases List.mem_cons.mp hp with rfl | hp
      · exact ⟨he, fresh _ hnew⟩
      · rcases List.mem_cons.mp hp with rfl | hp
        · exact ⟨hTo, fresh _ hT⟩
        · exact ⟨k _ _ (N p hp).1, (N p hp).2⟩
    · cases q
  · cases q

theorem leave_first2 {M : Model} {A : Around} {E : Value → Shared → Prop} {s' : Shared} {base g : Heap} {outer : List Env} {L a e C dx T : Addr} {m : Str → Option Value} {name : Str} {scope : Scope} {cd : Value} {Q : Unit → Shared → Prop} {news : List (Addr × Obj)} {es : List DictEntry} {n : Nat}
    (K : Below A base outer g) (F : Fr g L s'.heap m) (N : News g L s'.heap ((dx, dictOf es n) :: (e, excObj C T (some dx)) :: news)) (hne : ∀ p ∈ news, p.1 ≠ e)
    (hQ : ∀ h', RaisedD base g outer e C dx ((dx, dictOf es n) :: news) h' → g.UpToSlots h' → Q () { s' with heap := h' }) (hk : scope.kind = .function := by rfl) :
    wpAny M (A.deeper (envOf name scope L a cd)) (leaving (envOf name scope L a cd) (.ref e)) Q E s' := by
  have he := N (e, _) (.tail _ (.head _))
  have hd := N (dx, _) (.head _)
  refine leave_firstD K F (news := (dx, dictOf es n) :: news) (cb_drop N (List.forall_mem_cons.mpr ⟨.head _, fun p hp => .tail _ (.tail _ hp)⟩)) he.1 he.2.1 he.2.2 (List.forall_mem_cons.mpr ⟨fun z => ?_, hne⟩) hQ hk
  have z' : dx = e := z
  have h1 := hd.1
  rw [z'] at h1
  have h2 := h1.symm.trans he.1
  have h3 := congrArg Obj.data (Option.some.inj h2)
  cases h3
theorem RaisedD.sub {base G : Heap} {l : List Env} {e C dx : Addr} {news news' : List (Addr × Obj)} {h : Heap} (R : RaisedD base G l e C dx news h) (hs : ∀ p ∈ news', p ∈ news) : RaisedD base G l e C dx news' h := by
  obtain ⟨B, a, b, c, d⟩ := R
  exact ⟨B, a, b, fun q hq => c q (hs q hq), d⟩

end
section
section
open PySem.Builtin PySem.Builtin.ObjectAttr
variable {prog : Program} {w : World} {A : Around} {E : Value → Shared → Prop} {s : Shared} {K : Frag} {x C : Addr} {ox : Obj} {od : Option Obj} {name : Str} {expr : Bool} {Q : Value → Shared → Prop} {v : Value}
theorem bga_kind : builtinKind "BaseException.__getattribute__" = some .slot := by decide +kernel
theorem bga_split : splitId "BaseException.__getattribute__" = some ("BaseException", "__getattribute__") := by decide +kernel

theorem exc_ga_code {tk : Tok} {R : Result → Shared → Prop} (X : K.In s.heap) (I : InstAt s.heap x ox C od) (hb : mroIn K C (.type "BaseException") = some true) (hf : findObj K C od name = some (.value v)) (h : R (.ok (.ret v)) s) :
    codeAny (model prog w) A (.call (.builtin "BaseException.__getattribute__") ⟨[.ref x, .str name tk], []⟩) R s := by
  have sub : Looks (model prog w) s.heap (isInstance (.ref x) (.type "BaseException")) true := I.type.andThen (looks_mroIn X hb)
  refine codeAny_call_builtin PySem.F.attr_Exception.ga.plain PySem.F.entry_bexc_ga (@check_slot (model prog w) _ _ s "BaseException.__getattribute__" "BaseException" "__getattribute__" (.ref x) [.str name tk] [] _ bga_kind bga_split sub (PySem.F.args_bexc_ga (.ref x) (.str name tk)) ?_)
  have L0 := I.type (M := model prog w)
  have L1 := looks_find (M := model prog w) X I hf
  unfold Builtin.«object.__getattribute__»
  refine wpAny_bind (wpAny_pure (wpAny_bind (wpAny_pure (wpAny_bind (L0.here (wpAny_bind (L1.here ?_)))))))
  exact wpAny_pure h

theorem exc_get (X : K.In s.heap) (I : InstAt s.heap x ox C od) (hga : findIn K (.ref C) "__getattribute__" = some (some (.builtin "BaseException.__getattribute__"))) (hgn : findIn K (.ref C) "__getattr__" = some none)
    (hb : mroIn K C (.type "BaseException") = some true) (hf : findObj K C od name = some (.value v)) (hh : handedIn v = true) (h : Q v { s with toks := s.toks + 1 }) :
    wpAny (model prog w) A (getAttr (.ref x) name expr) Q E s := by
  obtain ⟨hp, g, d, t, os⟩ := s
  have L0 := I.type (M := model prog w)
  have L1 := looks_findIn (M := model prog w) X hga
  have L2 := looks_findIn (M := model prog w) X hgn
  have hx0 : (expr && onTheHeap (Value.builtin "BaseException.__getattribute__")) = false := by cases expr <;> rfl
  have hx2 : (Value.builtin "BaseException.__getattribute__" == Value.builtin "object.__getattribute__") = false := by decide +kernel
  have hx1 : (onTheHeap (Value.ref C) && Value.builtin "BaseException.__getattribute__" == Value.builtin "object.__getattribute__") = false := by rw [hx2]; rfl
  have f3 := PySem.F.attr_Exception.ga.bind (.ref x)
  unfold getAttr getAttrBy
  refine wpAny_bind (wpAny_mkText (wpAny_holding (wpAny_bind (L0.at (wpAny_bind (L1.at ?_))))))
  dsimp only
  rw [hx1]
  show wpAny _ _ (getAttrByItsOwn _ _ _ _ _ _) _ _ _
  unfold getAttrByItsOwn hookBefore callGetattribute
  rw [hx0]
  refine wpAny_bind ?_
  rw [if_pos (by rfl)]
  refine L2.at ?_
  rw [if_neg (by decide)]
  unfold boundAndCalled
  repeat (first | assumption | wp_step)
  refine exc_ga_code (s := ⟨hp, g, d, t + 1, os⟩) X I hb hf ?_
  show wpAny _ _ (handedOut v) _ _ _
  rw [handedOut_of hh]
  exact wpAny_pure h

/-- an attribute out of an exception's own dict -/
theorem exc_own {h₀ : Heap} {L dx : Addr} {m : Str → Option Value} {vs : Array Value} {es : List DictEntry} {n : Nat} {news : List (Addr × Obj)} (F : Fr h₀ L s.heap m) (X₀ : K.In h₀) (N : News h₀ L s.heap news)
    (h1 : (x, (⟨.ref C, some dx, .fields vs, #[]⟩ : Obj)) ∈ news) (h2 : (dx, dictOf es n) ∈ news) (hga : findIn K (.ref C) "__getattribute__" = some (some (.builtin "BaseException.__getattribute__"))) (hgn : findIn K (.ref C) "__getattr__" = some none)
    (hb : mroIn K C (.type "BaseException") = some true) (hd : hasDictIn K C = true) (ha : findIn K (.ref C) name = some none) (hl : getL name es = some (some v)) (hh : handedIn v = true) (h : Q v { s with toks := s.toks + 1 }) :
    wpAny (model prog w) A (getAttr (.ref x) name expr) Q E s :=
  exc_get (X₀.keeps F.keep) (inst_exc1 N h1 h2) hga hgn hb (findObj_own hd ha rfl hl) hh h
end

end
section
section
open PySem.Builtin PySem.Builtin.Str
/-- a text's signs -/
abbrev sg (t : Str) : List Nat := t.cps.toList
theorem sg_len (t : Str) : (sg t).length = t.length := Array.length_toList
theorem sg_inj {x y : Str} (h : sg x = sg y) : x = y := by cases x; cases y; simp only [Str.mk.injEq]; exact Array.toList_inj.mp h
theorem sg_app (x y : Str) : sg (x ++ y) = sg x ++ sg y := by unfold sg; rw [Str.cps_append, Array.toList_append]
theorem getD_sg (t : Str) (k d : Nat) : t.cps.getD k d = (sg t).getD k d := by simp [sg, Array.getD_eq_getD_getElem?, List.getD_eq_getElem?_getD]
theorem item_sg {t : Str} {i : Int} (h0 : 0 ≤ i) (h1 : i < (t.length : Int)) : Txt.item t i = ⟨#[(sg t).getD i.toNat 0]⟩ := by
  unfold Txt.item Txt.charAt seqIndex?
  have c : (0 ≤ i && i < (t.length : Int)) = true := by simp [h0, h1]
  have n : ¬ i < 0 := by omega
  simp only [n, if_false, c, if_true, Option.bind_some]
  congr 2
  simp [sg, List.getD_eq_getElem?_getD]
theorem slice_at {t : Str} {a b : Nat} (hab : a ≤ b) (hb : b ≤ t.length) : sg (Txt.slice t (some (a : Int)) (some (b : Int))) = ((sg t).drop a).take (b - a) := by
  have hp := StrLaws.sliced_plain t hab hb
  unfold Txt.slice
  split
  · rename_i h
    have hl : ((strSliceIndices (some (a : Int)) (some (b : Int)) 1 t.length).length == t.length) = true := by simpa using h
    rw [StrLaws.strSliceIndices_plain hab hb, List.length_map, List.length_range] at hl
    have e : b - a = t.length := by simpa using hl
    have ea : a = 0 := by omega
    subst ea
    rw [List.drop_zero, e, List.take_of_length_le (by rw [sg_len]; exact Nat.le_refl _)]
  · exact hp
theorem slice_sg {t : Str} {i j : Int} (h0 : 0 ≤ i) (h1 : i ≤ j) (h2 : j ≤ (t.length : Int)) : sg (Txt.slice t (some i) (some j)) = ((sg t).drop i.toNat).take (j.toNat - i.toNat) := by
  have e1 : i = (i.toNat : Int) := by omega
  have e2 : j = (j.toNat : Int) := by omega
  rw [e1, e2]
  exact slice_at (by omega) (by omega)
theorem slice_none (t : Str) {i : Int} : Txt.slice t (some i) none = Txt.slice t (some i) (some (t.length : Int)) := by
  have e : strSliceIndices (some i) none 1 t.length = strSliceIndices (some i) (some (t.length : Int)) 1 t.length := by
    have h : ¬ ((t.length : Int) < 0) := by omega
    have e1 : max (0 : Int) (min (t.length : Int) (t.length : Int)) = t.length := by omega
    simp only [strSliceIndices, show ((1 : Int) > 0) = True from by simp, if_true, h, if_false, e1]
  unfold Txt.slice
  rw [e]
theorem slice_from {t : Str} {i : Int} (h0 : 0 ≤ i) (h1 : i ≤ (t.length : Int)) : sg (Txt.slice t (some i) none) = (sg t).drop i.toNat := by
  rw [slice_none, slice_sg h0 h1 (Int.le_refl _), List.take_of_length_le]
  rw [List.length_drop, sg_len]; omega
theorem fromIndex_nn {n : Nat} {i : Int} (h0 : 0 ≤ i) : fromIndex n i = i.toNat := by unfold fromIndex; rw [if_neg (by omega)]; omega
theorem not_mem_seg {l : List Nat} {c a b : Nat} (h : ∀ v, a ≤ v → v < b → l.getD v 0 ≠ c) (hb : b ≤ l.length) : c ∉ (l.drop a).take (b - a) := by
  intro hm
  obtain ⟨k, hk, e⟩ := List.getElem_of_mem hm
  rw [List.length_take, List.length_drop] at hk
  rw [List.getElem_take, List.getElem_drop] at e
  refine h (a + k) (by omega) (by omega) ?_
  rw [List.getD_eq_getElem?_getD, List.getElem?_eq_getElem (by omega), Option.getD_some, e]
theorem find_sg (t : Str) (c : Nat) {i : Int} (h0 : 0 ≤ i) (h1 : i ≤ (t.length : Int)) :
    (Txt.find3 t ⟨#[c]⟩ i = -1 ∧ c ∉ (sg t).drop i.toNat) ∨
    ∃ k : Nat, Txt.find3 t ⟨#[c]⟩ i = (k : Int) ∧ i.toNat ≤ k ∧ k < t.length ∧ (sg t).drop i.toNat = ((sg t).drop i.toNat).take (k - i.toNat) ++ c :: (sg t).drop (k + 1) ∧ c ∉ ((sg t).drop i.toNat).take (k - i.toNat) := by
  have hl := sg_len t
  rcases StrLaws.find3_spec t c i with ⟨h, hn⟩ | ⟨k, h, hlo, hk, hc, hn⟩
  · refine .inl ⟨h, ?_⟩
    rw [fromIndex_nn h0] at hn
    have := not_mem_seg (l := sg t) (c := c) (a := i.toNat) (b := t.length) (fun v h1 h2 => by rw [← getD_sg]; exact hn v h1 h2) (by omega)
    rwa [List.take_of_length_le (by rw [List.length_drop, hl]; exact Nat.le_refl _)] at this
  · rw [fromIndex_nn h0] at hlo hn
    refine .inr ⟨k, h, hlo, hk, ?_, not_mem_seg (fun v h1 h2 => by rw [← getD_sg]; exact hn v h1 h2) (by omega)⟩
    have e : (sg t).drop k = c :: (sg t).drop (k + 1) := by
      rw [List.drop_eq_getElem_cons (by omega : k < (sg t).length)]
      congr 1
      rw [getD_sg, List.getD_eq_getElem?_getD, List.getElem?_eq_getElem (by omega), Option.getD_some] at hc
      exact hc
    conv => lhs; rw [← List.take_append_drop (k - i.toNat) ((sg t).drop i.toNat)]
    rw [List.drop_drop, show i.toNat + (k - i.toNat) = k from by omega, e]
theorem join_snoc (y : Str) : ∀ ys : List Str, Str.join ⟨#[]⟩ (ys ++ [y]) = Str.join ⟨#[]⟩ ys ++ y
  | [] => by
    show y = Str.empty ++ y
    rw [Str.empty_append]
  | a :: r => by rw [List.cons_append, join_nil_cons, join_snoc y r, join_nil_cons, Str.append_assoc]
theorem strs_push {vs : List Value} {ys : List Str} {y : Str} {t : Tok} (h : StrsAre vs ys) : StrsAre (vs.toArray.push (.str y t)).toList (ys ++ [y]) := by
  rw [List.push_toArray]; exact StrsAre.append' h (.cons y t .nil)
theorem cps_one_inj {a c : Nat} (h : (⟨#[a]⟩ : Str) = ⟨#[c]⟩) : a = c := by simpa using h
theorem head_drop {l : List Nat} {k : Nat} (h : k < l.length) : (l.drop k).head? = some (l.getD k 0) := by
  rw [List.head?_drop, List.getD_eq_getElem?_getD, List.getElem?_eq_getElem h]; rfl
theorem head_none {t : Str} {k : Nat} (c : Nat) (h : ¬ (k : Int) < (t.length : Int)) : ((sg t).drop k).head? ≠ some c := by
  rw [List.drop_eq_nil_of_le (by rw [sg_len]; omega)]; exact fun e => by cases e
theorem head_item {t : Str} {k : Nat} (h : (k : Int) < (t.length : Int)) : ∃ a, Txt.item t (k : Int) = ⟨#[a]⟩ ∧ ((sg t).drop k).head? = some a :=
  ⟨(sg t).getD k 0, item_sg (Int.natCast_nonneg k) h, head_drop (by rw [sg_len]; omega)⟩
theorem head_ne {t : Str} {k c : Nat} (h : (k : Int) < (t.length : Int)) (e : (Txt.item t (k : Int) != ⟨#[c]⟩) = true) : ((sg t).drop k).head? ≠ some c := by
  obtain ⟨a, h1, h2⟩ := head_item h
  rw [h2]; intro z
  rw [h1, Option.some.inj z] at e
  simp at e
theorem head_eq {t : Str} {k c : Nat} (h : (k : Int) < (t.length : Int)) (e : (Txt.item t (k : Int) != ⟨#[c]⟩) = false) : ((sg t).drop k).head? = some c := by
  obtain ⟨a, h1, h2⟩ := head_item h
  rw [h2]
  rw [h1] at e
  have := cps_one_inj (by simpa using e : (⟨#[a]⟩ : Str) = ⟨#[c]⟩)
  rw [this]
theorem txt_join (sep : Str) (l : List Str) : Txt.join sep l = Str.join sep l := eq_of_beq (join_plain_closes sep l)
theorem join_len : ∀ l : List Str, (Str.join ⟨#[]⟩ l).length = (l.map (·.length)).sum
  | [] => rfl
  | a :: r => by rw [join_nil_cons, Str.length_append, join_len r, List.map_cons, List.sum_cons]
theorem join_got {ys : List Str} {y x : Str} (h : x = ⟨#[]⟩) : sg (Txt.join x (ys ++ [y])) = sg (Str.join ⟨#[]⟩ ys) ++ sg y := by rw [h, txt_join, join_snoc, sg_app]
theorem slice_len {t : Str} {a b : Nat} (hab : a ≤ b) (hb : b ≤ t.length) : (Txt.slice t (some (a : Int)) (some (b : Int))).length = b - a := by
  rw [← sg_len, slice_at hab hb, List.length_take, List.length_drop, sg_len]; omega
theorem slice_one {t : Str} {k : Nat} (hk : k ≤ t.length) : sg (Txt.slice t (some (k : Int)) (some ((k : Int) + 1))) = ((sg t).drop k).take 1 := by
  rcases Nat.lt_or_ge k t.length with h | h
  · have := slice_at (t := t) (a := k) (b := k + 1) (Nat.le_succ k) h
    rwa [show k + 1 - k = 1 from by omega] at this
  · have hk' : k = t.length := Nat.le_antisymm hk h
    have e : strSliceIndices (some (k : Int)) (some ((k : Int) + 1)) 1 t.length = strSliceIndices (some (k : Int)) (some (k : Int)) 1 t.length := by
      have h1 : ¬ ((k : Int) + 1 < 0) := by omega
      have h2 : ¬ ((k : Int) < 0) := by omega
      have e1 : max (0 : Int) (min ((k : Int) + 1) (t.length : Int)) = max (0 : Int) (min (k : Int) (t.length : Int)) := by omega
      simp only [strSliceIndices, show ((1 : Int) > 0) = True from by simp, if_true, h1, h2, if_false, e1]
    have : Txt.slice t (some (k : Int)) (some ((k : Int) + 1)) = Txt.slice t (some (k : Int)) (some (k : Int)) := by unfold Txt.slice; rw [e]
    rw [this, slice_at (Nat.le_refl k) hk, Nat.sub_self, List.take_zero, List.drop_eq_nil_of_le (by rw [sg_len]; omega), List.take_nil]
theorem slice_yes {t : Str} {k c : Nat} (hk : k ≤ t.length) (e : (Txt.slice t (some (k : Int)) (some ((k : Int) + 1)) == ⟨#[c]⟩) = true) : ((sg t).drop k).head? = some c := by
  have h := slice_one hk
  rw [eq_of_beq e] at h
  cases hd : (sg t).drop k with
  | nil => rw [hd] at h; cases h
  | cons a r => rw [hd] at h; cases h; rfl
theorem slice_no {t : Str} {k c : Nat} (hk : k ≤ t.length) (e : (Txt.slice t (some (k : Int)) (some ((k : Int) + 1)) == ⟨#[c]⟩) = false) : ((sg t).drop k).head? ≠ some c := by
  intro hh
  have h := slice_one hk
  cases hd : (sg t).drop k with
  | nil => rw [hd] at hh; cases hh
  | cons a r =>
    rw [hd] at hh h
    cases hh
    have : Txt.slice t (some (k : Int)) (some ((k : Int) + 1)) = ⟨#[c]⟩ := sg_inj h
    rw [this] at e
    simp at e
theorem drop_head {l : List Nat} {k c : Nat} (h : (l.drop k).head? = some c) : l.drop k = c :: l.drop (k + 1) ∧ k < l.length := by
  cases hd : l.drop k with
  | nil => rw [hd] at h; cases h
  | cons a r =>
    rw [hd] at h
    cases h
    have hk : k < l.length := by
      rcases Nat.lt_or_ge k l.length with h1 | h1
      · exact h1
      · rw [List.drop_eq_nil_of_le h1] at hd; cases hd
    refine ⟨?_, hk⟩
    rw [List.drop_eq_getElem_cons hk] at hd
    exact congrArg _ (List.tail_eq_of_cons_eq hd).symm
end

end
section
section
open PySem.Builtin PySem.Builtin.Str
theorem cut_at {u : Str} {c i : Nat} (h : StrLaws.At u ⟨#[c]⟩ u.length i) : sg u = (sg u).take i ++ c :: (sg u).drop (i + 1) := by
  have hj : (sg u)[i]? = some c := (StrLaws.subAt_one u c i).mp h
  obtain ⟨hi, e⟩ := List.getElem?_eq_some_iff.mp hj
  conv => lhs; rw [← List.take_append_drop i (sg u), List.drop_eq_getElem_cons hi, e]
theorem sub_sg (u : Str) (a b : Nat) : sg (strSub u a b) = ((sg u).drop a).take (b - a) := StrLaws.strSub_toList u a b
theorem kind_one {c : Nat} (hc : c < 256) : PySem.Builtin.Str.strKind ⟨#[c]⟩ = 1 := by
  unfold PySem.Builtin.Str.strKind
  simp [hc]
theorem split1 (u : Str) {c : Nat} (hc : c < 256) : (c ∉ sg u ∧ Txt.splitMax u ⟨#[c]⟩ 1 = [u]) ∨ ∃ p q, Txt.splitMax u ⟨#[c]⟩ 1 = [p, q] ∧ sg u = sg p ++ c :: sg q ∧ c ∉ sg p := by
  unfold Txt.splitMax
  rw [show PySem.limitOf u 1 = 1 from rfl]
  rcases StrLaws.occ_head u ⟨#[c]⟩ 1 (Nat.le_refl 1) with ⟨h0, hn⟩ | ⟨i, r, h0, hi, hn⟩
  · refine .inl ⟨fun hm => ?_, ?_⟩
    · obtain ⟨i, hi⟩ := (mem_iff_at u c).mp hm
      exact hn i hi
    · rw [h0]; simp
  · have hlen := StrLaws.occ_length_le u ⟨#[c]⟩ 0 u.length 1
    rw [h0] at hlen
    have hr : r = [] := by cases r with | nil => rfl | cons a r => simp at hlen
    subst hr
    have hi1 : i + 1 ≤ u.length := hi.1
    have h1 : (decide (u.length < (⟨#[c]⟩ : Str).length) || decide (PySem.Builtin.Str.strKind u < PySem.Builtin.Str.strKind ⟨#[c]⟩)) = false := by
      rw [kind_one hc]
      have := strKind_pos u
      have h2 : ¬ u.length < (⟨#[c]⟩ : Str).length := by show ¬ u.length < 1; omega
      have h3 : ¬ PySem.Builtin.Str.strKind u < 1 := by omega
      simp [h2, h3]
    rw [h0, h1]
    refine .inr ⟨strSub u 0 i, strSub u (i + 1) u.length, rfl, ?_, StrLaws.part_free u c 0 i (by omega) (fun k _ hk => hn k hk)⟩
    rw [sub_sg, sub_sg, List.drop_zero, Nat.sub_zero, List.take_of_length_le (l := (sg u).drop (i + 1)) (by rw [List.length_drop, sg_len]; exact Nat.le_refl _)]
    exact cut_at hi
theorem split_first (u : Str) {c : Nat} (hc : c < 256) : ∃ z r, Txt.split u ⟨#[c]⟩ = z :: r ∧ ((c ∉ sg u ∧ z = u) ∨ ∃ q, sg u = sg z ++ c :: q ∧ c ∉ sg z) := by
  have hp := split_pos u ⟨#[c]⟩
  cases hs : Txt.split u ⟨#[c]⟩ with
  | nil => rw [hs] at hp; cases hp
  | cons z r =>
    refine ⟨z, r, rfl, ?_⟩
    rcases split_head u ⟨#[c]⟩ (kind_one hc) z (by rw [hs]; rfl) with ⟨h1, hn⟩ | ⟨i, h1, hi, hn⟩
    · exact .inl ⟨fun hm => by obtain ⟨i, hi⟩ := (mem_iff_at u c).mp hm; exact hn i hi, h1⟩
    · have hi1 : i + 1 ≤ u.length := hi.1
      subst h1
      refine .inr ⟨(sg u).drop (i + 1), ?_, StrLaws.part_free u c 0 i (by omega) (fun k _ hk => hn k hk)⟩
      rw [sub_sg, List.drop_zero, Nat.sub_zero]
      exact cut_at hi
end
theorem one_of {l : List (Str × Tok)} {u : Str} (h : l.map (·.1) = [u]) : ∃ k, l = [(u, k)] := by
  match l, h with
  | [(a, k)], h => simp at h; exact ⟨k, by rw [h]⟩
theorem two_of {l : List (Str × Tok)} {u v : Str} (h : l.map (·.1) = [u, v]) : ∃ k k', l = [(u, k), (v, k')] := by
  match l, h with
  | [(a, k), (b, k')], h => simp at h; exact ⟨k, k', by rw [h.1, h.2]⟩
theorem cons_of {l : List (Str × Tok)} {u : Str} {r : List Str} (h : l.map (·.1) = u :: r) : ∃ k l', l = (u, k) :: l' ∧ l'.map (·.1) = r := by
  match l, h with
  | (a, k) :: l', h => simp at h; exact ⟨k, l', by rw [h.1], h.2⟩

end
section
def strsOf : List Value → Option (List Str)
  | [] => some []
  | .str y _ :: r => (strsOf r).map (y :: ·)
  | _ => none
theorem strsOf_are : ∀ {vs : List Value} {ys : List Str}, strsOf vs = some ys → StrsAre vs ys
  | [], ys, h => by cases h; exact .nil
  | v :: r, ys, h => by
    cases v with
    | str y t =>
      unfold strsOf at h
      cases hr : strsOf r with
      | none => rw [hr] at h; cases h
      | some zs => rw [hr] at h; cases h; exact .cons y t (strsOf_are hr)
    | _ => cases h
def tupIn (K : Frag) (a : Addr) : Option (List Str) := match K.lookup a with
  | some ⟨.type c, _, .seq its _, _⟩ => if c = "tuple" then strsOf its.toList else none
  | _ => none
theorem tupIn_at {K : Frag} {h : Heap} {a : Addr} {ys : List Str} (X : K.In h) (q : tupIn K a = some ys) : ∃ its, IsTup h a its ∧ StrsAre its.toList ys := by
  unfold tupIn at q
  split at q
  · rename_i c d its n sl ho
    split at q
    · rename_i hc
      subst hc
      exact ⟨its, ⟨_, X _ _ ho, rfl, n, rfl⟩, strsOf_are q⟩
    · cases q
  · cases q
theorem in_K_strs {prog : Program} {w : World} {A : Around} {E : Value → Shared → Prop} {s : Shared} {K : Frag} {a : Addr} {ys : List Str} {x : Str} {u : Tok} {Q : Value → Shared → Prop} {h₀ : Heap} {L : Addr} {m : Str → Option Value}
    (X : K.In h₀) (F : Fr h₀ L s.heap m) (q : tupIn K a = some ys) (h : Q (.bool (ys.any (· == x))) s) : wpAny (model prog w) A (compareOp .In (.str x u) (.ref a)) Q E s := by
  obtain ⟨its, h1, h2⟩ := tupIn_at (X.keeps F.keep) q
  exact in_tuple_strs h1 h2 h
theorem any_is (ys : List Str) (x : Str) : ys.any (· == x) = ys.contains x := by
  induction ys with
  | nil => rfl
  | cons a r ih => rw [List.any_cons, List.contains_cons, ih, Bool.beq_comm]

end
section
/-- a string's inside and its length with the closing quote, sign by sign: two quotes stand for one -/
def rs : List Nat → Option (List Nat × Nat)
  | [] => none
  | a :: r => if a = 34 then
      (match r with
        | b :: r' => if b = 34 then (rs r').map (fun p => (34 :: p.1, p.2 + 2)) else some ([], 1)
        | [] => some ([], 1))
    else (rs r).map fun p => (a :: p.1, p.2 + 1)
theorem rs_nil : rs [] = none := by rw [rs]
theorem rs_other {a : Nat} {r : List Nat} (h : a ≠ 34) : rs (a :: r) = (rs r).map fun p => (a :: p.1, p.2 + 1) := by rw [rs.eq_def]; exact if_neg h
theorem rs_qq (r : List Nat) : rs (34 :: 34 :: r) = (rs r).map fun p => (34 :: p.1, p.2 + 2) := by rw [rs]; simp
theorem rs_q {r : List Nat} (h : r.head? ≠ some 34) : rs (34 :: r) = some ([], 1) := by
  cases r with
  | nil => rw [rs]; simp
  | cons b r' => rw [rs]; simp; intro e; subst e; simp at h
theorem rs_pre {l : List Nat} : ∀ {pre : List Nat}, 34 ∉ pre → rs (pre ++ l) = (rs l).map fun p => (pre ++ p.1, p.2 + pre.length)
  | [], _ => by simp
  | a :: pre, h => by
    have h1 : a ≠ 34 := fun e => h (by rw [e]; exact .head _)
    have h2 : 34 ∉ pre := fun e => h (.tail _ e)
    rw [List.cons_append, rs_other h1, rs_pre h2, Option.map_map]
    congr 1
theorem rs_none {l : List Nat} (h : 34 ∉ l) : rs l = none := by
  have := rs_pre (l := []) h
  rwa [List.append_nil, rs_nil] at this
theorem rs_run {l : List Nat} : ∀ k : Nat, rs (List.replicate (2 * k) 34 ++ l) = (rs l).map fun p => (List.replicate k 34 ++ p.1, p.2 + 2 * k)
  | 0 => by simp
  | k + 1 => by
    rw [show 2 * (k + 1) = 2 * k + 1 + 1 from by omega, List.replicate_succ, List.replicate_succ, List.cons_append, List.cons_append, rs_qq, rs_run k, Option.map_map]
    congr 1
theorem rs_odd {l : List Nat} (k : Nat) (h : l.head? ≠ some 34) : rs (List.replicate (2 * k + 1) 34 ++ l) = some (List.replicate k 34, 2 * k + 1) := by
  rw [List.replicate_succ', List.append_assoc, rs_run, List.singleton_append, rs_q h]
  simp only [Option.map_some, List.append_nil]
  congr 2
  omega

/-- read_string at b: the inside, the place behind -/
def strRes (T : List Nat) (b : Nat) : Option (List Nat × Nat) := (rs (T.drop (b + 1))).map fun p => (p.1, b + 1 + p.2)
/-- what stands between the turns -/
def StrAt (T : List Nat) (b i : Nat) (acc : List Nat) : Prop := strRes T b = (rs (T.drop i)).map fun p => (acc ++ p.1, i + p.2)
theorem strAt_start (T : List Nat) (b : Nat) : StrAt T b (b + 1) [] := by unfold StrAt strRes; simp
theorem strAt_none {T : List Nat} {b i : Nat} {acc : List Nat} (h : StrAt T b i acc) (hn : 34 ∉ T.drop i) : strRes T b = none := by rw [h, rs_none hn]; rfl
theorem strAt_found {T : List Nat} {b i k : Nat} {acc pre : List Nat} (h : StrAt T b i acc) (hik : i ≤ k) (hp : pre.length = k - i) (e : T.drop i = pre ++ 34 :: T.drop (k + 1)) (hn : 34 ∉ pre) (hq : (T.drop (k + 1)).head? ≠ some 34) :
    strRes T b = some (acc ++ pre, k + 1) := by
  rw [h, e, rs_pre hn, rs_q hq]
  simp only [Option.map_some, List.append_nil]
  congr 2
  omega
theorem strAt_more {T : List Nat} {b i k : Nat} {acc pre : List Nat} (h : StrAt T b i acc) (hik : i ≤ k) (hp : pre.length = k - i) (e : T.drop i = pre ++ 34 :: T.drop (k + 1)) (hn : 34 ∉ pre) (hq : (T.drop (k + 1)).head? = some 34) :
    StrAt T b (k + 2) (acc ++ pre ++ [34]) := by
  have e2 : T.drop (k + 1) = 34 :: T.drop (k + 2) := by
    cases hd : T.drop (k + 1) with
    | nil => rw [hd] at hq; cases hq
    | cons a r =>
      rw [hd] at hq
      cases hq
      congr 1
      have := congrArg List.tail hd
      rwa [List.tail_drop, List.tail_cons, eq_comm] at this
  unfold StrAt
  rw [h, e, rs_pre hn, e2, rs_qq, Option.map_map, Option.map_map]
  congr 1
  funext p
  simp only [Function.comp, List.append_assoc, List.singleton_append]
  congr 1
  omega
theorem strAt_sign {T : List Nat} {b i : Nat} {acc : List Nat} (h : StrAt T b i acc) {a : Nat} (e : T.drop i = a :: T.drop (i + 1)) (hn : a ≠ 34) : StrAt T b (i + 1) (acc ++ [a]) := by
  unfold StrAt
  rw [h, e, rs_other hn, Option.map_map]
  congr 1
  funext p
  simp only [Function.comp, List.append_assoc, List.singleton_append]
  congr 1
  omega
theorem strAt_even {T : List Nat} {b i k : Nat} {acc : List Nat} (h : StrAt T b i acc) (e : T.drop i = List.replicate (2 * k) 34 ++ T.drop (i + 2 * k)) : StrAt T b (i + 2 * k) (acc ++ List.replicate k 34) := by
  unfold StrAt
  rw [h, e, rs_run, Option.map_map]
  congr 1
  funext p
  simp only [Function.comp, List.append_assoc]
  congr 1
  omega
theorem strAt_odd {T : List Nat} {b i k : Nat} {acc : List Nat} (h : StrAt T b i acc) (e : T.drop i = List.replicate (2 * k + 1) 34 ++ T.drop (i + (2 * k + 1))) (hq : (T.drop (i + (2 * k + 1))).head? ≠ some 34) :
    strRes T b = some (acc ++ List.replicate k 34, i + (2 * k + 1)) := by
  rw [h, e, rs_odd k hq]
  rfl

/-- read_quoted at b: the name and the place behind, or the place of the fault -/
inductive BarRes where
  | good (name : List Nat) (k : Nat)
  | bad (k : Nat)
def barRes (T : List Nat) (b : Nat) : BarRes :=
  let l := T.drop (b + 1)
  if 124 ∈ l then
    (let n := l.takeWhile (· != 124)
     if 92 ∈ n then .bad (b + 1 + (n.takeWhile (· != 92)).length) else .good n (b + 2 + n.length))
  else .bad b
theorem takeWhile_pre {c : Nat} : ∀ {pre r : List Nat}, c ∉ pre → (pre ++ c :: r).takeWhile (· != c) = pre
  | [], r, _ => by simp
  | a :: pre, r, h => by
    have h1 : (a != c) = true := by simp; exact fun e => h (by rw [e]; exact .head _)
    rw [List.cons_append, List.takeWhile_cons, if_pos h1, takeWhile_pre fun e => h (.tail _ e)]
theorem barRes_none {T : List Nat} {b : Nat} (h : 124 ∉ T.drop (b + 1)) : barRes T b = .bad b := by unfold barRes; exact if_neg h
theorem barRes_slash {T : List Nat} {b : Nat} {n r p q : List Nat} (h : T.drop (b + 1) = n ++ 124 :: r) (hn : 124 ∉ n) (e : n = p ++ 92 :: q) (hp : 92 ∉ p) : barRes T b = .bad (b + 1 + p.length) := by
  unfold barRes
  simp only [h, takeWhile_pre hn]
  rw [if_pos (by simp), if_pos (by rw [e]; simp), e, takeWhile_pre hp]
theorem barRes_good {T : List Nat} {b : Nat} {n r : List Nat} (h : T.drop (b + 1) = n ++ 124 :: r) (hn : 124 ∉ n) (hs : 92 ∉ n) : barRes T b = .good n (b + 2 + n.length) := by
  unfold barRes
  simp only [h, takeWhile_pre hn]
  rw [if_pos (by simp), if_neg hs]

end
section
section
variable {prog : Program} {w : World} {A : Around} {E : Value → Shared → Prop} {s : Shared} {h₀ : Heap} {L : Addr} {news : List (Addr × Obj)} {v v' : Value} {d : Dat} {Q : Value → Shared → Prop}
theorem dat_shaped {n : Nat} (hn : n ≤ 9) (hk : kqdOk n d = true) : SeqAt.shaped (kqdP d) = true := by
  have l := kqd_lay n d hk
  unfold SeqAt.shaped
  rw [l.1, Bool.true_and]
  exact decide_eq_true (Nat.le_trans l.2 (Nat.le_trans hn (by decide)))
theorem dat_eqv {n : Nat} (hk : kqdOk n d = true) : PyData.eqv (kqdP d) (kqdP d) = true := (kqd_eqv n d d n hk hk).mpr rfl
theorem dat_eq {n : Nat} (hn : n ≤ 9) (N : News h₀ L s.heap news) (Da : DatIn news v d) (Db : DatIn news v' d) (hk : kqdOk n d = true) (hu : A.units + 64 < cLine) (h : Q (.bool true) s) : wpAny (model prog w) A (compareOp .Eq v v') Q E s := by
  obtain ⟨as, ra⟩ := kqd_in N n Da hk
  obtain ⟨bs, rb⟩ := kqd_in N n Db hk
  exact eq_dataH ra rb (dat_shaped hn hk) (dat_shaped hn hk) hu (by rw [dat_eqv hk]; exact h)
theorem dat_ne {n : Nat} (hn : n ≤ 9) (N : News h₀ L s.heap news) (Da : DatIn news v d) (Db : DatIn news v' d) (hk : kqdOk n d = true) (hu : A.units + 64 < cLine) (h : Q (.bool false) s) : wpAny (model prog w) A (compareOp .NotEq v v') Q E s := by
  obtain ⟨as, ra⟩ := kqd_in N n Da hk
  obtain ⟨bs, rb⟩ := kqd_in N n Db hk
  exact ne_dataH ra rb (dat_shaped hn hk) (dat_shaped hn hk) hu (by rw [dat_eqv hk]; exact h)
end

end
section
section
variable {prog : Program} {w : World} {A : Around} {s : Shared} {h₀ : Heap} {L : Addr} {m : Str → Option Value} {env : Env}
/-- a comprehension over a range whose element changes a state -/
theorem comp_ind {elt : Expr} {x : Str} {scope : Scope} {cl : List (Str × Addr)} {P : Nat → Value → Prop} {Fin : List Value → List (Addr × Obj) → Prop} {σ : Type} (Led : σ → List (Addr × Obj)) (Inv : Nat → σ → List Value → Prop) {n : Nat}
    (step : ∀ i c ys v I oI C oC D m₂ h tk (E' : Value → Shared → Prop), i < n → Inv i c ys → P i v → LCg.NsObj oC m₂ → m₂ x = some v → Fr h₀ L h m → News h₀ L h ((I, oI) :: (C, oC) :: (D, LCg.lst ys) :: Led c) → LCg.Off3 I C D (Led c) → ((@Ne Nat I C) ∧ (@Ne Nat I D) ∧ (@Ne Nat C D)) →
      wpAny (model prog w) A (eval elt (compEnvC scope cl C env)) (LCg.CompEnd h₀ L m { s with heap := h, toks := tk } I oI C oC D (LCg.lst ys) (fun _ => True) (fun y news' => ∃ c', news' = Led c' ∧ Inv (i + 1) c' (ys ++ [y]))) E' { s with heap := h, toks := tk })
    (fin : ∀ c ys, Inv n c ys → Fin ys (Led c)) : ∀ k i c ys, i + k = n → Inv i c ys → LCg.CompRest prog w A h₀ L m env elt x scope cl s (fun _ => True) P Fin k i ys (Led c)
  | 0, i, c, ys, e, hi => LCg.CompRest.zero (by rw [Nat.add_zero] at e; subst e; exact fin c ys hi)
  | k + 1, i, c, ys, e, hi => LCg.CompRest.succ fun v I oI C oC D m₂ h tk E' hP hC hx F N off ne =>
    wpAny_mono (step i c ys v I oI C oC D m₂ h tk E' (by omega) hi hP hC hx F N off ne) (fun y s' hr => by
      obtain ⟨h', tk', news', e1, F', N', off', hS, c', e2, hi'⟩ := hr
      subst e2
      exact ⟨h', tk', _, e1, F', N', off', hS, comp_ind Led Inv step fin k (i + 1) c' (ys ++ [y]) (by omega) hi'⟩) fun _ _ z => z
end

end
section
/-- one item: a bar symbol or a string, its inside -/
abbrev Item := Bool × List Nat
def go (T : List Nat) : Nat → Nat → List Item → List Item × Int
  | 0, _, acc => (acc, -1)
  | f + 1, i, acc =>
    if i < T.length then
      (if (T.drop i).head? = some 34 then
        (match strRes T i with
          | some (c, k) => go T f k (acc ++ [(false, c)])
          | none => (acc, (i : Int)))
      else if (T.drop i).head? = some 124 then
        (match barRes T i with
          | .good c k => go T f k (acc ++ [(true, c)])
          | .bad k => (acc, (k : Int)))
      else go T f (i + 1) acc)
    else (acc, -1)
def res (T : List Nat) : List Item × Int := go T (T.length + 1) 0 []
/-- what stands between the turns -/
def GoAt (T : List Nat) (i : Nat) (acc : List Item) : Prop := ∃ f, T.length < f + i ∧ go T f i acc = res T
theorem goAt_start (T : List Nat) : GoAt T 0 [] := ⟨T.length + 1, by omega, rfl⟩
theorem goAt_open {T : List Nat} {i : Nat} {acc : List Item} (h : GoAt T i acc) (hi : i < T.length) : ∃ f, T.length < f + 1 + i ∧ go T (f + 1) i acc = res T := by
  obtain ⟨f, h1, h2⟩ := h
  cases f with
  | zero => omega
  | succ f => exact ⟨f, h1, h2⟩
theorem goAt_skip {T : List Nat} {i : Nat} {acc : List Item} (h : GoAt T i acc) (hi : i < T.length) (h1 : (T.drop i).head? ≠ some 34) (h2 : (T.drop i).head? ≠ some 124) : GoAt T (i + 1) acc := by
  obtain ⟨f, hf, e⟩ := goAt_open h hi
  refine ⟨f, by omega, ?_⟩
  rw [go, if_pos hi, if_neg h1, if_neg h2] at e
  exact e
theorem goAt_str {T : List Nat} {i k : Nat} {acc : List Item} {c : List Nat} (h : GoAt T i acc) (hi : i < T.length) (h1 : (T.drop i).head? = some 34) (hr : strRes T i = some (c, k)) (hk : i < k) : GoAt T k (acc ++ [(false, c)]) := by
  obtain ⟨f, hf, e⟩ := goAt_open h hi
  refine ⟨f, by omega, ?_⟩
  rw [go, if_pos hi, if_pos h1, hr] at e
  exact e
theorem goAt_strEnd {T : List Nat} {i : Nat} {acc : List Item} (h : GoAt T i acc) (hi : i < T.length) (h1 : (T.drop i).head? = some 34) (hr : strRes T i = none) : res T = (acc, (i : Int)) := by
  obtain ⟨f, hf, e⟩ := goAt_open h hi
  rw [go, if_pos hi, if_pos h1, hr] at e
  exact e.symm
theorem goAt_bar {T : List Nat} {i k : Nat} {acc : List Item} {c : List Nat} (h : GoAt T i acc) (hi : i < T.length) (h1 : (T.drop i).head? = some 124) (hr : barRes T i = .good c k) (hk : i < k) : GoAt T k (acc ++ [(true, c)]) := by
  obtain ⟨f, hf, e⟩ := goAt_open h hi
  refine ⟨f, by omega, ?_⟩
  have h2 : (T.drop i).head? ≠ some 34 := by rw [h1]; decide
  rw [go, if_pos hi, if_neg h2, if_pos h1, hr] at e
  exact e
theorem goAt_barEnd {T : List Nat} {i k : Nat} {acc : List Item} (h : GoAt T i acc) (hi : i < T.length) (h1 : (T.drop i).head? = some 124) (hr : barRes T i = .bad k) : res T = (acc, (k : Int)) := by
  obtain ⟨f, hf, e⟩ := goAt_open h hi
  have h2 : (T.drop i).head? ≠ some 34 := by rw [h1]; decide
  rw [go, if_pos hi, if_neg h2, if_pos h1, hr] at e
  exact e.symm
theorem goAt_end {T : List Nat} {i : Nat} {acc : List Item} (h : GoAt T i acc) (hi : ¬ i < T.length) : res T = (acc, -1) := by
  obtain ⟨f, hf, e⟩ := h
  cases f with
  | zero => exact e.symm
  | succ f => rw [go, if_neg hi] at e; exact e.symm
/-- the places go on -/
theorem rs_pos : ∀ (l : List Nat) {p : List Nat × Nat}, rs l = some p → 1 ≤ p.2 ∧ p.2 ≤ l.length
  | [], p, h => by rw [rs_nil] at h; cases h
  | a :: r, p, h => by
    by_cases ha : a = 34
    · subst ha
      by_cases hh : r.head? = some 34
      · cases r with
        | nil => cases hh
        | cons b r' =>
          cases hh
          rw [rs_qq, Option.map_eq_some_iff] at h
          obtain ⟨q, hq, rfl⟩ := h
          have := rs_pos r' hq
          simp only [List.length_cons]
          omega
      · rw [rs_q hh] at h
        cases h
        simp
    · rw [rs_other ha, Option.map_eq_some_iff] at h
      obtain ⟨q, hq, rfl⟩ := h
      have := rs_pos r hq
      simp only [List.length_cons]
      omega
theorem strRes_pos {T c : List Nat} {b k : Nat} (h : strRes T b = some (c, k)) : b < k := by
  unfold strRes at h
  rw [Option.map_eq_some_iff] at h
  obtain ⟨q, hq, e⟩ := h
  have := rs_pos _ hq
  cases e
  omega
theorem barRes_pos {T c : List Nat} {b k : Nat} (h : barRes T b = .good c k) : b < k := by
  unfold barRes at h
  dsimp only at h
  split at h
  · split at h
    · cases h
    · cases h; omega
  · cases h
/-- the signs stay good -/
theorem rs_all {P : Nat → Prop} (hq : P 34) : ∀ (l : List Nat) {p : List Nat × Nat}, (∀ a ∈ l, P a) → rs l = some p → ∀ a ∈ p.1, P a
  | [], p, _, h => by rw [rs_nil] at h; cases h
  | a :: r, p, hl, h => by
    by_cases ha : a = 34
    · subst ha
      by_cases hh : r.head? = some 34
      · cases r with
        | nil => cases hh
        | cons b r' =>
          cases hh
          rw [rs_qq, Option.map_eq_some_iff] at h
          obtain ⟨q, hq', rfl⟩ := h
          intro x hx
          rcases List.mem_cons.mp hx with rfl | hx
          · exact hq
          · exact rs_all hq r' (fun y hy => hl y (.tail _ (.tail _ hy))) hq' x hx
      · rw [rs_q hh] at h
        cases h
        exact fun _ hx => nomatch hx
    · rw [rs_other ha, Option.map_eq_some_iff] at h
      obtain ⟨q, hq', rfl⟩ := h
      intro x hx
      rcases List.mem_cons.mp hx with rfl | hx
      · exact hl _ (.head _)
      · exact rs_all hq r (fun y hy => hl y (.tail _ hy)) hq' x hx
theorem strRes_all {P : Nat → Prop} (hq : P 34) {T c : List Nat} {b k : Nat} (hT : ∀ a ∈ T, P a) (h : strRes T b = some (c, k)) : ∀ a ∈ c, P a := by
  unfold strRes at h
  rw [Option.map_eq_some_iff] at h
  obtain ⟨q, hq', e⟩ := h
  cases e
  exact rs_all hq _ (fun a ha => hT a (List.mem_of_mem_drop ha)) hq'
theorem barRes_all {P : Nat → Prop} {T c : List Nat} {b k : Nat} (hT : ∀ a ∈ T, P a) (h : barRes T b = .good c k) : ∀ a ∈ c, P a := by
  unfold barRes at h
  dsimp only at h
  split at h
  · split at h
    · cases h
    · cases h
      intro a ha
      exact hT a (List.mem_of_mem_drop ((List.takeWhile_sublist _).subset ha))
  · cases h
theorem strRes_le {T c : List Nat} {b k : Nat} (hb : b < T.length) (h : strRes T b = some (c, k)) : k ≤ T.length := by
  unfold strRes at h
  rw [Option.map_eq_some_iff] at h
  obtain ⟨q, hq, e⟩ := h
  have := rs_pos _ hq
  rw [List.length_drop] at this
  cases e
  omega
theorem barRes_le {T c : List Nat} {b k : Nat} (hb : b < T.length) (h : barRes T b = .good c k) : k ≤ T.length := by
  unfold barRes at h
  dsimp only at h
  split at h
  · rename_i hm
    split at h
    · cases h
    · cases h
      obtain ⟨p, q, e⟩ := List.append_of_mem hm
      have h1 : ((T.drop (b + 1)).takeWhile (· != 124)).length < (T.drop (b + 1)).length := by
        have h2 := (List.takeWhile_prefix (· != 124) (l := T.drop (b + 1))).length_le
        rcases Nat.lt_or_ge ((T.drop (b + 1)).takeWhile (· != 124)).length (T.drop (b + 1)).length with h3 | h3
        · exact h3
        · have h4 := (List.takeWhile_prefix (· != 124) (l := T.drop (b + 1))).eq_of_length (Nat.le_antisymm h2 h3)
          have h5 : ∀ x ∈ (T.drop (b + 1)).takeWhile (· != 124), (x != 124) = true := fun x hx => List.all_eq_true.mp List.all_takeWhile x hx
          rw [h4] at h5
          have := h5 124 hm
          simp at this
      rw [List.length_drop] at h1
      omega
  · cases h
theorem twoq_is : Str.ofString "\"|" = ⟨#[34, 124]⟩ := by decide +kernel
theorem occ_yes {t : Str} {k : Nat} (hk : (k : Int) < (t.length : Int)) (h : (Builtin.Str.occurrences (Str.ofString "\"|") (Txt.item t (k : Int)) 0 (Str.ofString "\"|").length 1).isEmpty = true) : ((sg t).drop k).head? ≠ some 34 ∧ ((sg t).drop k).head? ≠ some 124 := by
  obtain ⟨a, h1, h2⟩ := head_item hk
  have hf := StrLaws.found_one ⟨#[34, 124]⟩ a
  rw [twoq_is, h1] at h
  rw [h] at hf
  have hn : ¬ a ∈ [34, 124] := of_decide_eq_false hf.symm
  rw [h2]
  exact ⟨fun e => hn (by rw [Option.some.inj e]; simp), fun e => hn (by rw [Option.some.inj e]; simp)⟩
theorem occ_no {t : Str} {k : Nat} (hk : (k : Int) < (t.length : Int)) (h : (Builtin.Str.occurrences (Str.ofString "\"|") (Txt.item t (k : Int)) 0 (Str.ofString "\"|").length 1).isEmpty = false) : ((sg t).drop k).head? = some 34 ∨ ((sg t).drop k).head? = some 124 := by
  obtain ⟨a, h1, h2⟩ := head_item hk
  have hf := StrLaws.found_one ⟨#[34, 124]⟩ a
  rw [twoq_is, h1] at h
  rw [h] at hf
  have hn : a ∈ [34, 124] := of_decide_eq_true hf.symm
  rw [h2]
  rcases List.mem_cons.mp hn with rfl | hn
  · exact .inl rfl
  · rw [List.mem_singleton.mp hn]; exact .inr rfl
theorem item_yes {t : Str} {k c : Nat} (hk : (k : Int) < (t.length : Int)) (h : (Txt.item t (k : Int) == ⟨#[c]⟩) = true) : ((sg t).drop k).head? = some c := by
  obtain ⟨a, h1, h2⟩ := head_item hk
  rw [h1] at h
  rw [h2, cps_one_inj (eq_of_beq h)]
theorem item_no {t : Str} {k c : Nat} (hk : (k : Int) < (t.length : Int)) (h : (Txt.item t (k : Int) == ⟨#[c]⟩) = false) : ((sg t).drop k).head? ≠ some c := by
  obtain ⟨a, h1, h2⟩ := head_item hk
  rw [h2]
  intro e
  rw [h1, Option.some.inj e] at h
  simp at h

end
local macro_rules | `(tactic| k_room) => `(tactic| ktr_room)
local macro_rules | `(tactic| k_inst) => `(tactic| first | (refine' inst_exc0 ?N ?h1; (case N => k_asm); (case h1 => k_mem)) | (refine' inst_exc1 ?N ?h1 ?h2; (case N => k_asm); (case h1 => k_mem); (case h2 => k_mem)))
local macro_rules | `(tactic| walk_at "my_sub") => `(tactic| first
  | exact List.forall_mem_nil _
  | (refine' List.forall_mem_cons.mpr ⟨?a, ?b⟩; (case a => k_mem); (case b => walk_at "my_sub"))
  | exact fun _ h => h
  | (intro p hp; (repeat' (first | exact hp | refine List.Mem.tail _ ?_)); done))
local macro_rules | `(tactic| walk_at "my_and") => `(tactic| first
  | with_reducible assumption
  | (refine' And.left (b := _) ?h; with_reducible assumption)
  | (refine' And.right (a := _) ?h; with_reducible assumption)
  | (refine' And.left (b := _) (And.right (a := _) ?h); with_reducible assumption)
  | (refine' And.right (a := _) (And.right (a := _) ?h); with_reducible assumption)
  | (refine' And.left (b := _) (And.right (a := _) (And.right (a := _) ?h)); with_reducible assumption)
  | (refine' And.right (a := _) (And.right (a := _) (And.right (a := _) ?h)); with_reducible assumption)
  | (refine' And.left (b := _) (And.right (a := _) (And.right (a := _) (And.right (a := _) ?h))); with_reducible assumption)
  | (refine' And.right (a := _) (And.right (a := _) (And.right (a := _) (And.right (a := _) ?h))); with_reducible assumption)
  | (refine' And.left (b := _) (And.right (a := _) (And.right (a := _) (And.right (a := _) (And.right (a := _) ?h)))); with_reducible assumption)
  | (refine' And.right (a := _) (And.right (a := _) (And.right (a := _) (And.right (a := _) (And.right (a := _) ?h)))); with_reducible assumption)
  | (refine' And.left (b := _) (And.right (a := _) (And.right (a := _) (And.right (a := _) (And.right (a := _) (And.right (a := _) ?h))))); with_reducible assumption)
  | (refine' And.right (a := _) (And.right (a := _) (And.right (a := _) (And.right (a := _) (And.right (a := _) (And.right (a := _) ?h))))); with_reducible assumption)
  | (refine' And.left (b := _) (And.right (a := _) (And.right (a := _) (And.right (a := _) (And.right (a := _) (And.right (a := _) (And.right (a := _) ?h)))))); with_reducible assumption)
  | (refine' And.right (a := _) (And.right (a := _) (And.right (a := _) (And.right (a := _) (And.right (a := _) (And.right (a := _) (And.right (a := _) ?h)))))); with_reducible assumption)
  | (refine' And.left (b := _) (And.right (a := _) (And.right (a := _) (And.right (a := _) (And.right (a := _) (And.right (a := _) (And.right (a := _) (And.right (a := _) ?h))))))); with_reducible assumption)
  | (refine' And.right (a := _) (And.right (a := _) (And.right (a := _) (And.right (a := _) (And.right (a := _) (And.right (a := _) (And.right (a := _) (And.right (a := _) ?h))))))); with_reducible assumption)
  | (refine' And.left (b := _) (And.right (a := _) (And.right (a := _) (And.right (a := _) (And.right (a := _) (And.right (a := _) (And.right (a := _) (And.right (a := _) (And.right (a := _) ?h)))))))); with_reducible assumption)
  | (refine' And.right (a := _) (And.right (a := _) (And.right (a := _) (And.right (a := _) (And.right (a := _) (And.right (a := _) (And.right (a := _) (And.right (a := _) (And.right (a := _) ?h)))))))); with_reducible assumption))
local macro_rules | `(tactic| k_mem) => `(tactic| with_reducible assumption)
local macro_rules | `(tactic| k_all) => `(tactic| first | with_reducible assumption | (refine allLt_ne ?_; walk_at "my_and"))
local macro_rules | `(tactic| walk_at "subscriptTail") => `(tactic| ((with_reducible show wpAny _ _ (subscriptTail _ _ (Value.str _ _) (Value.int _ _)) _ _ _); (refine item_str (fitsSsize_of (N := 9223372036854775808) (by omega) (by omega) (Int.le_refl _)) (by omega) (by omega) ?_); intro _))
local macro_rules | `(tactic| walk_at "exec While Constant cons nil") => `(tactic| refine stop_of ?_)
local macro_rules | `(tactic| walk_at "exec While Compare cons nil") => `(tactic| refine stop_of ?_)
local macro_rules | `(tactic| walk_at "exec While BoolOp cons nil") => `(tactic| refine stop_of ?_)
local macro_rules | `(tactic| walk_at "KswEnd") => `(tactic| refine stop_of ?_)
local macro_rules | `(tactic| walk_at "exec Raise some none") => `(tactic| ((with_reducible show wpAny _ _ (exec (Stmt.Raise (some (Expr.Call (Expr.Name ("SyntaxFault" : Str) _) _ _ _)) none _) _) _ _ _); refine raise_own rfl ?_))
local macro_rules | `(tactic| walk_at "my_room") => `(tactic| first | omega | ((try simp only [depth_under_make, depth_under_kw, depth_in1, depth_deeper, depth_caller, units_in1, units_deeper, Around.mark_units, units_caller] at *); (try dsimp only [ktrTop] at *); omega))
local macro_rules | `(tactic| walk_at "my_kind") => `(tactic| first | assumption | exact rfl)
local macro_rules | `(tactic| walk_at "RaisesD") => `(tactic| ((rename Fr _ _ _ _ => kF); (rename News _ _ _ _ => kN); refine' ⟨_, 76, _, _, _, rfl, (kN _ (.tail _ (.head _))).1, Frag.In.keeps ?m0 kF.keep, ?m1, ?m2, ?_⟩; (case m0 => k_asm); (case m1 => k_is); (case m2 => k_is)))
local macro_rules | `(tactic| walk_at "leaving ref") => `(tactic| (refine' leave_first2 ?k1 ?k2 ?k3 ?k4 ?_; (case k1 => k_asm); (case k2 => k_asm); (case k3 => k_asm); (case k4 => assumption); intro h' R' U'; (try dsimp only at R' U' ⊢)))
local macro_rules | `(tactic| walk_at "my_lts") => `(tactic| first
  | assumption
  | ((with_reducible rename _ ∧ AllLt _ _ => l9); first | exact allLt_mem l9 | exact allLt_mem l9.2 | exact allLt_mem l9.2.2 | exact allLt_mem l9.2.2.2 | exact List.forall_mem_cons.mpr ⟨l9.1, allLt_mem l9.2.2⟩ | exact List.forall_mem_cons.mpr ⟨l9.1, List.forall_mem_cons.mpr ⟨l9.2.1, allLt_mem l9.2.2.2⟩⟩)
  | ((with_reducible rename _ ∧ _ ∧ AllLt _ _ => l9); first | exact allLt_mem l9 | exact allLt_mem l9.2 | exact allLt_mem l9.2.2 | exact allLt_mem l9.2.2.2 | exact List.forall_mem_cons.mpr ⟨l9.1, allLt_mem l9.2.2⟩ | exact List.forall_mem_cons.mpr ⟨l9.1, List.forall_mem_cons.mpr ⟨l9.2.1, allLt_mem l9.2.2.2⟩⟩)
  | ((with_reducible rename _ ∧ _ ∧ _ ∧ AllLt _ _ => l9); first | exact allLt_mem l9 | exact allLt_mem l9.2 | exact allLt_mem l9.2.2 | exact allLt_mem l9.2.2.2 | exact List.forall_mem_cons.mpr ⟨l9.1, allLt_mem l9.2.2⟩ | exact List.forall_mem_cons.mpr ⟨l9.1, List.forall_mem_cons.mpr ⟨l9.2.1, allLt_mem l9.2.2.2⟩⟩)
  | ((with_reducible rename _ ∧ _ ∧ _ ∧ _ ∧ AllLt _ _ => l9); first | exact allLt_mem l9 | exact allLt_mem l9.2 | exact allLt_mem l9.2.2 | exact allLt_mem l9.2.2.2 | exact List.forall_mem_cons.mpr ⟨l9.1, allLt_mem l9.2.2⟩ | exact List.forall_mem_cons.mpr ⟨l9.1, List.forall_mem_cons.mpr ⟨l9.2.1, allLt_mem l9.2.2.2⟩⟩))
local macro_rules | `(tactic| walk_at "leaving ref") => `(tactic| (k_dflt (refine' leave_onD ?k1 ?k2 ?k3 ?k4 ?_; (case k3 => assumption); (case k1 => k_asm); (case k2 => k_asm); (case k4 => assumption)); intro h' R' U'; (try dsimp only at R' U' ⊢)))
local macro_rules | `(tactic| walk_at "my_same") => `(tactic| (intro z h2 h3; first
  | ((simp only [List.forall_mem_cons, List.not_mem_nil, false_implies, implies_true, and_true, ne_eq] at h2); (simp only [List.contains_cons, List.contains_nil, Bool.or_false, Bool.or_eq_false_iff, beq_eq_false_iff_ne, ne_eq] at h3); (simp [kstB, h2, h3]; done))
  | ((simp only [List.forall_mem_cons, List.not_mem_nil, false_implies, implies_true, and_true, ne_eq] at h2); (simp [kstB, h2]; done))
  | ((simp only [List.contains_cons, List.contains_nil, Bool.or_false, Bool.or_eq_false_iff, beq_eq_false_iff_ne, ne_eq] at h3); (simp [kstB, h3]; done))))
local macro_rules | `(tactic| walk_at "my_same3") => `(tactic| (intro z h1 h2 h3; have h4 := h3; first
  | ((simp only [List.forall_mem_cons, List.not_mem_nil, false_implies, implies_true, and_true, ne_eq] at h2); (simp only [List.contains_cons, List.contains_nil, Bool.or_false, Bool.or_eq_false_iff, beq_eq_false_iff_ne, ne_eq] at h4); (simp [kstB, h1, h2, h3, h4]; done))
  | ((simp only [List.forall_mem_cons, List.not_mem_nil, false_implies, implies_true, and_true, ne_eq] at h2); (simp [kstB, h1, h2]; done))
  | ((simp only [List.contains_cons, List.contains_nil, Bool.or_false, Bool.or_eq_false_iff, beq_eq_false_iff_ne, ne_eq] at h4); (simp [kstB, h1, h3, h4]; done))))
section
theorem init_x {w : World} {mean : ExcName → Option Value} {mg mb : Str → Option Value} (dp un : Nat) (gd : Option (List Code)) (cn : Str) (cs : Scope) (a : Addr) (ccd : Value) (cl : List (Str × Addr)) (outer : List Env) (A₀ : Around) (base h₀ : Heap) (L : Addr) (m : Str → Option Value) (s : Shared) (Q E : Value → Shared → Prop)
   (e t0 : Addr) (t1 t2 : Tok) (t : Str) (i : Int) (rest : List (Addr × Obj))
   (B : Below A₀ base outer h₀) (F : Fr h₀ L s.heap m) (X : (hd.heap_39 w.params).In h₀) (N : News h₀ L s.heap ((e, excObj 76 t0 none) :: (t0, tupObj [.str t t1, .int i t2]) :: rest))
   (T : Top hd.view_39 (looseW hd.view_39 [Str.ofString "SIMPLE"]) mean mg mb h₀) (hcs : cs.kind = .function) (hdp : dp + 10 < recursionLimit) (hun : un + 100 < cLine)
   (hne : t0 ≠ e) (hre : ∀ p ∈ rest, p.1 ≠ e)
   (ret : ∀ dx t0' k1 k2 h' tk', Fr h₀ L h' m → News h₀ L h' ((dx, dictOf [⟨PyData.keyHash w.params "what", .str "what" k1, .str t t1⟩, ⟨PyData.keyHash w.params "spot", .str "spot" k2, .int i t2⟩] 2) :: (e, excObj 76 t0' (some dx)) :: rest) → Q .none { s with heap := h', toks := tk' }) :
   wpAny (model Challenge.rw_qz0006_02.row.prog w) (ktrTop dp un gd cn cs L a ccd cl outer) (call (.ref 66) [.ref e, .str t t1, .int i t2]) Q E s := by
  w_top off
  revert X; k_fill; intro X
  refine wpAny_call ?_
  (refine' ks_code_super ?k1 ?k2 ?k3 ?k4 ?k5 ?kA ?kF ?kK ?k6 ?k7 ?k8 ?k9 ?kB ?_ ?c1 ?c2 ?c3 ?c4; (case kA => exact rfl); (case kF => exact rfl); (case kK => assumption); (case k1 => k_asm); (case k2 => k_asm); (case k3 => k_asm); (case k4 => k_asm); (case k5 => k_asm); (case k6 => k_is); (case k7 => k_is); (case k8 => ktr_room); (case k9 => exact BindsTo.of_eq rfl); (case kB => exact locs rfl); (case c1 => decide); (case c2 => exact rfl); (case c3 => exact rfl); (case c4 => exact rfl); intro g' L' h' FG' F' N' B' X' T' l1; (try k_lt l1); (try dsimp only); (try k_lift B'))
  k_steps
  (refine' sup_method_N ?k1 ?k2 ?k3 ?k4 ?k5 ?k6 ?k7 ?k8 ?k9 ?_; (case k1 => k_asm); (case k2 => k_asm); (case k3 => k_asm); (case k4 => k_mem); (case k5 => k_mem); (case k6 => rfl); (case k7 => k_is); (case k8 => ks_is); (case k9 => k_is))
  intro q1 h1 F1 N1 l2
  k_steps
  refine' mw_with (x := e) ?_
  k_steps
  · exact (N1 _ (.head _)).1
  k_lt l2
  refine' mw_call_N (pre := [(q1, mwObj e)]) (post := rest) (T := t0) (dx := none) F1 (by assumption) (cb_drop N1 (by walk_at "my_sub")) (.head _) (by k_all) hre ?k1 ?k2 (by size_fits) ?_; (case k1 => k_is); (case k2 => k_is)
  intro T1 h2 F2 N2 l3
  k_steps
  refine' set_first (pre := []) (post := rest) F2 (by assumption) (cb_drop N2 (by walk_at "my_sub")) ?k1 ?k2 ?k3 (List.forall_mem_nil _) hre ?_; (case k1 => k_is); (case k2 => kernel_rfl); (case k3 => k_is)
  intro dx h3 F3 N3 l4
  k_steps
  rename Fr _ _ _ _ => F4
  rename News _ _ _ _ => N4
  refine' set_next (x := e) (pre := []) (post := (e, excObj 76 T1 (some dx)) :: rest) F4 (by assumption) (cb_drop N4 (by walk_at "my_sub")) (.tail _ (.head _)) ?k1 ?k2 ?k3 (List.forall_mem_nil _) (List.forall_mem_cons.mpr ⟨Nat.ne_of_lt (l4 (e, excObj 76 T1 none) (.head _)), fun p hp => Nat.ne_of_lt (l4 p (.tail _ hp))⟩) rfl (es' := [⟨PyData.keyHash w.params "what", .str "what" _, .str t t1⟩, ⟨PyData.keyHash w.params "spot", .str "spot" _, .int i t2⟩]) (n := 2) ?k5 ?k6 ?_; (case k1 => k_is); (case k2 => kernel_rfl); (case k3 => k_is); (case k5 => rfl); (case k6 => exact Nat.le_of_ble_eq_true rfl)
  intro h5 F5 N5
  k_steps
  rename Fr _ _ _ _ => F6
  rename News _ _ _ _ => N6
  exact ret _ _ _ _ _ _ F6 N6

theorem fault_call {w : World} {mean : ExcName → Option Value} {mg mb : Str → Option Value} {dp un : Nat} {gd : Option (List Code)} {cn : Str} {cs : Scope} {a : Addr} {ccd : Value} {cl : List (Str × Addr)} {outer : List Env} {A₀ : Around} {base h₀ : Heap} {L : Addr} {m : Str → Option Value} {s : Shared} {Q E : Value → Shared → Prop}
   {t1 t2 : Tok} {t : Str} {i : Int} {news : List (Addr × Obj)}
   (B : Below A₀ base outer h₀) (F : Fr h₀ L s.heap m) (X : (hd.heap_39 w.params).In h₀) (N : News h₀ L s.heap news)
   (T : Top hd.view_39 (looseW hd.view_39 [Str.ofString "SIMPLE"]) mean mg mb h₀) (hcs : cs.kind = .function) (hdp : dp + 20 < recursionLimit) (hun : un + 200 < cLine)
   (ret : ∀ e T dx k1 k2 h' tk', Fr h₀ L h' m → News h₀ L h' ((dx, dictOf [⟨PyData.keyHash w.params "what", .str "what" k1, .str t t1⟩, ⟨PyData.keyHash w.params "spot", .str "spot" k2, .int i t2⟩] 2) :: (e, excObj 76 T (some dx)) :: news) → (∀ p ∈ news, p.1 ≠ e) → Q (.ref e) { s with heap := h', toks := tk' }) :
   wpAny (model Challenge.rw_qz0006_02.row.prog w) (ktrTop dp un gd cn cs L a ccd cl outer) (call (.ref 76) [.str t t1, .int i t2]) Q E s := by
  w_top off
  refine exc_call_K (K := hd.heap_39 w.params) (fI := 66) F X N (by kernel_rfl) (by size_fits) fun h' e T0 F1 N1 hne hre => ?_
  refine init_x (dp + 1) _ _ cn cs a ccd cl outer A₀ base h₀ L m { s with heap := h' } _ _ e T0 t1 t2 t i news B F1 X N1 T hcs (by omega) ?_ hne hre fun dx T1 k1 k2 h2 tk2 F2 N2 => ⟨rfl, ret e T1 dx k1 k2 h2 tk2 F2 N2 hre⟩
  show un + _ + 100 < cLine
  have : (Code.builtin "type.__call__" ⟨[.ref 76, .str t t1, .int i t2], []⟩).cUnits ≤ 50 := Nat.le_of_ble_eq_true rfl
  omega

end
section
local macro_rules | `(tactic| walk_at "call ref") => `(tactic| ((with_reducible show wpAny _ _ (call (Value.ref 76) [Value.str _ _, Value.int _ _]) _ _ _); (refine' fault_call ?k1 ?k2 ?k3 ?k4 ?k5 ?k6 ?k7 ?k8 ?_; (case k1 => k_asm); (case k2 => k_asm); (case k3 => k_asm); (case k4 => k_asm); (case k5 => k_asm); (case k6 => walk_at "my_kind"); (case k7 => walk_at "my_room"); (case k8 => walk_at "my_room")); intro e' T' dx' k3' k4' h' tk' F' N' l1; (try k_sweep)))
/-- the scanner's dict -/
abbrev scD (w : World) (k1 k2 t1 t2 : Tok) (t : Str) (i : Int) : Obj := dictOf [⟨PyData.keyHash w.params "text", .str "text" k1, .str t t1⟩, ⟨PyData.keyHash w.params "spot", .str "spot" k2, .int i t2⟩] 2
def signAt (t : Str) (i : Int) : Str := if i < (t.length : Int) then Txt.item t i else Str.ofString ""

theorem sign_call {w : World} {mean : ExcName → Option Value} {mg mb : Str → Option Value} {dp un : Nat} {gd : Option (List Code)} {cn : Str} {cs : Scope} {a : Addr} {ccd : Value} {cl : List (Str × Addr)} {outer : List Env} {A₀ : Around} {base h₀ : Heap} {L : Addr} {m : Str → Option Value} {s : Shared} {Q E : Value → Shared → Prop} {x dx : Addr} {k1 k2 t1 t2 : Tok} {t : Str} {i : Int} {news : List (Addr × Obj)} (B : Below A₀ base outer h₀) (F : Fr h₀ L s.heap m) (X : (hd.heap_39 w.params).In h₀) (T : Top hd.view_39 (looseW hd.view_39 [Str.ofString "SIMPLE"]) mean mg mb h₀) (hcs : cs.kind = .function) (N : News h₀ L s.heap news) (hdp : dp + 1 < recursionLimit) (hun : un + 8 < cLine)
   (hx : (x, instObj 201 dx) ∈ news) (hdx : (dx, scD w k1 k2 t1 t2 t i) ∈ news) (hi : 0 ≤ i) (hl : t.length ≤ 2000)
   (ret : ∀ v tk h' tk', v = signAt t i → Fr h₀ L h' m → News h₀ L h' news → Q (.str v tk) { s with heap := h', toks := tk' }) :
   wpAny (model Challenge.rw_qz0006_02.row.prog w) (ktrTop dp un gd cn cs L a ccd cl outer) (call (.ref 135) [.ref x]) Q E s := by
  w_top off
  revert X; k_fill; intro X; refine wpAny_call ?_; k_dflt cell_enter
  k_steps
  all_goals (rename Fr _ _ _ _ => kF; rename News _ _ _ _ => kN)
  · exact ret _ _ _ _ (if_pos (by assumption)).symm kF kN
  · exact ret _ _ _ _ (if_neg (by assumption)).symm kF kN

end
section
local macro_rules | `(tactic| walk_at "my_pad0") => `(tactic| skip)
local macro_rules | `(tactic| walk_at "call ref") => `(tactic| ((with_reducible show wpAny _ _ (call (Value.ref 76) [Value.str _ _, Value.int _ _]) _ _ _); (refine' fault_call ?k1 ?k2 ?k3 ?k4 ?k5 ?k6 ?k7 ?k8 ?_; (case k1 => k_asm); (case k2 => k_asm); (case k3 => k_asm); (case k4 => k_asm); (case k5 => k_asm); (case k6 => walk_at "my_kind"); (case k7 => walk_at "my_room"); (case k8 => walk_at "my_room")); intro e' T' dx' k3' k4' h' tk' F' N' l1; (try k_sweep)))
abbrev faultD (w : World) (k1 k2 : Tok) (z : Str) (kz : Tok) (i : Int) (ti : Tok) : Obj := dictOf [⟨PyData.keyHash w.params "what", .str "what" k1, .str z kz⟩, ⟨PyData.keyHash w.params "spot", .str "spot" k2, .int i ti⟩] 2
theorem quote_len : (Str.ofString "\"").length = 1 := by decide +kernel
theorem empty_len : (Str.ofString "").length = 0 := by decide +kernel
theorem quote_is : Str.ofString "\"" = ⟨#[34]⟩ := by decide +kernel
local macro_rules | `(tactic| walk_at "call builtin:list.append") => `(tactic| ((rename Fr _ _ _ _ => kF); (rename News _ _ _ _ => kN); (refine' append_K kF kN (by k_upd) ?_ (by (simp only [sizeLine_eq, List.size_toArray, Array.size_push]; omega)); k_whole); (intro h' kF' kN'); (try k_sweep)))

theorem read_string_call {w : World} {mean : ExcName → Option Value} {mg mb : Str → Option Value} {dp un : Nat} {gd : Option (List Code)} {cn : Str} {cs : Scope} {a : Addr} {ccd : Value} {cl : List (Str × Addr)} {outer : List Env} {A₀ : Around} {base h₀ : Heap} {L : Addr} {m : Str → Option Value} {s : Shared} {Q E : Value → Shared → Prop} {x dx : Addr} {k1 k2 t1 t2 : Tok} {t : Str} {b : Nat} {rest : List (Addr × Obj)} (B : Below A₀ base outer h₀) (F : Fr h₀ L s.heap m) (X : (hd.heap_39 w.params).In h₀) (T : Top hd.view_39 (looseW hd.view_39 [Str.ofString "SIMPLE"]) mean mg mb h₀) (hcs : cs.kind = .function) (hdp : dp + 40 < recursionLimit) (hun : un + 400 < cLine)
   (N : News h₀ L s.heap ((x, instObj 201 dx) :: (dx, scD w k1 k2 t1 t2 t (b : Int)) :: rest)) (hxd : x ≠ dx) (hrd : ∀ p ∈ rest, p.1 ≠ dx) (hbl : b < t.length) (hl : t.length ≤ 2000)
   (ret : ∀ c k r y k3 k4 t3 h' tk', strRes (sg t) b = some (c, k) → k ≤ t.length → sg y = c → Fr h₀ L h' m → News h₀ L h' ((r, tupObj [.str "str" k3, .str y k4]) :: (x, instObj 201 dx) :: (dx, scD w k1 k2 t1 t3 t (k : Int)) :: rest) →
     (∀ p ∈ (x, instObj 201 dx) :: (dx, scD w k1 k2 t1 t3 t (k : Int)) :: rest, p.1 < r) → Q (.ref r) { s with heap := h', toks := tk' })
   (exc : ∀ e dxe k3 k4 z kz ti t3 i' G h' tk', strRes (sg t) b = none → Fr h₀ L G m → RaisedD base G (envX cn cs L a ccd cl :: outer) e 76 dxe ((dxe, faultD w k3 k4 z kz (b : Int) ti) :: (x, instObj 201 dx) :: (dx, scD w k1 k2 t1 t3 t i') :: rest) h' → G.UpToSlots h' → E (.ref e) { s with heap := h', toks := tk' }) :
   wpAny (model Challenge.rw_qz0006_02.row.prog w) (ktrTop dp un gd cn cs L a ccd cl outer) (call (.ref 163) [.ref x]) Q E s := by
  w_top off
  revert X; k_fill; intro X; refine wpAny_call ?_; k_dflt cell_enter
  have hi : (0 : Int) ≤ (b : Int) := Int.natCast_nonneg b
  have hil : (b : Int) < (t.length : Int) := by omega
  k_steps
  unfold Stop
  rename News _ _ _ _ => N1
  rename Fr _ _ _ _ => F1
  rename_i l' _ _ _ _
  refine' ksw_while (σ := Nat × List Value × List Str × Nat × Tok) (fun c => (l', listOf c.2.1.toArray c.2.2.2.1) :: (x, instObj 201 dx) :: (dx, scD w k1 k2 t1 c.2.2.2.2 t (c.1 : Int)) :: rest) (fun _ => []) (fun _ => True) ["quote"]
    (fun c => StrAt (sg t) b c.1 (sg (Str.join ⟨#[]⟩ c.2.2.1)) ∧ b + 1 ≤ c.1 ∧ c.1 ≤ t.length ∧ StrsAre c.2.1 c.2.2.1 ∧ (c.2.2.1.map (·.length)).sum ≤ c.1 ∧ c.2.2.1.length ≤ c.1) (fun c => t.length + 2 - c.1) (b + 1, [], [], 0, _) F1 ?n0 trivial (List.forall_mem_nil _) ?p0 ?turn ?own
  case n0 => exact N1
  case p0 => exact ⟨strAt_start _ _, Nat.le_refl _, hbl, .nil, Nat.zero_le _, Nat.zero_le _⟩
  case turn =>
    intro c u h tk _ hP F2 N2
    obtain ⟨ci, vs, ys, n, ti⟩ := c
    obtain ⟨p1, p2, p3, p4, p5, p6⟩ := hP
    dsimp only at *
    have hvs : vs.length ≤ 2000 := by rw [p4.len_eq]; omega
    have hci : (0 : Int) ≤ (ci : Int) := Int.natCast_nonneg ci
    have hfs := find_sg t 34 hci (by omega)
    rw [← quote_is, Int.toNat_natCast] at hfs
    k_steps
    all_goals (rename Fr _ _ _ _ => kF; rename News _ _ _ _ => kN)
    · rcases hfs with ⟨hfs, hn⟩ | ⟨k, hfs, _⟩
      · rename RaisedD _ _ _ _ _ _ _ _ => hR
        refine' exc _ _ _ _ _ _ _ _ _ _ _ _ (strAt_none p1 hn) ?a (hR.sub ?b) (by assumption)
        (case b => walk_at "my_sub")
        (case a => k_asm)
      · omega
    · rcases hfs with ⟨hfs, hn⟩ | ⟨k, hfs, h1, h2, h3, h4⟩
      · omega
      · rename (_ != _) = true => hq
        rename (_ : Int) + 1 < _ => hk1
        rw [hfs] at kN hq hk1
        have hsl := slice_len h1 (Nat.le_of_lt h2)
        refine join_list (News.isList kN (.head _)) (strs_push p4) (by simp only [List.map_append, List.sum_append, List.map_cons, List.map_nil, List.sum_cons, List.sum_nil, hsl, empty_len, Nat.mul_zero]; omega) ?_
        intro t5 k5
        k_steps
        rename Fr _ _ _ _ => kF
        rename News _ _ _ _ => kN
        refine' ret _ (k + 1) _ _ _ _ _ _ _ (strAt_found p1 h1 ?a1 h3 h4 (head_ne hk1 hq)) h2 ?a2 kF (cb_drop kN ?a3) ?a4
        (case a3 => walk_at "my_sub")
        (case a1 => (rw [List.length_take, List.length_drop, sg_len]; omega))
        (case a2 => rw [join_got (by decide +kernel), slice_at h1 (Nat.le_of_lt h2)])
        walk_at "my_lts"
    · rcases hfs with ⟨hfs, hn⟩ | ⟨k, hfs, h1, h2, h3, h4⟩
      · omega
      · rename (_ != _) = false => hq
        rename (_ : Int) + 1 < _ => hk1
        rw [hfs] at kN hq hk1
        have hsl := slice_len h1 (Nat.le_of_lt h2)
        simp only [List.push_toArray] at kN
        refine' ksw_end (k + 2, _, ?ys, _, _) kF kN ?b1 trivial (List.forall_mem_nil _) ?b2 ?b3 ?b4
        (case b1 => walk_at "my_sub")
        case b2 =>
          intro z _ h3'
          have hz : z ≠ Str.ofString "quote" := fun e => by rw [e] at h3'; revert h3'; decide +kernel
          rw [if_neg hz]
          show (if _ then _ else _) = _
          rw [h3']
          rfl
        case ys => exact ys ++ [Txt.slice t (some ci) (some k)] ++ [Str.ofString "\""]
        case b3 =>
          dsimp only
          refine ⟨?_, by omega, by omega, StrsAre.append' (StrsAre.append' p4 (.cons _ _ .nil)) (.cons _ _ .nil), ?_, ?_⟩
          · rw [join_snoc, join_snoc, sg_app, sg_app, slice_at h1 (Nat.le_of_lt h2), quote_is]
            exact strAt_more p1 h1 (by rw [List.length_take, List.length_drop, sg_len]; omega) h3 h4 (head_eq hk1 (by rw [← quote_is]; exact hq))
          · simp only [List.map_append, List.sum_append, List.map_cons, List.map_nil, List.sum_cons, List.sum_nil, hsl, quote_len]; omega
          · simp only [List.length_append, List.length_cons, List.length_nil]; omega
        case b4 => dsimp only; omega
    · rcases hfs with ⟨hfs, hn⟩ | ⟨k, hfs, h1, h2, h3, h4⟩
      · omega
      · rename ¬ ((_ : Int) + 1 < _) => hk1
        rw [hfs] at kN hk1
        have hsl := slice_len h1 (Nat.le_of_lt h2)
        refine join_list (News.isList kN (.head _)) (strs_push p4) (by simp only [List.map_append, List.sum_append, List.map_cons, List.map_nil, List.sum_cons, List.sum_nil, hsl, empty_len, Nat.mul_zero]; omega) ?_
        intro t5 k5
        k_steps
        rename Fr _ _ _ _ => kF
        rename News _ _ _ _ => kN
        refine' ret _ (k + 1) _ _ _ _ _ _ _ (strAt_found p1 h1 ?c1 h3 h4 (head_none 34 hk1)) h2 ?c2 kF (cb_drop kN ?c3) ?c4
        (case c3 => walk_at "my_sub")
        (case c1 => (rw [List.length_take, List.length_drop, sg_len]; omega))
        (case c2 => rw [join_got (by decide +kernel), slice_at h1 (Nat.le_of_lt h2)])
        walk_at "my_lts"
  case own => passes_own

end
section
local macro_rules | `(tactic| walk_at "my_pad0") => `(tactic| skip)
local macro_rules | `(tactic| walk_at "my_pad1") => `(tactic| skip)
local macro_rules | `(tactic| walk_at "my_pad2") => `(tactic| skip)
local macro_rules | `(tactic| walk_at "call ref") => `(tactic| ((with_reducible show wpAny _ _ (call (Value.ref 76) [Value.str _ _, Value.int _ _]) _ _ _); (refine' fault_call ?k1 ?k2 ?k3 ?k4 ?k5 ?k6 ?k7 ?k8 ?_; (case k1 => k_asm); (case k2 => k_asm); (case k3 => k_asm); (case k4 => k_asm); (case k5 => k_asm); (case k6 => walk_at "my_kind"); (case k7 => walk_at "my_room"); (case k8 => walk_at "my_room")); intro e' T' dx' k3' k4' h' tk' F' N' l1; (try k_sweep)))
theorem bar_is : Str.ofString "|" = ⟨#[124]⟩ := by decide +kernel
theorem min_sub {b k n : Nat} (h1 : b + 1 ≤ k) (h2 : k < n) : b + 2 + min (k - (b + 1)) (n - (b + 1)) = k + 1 := by omega
theorem slash_is : Str.ofString "\\" = ⟨#[92]⟩ := by decide +kernel
def reserved : List Str := [Str.ofString "!", Str.ofString "_", Str.ofString "as", Str.ofString "BINARY", Str.ofString "DECIMAL", Str.ofString "exists", Str.ofString "forall", Str.ofString "HEXADECIMAL", Str.ofString "let", Str.ofString "match", Str.ofString "NUMERAL", Str.ofString "par", Str.ofString "STRING"]
def told (n : Str) : Str := if reserved.contains n then Str.ofString "|" ++ n ++ Str.ofString "|" else n

local macro_rules | `(tactic| walk_at "compareOp In str ref") => `(tactic| ((with_reducible show wpAny _ _ (compareOp CmpOp.In (Value.str _ _) (Value.ref 100)) _ _ _); (refine' in_K_strs (ys := reserved) ?k1 ?k2 ?k3 ?_; (case k1 => k_asm); (case k2 => k_asm); (case k3 => kernel_rfl)); (rw [any_is])))

theorem read_quoted_call {w : World} {mean : ExcName → Option Value} {mg mb : Str → Option Value} {dp un : Nat} {gd : Option (List Code)} {cn : Str} {cs : Scope} {a : Addr} {ccd : Value} {cl : List (Str × Addr)} {outer : List Env} {A₀ : Around} {base h₀ : Heap} {L : Addr} {m : Str → Option Value} {s : Shared} {Q E : Value → Shared → Prop} {x dx : Addr} {k1 k2 t1 t2 : Tok} {t : Str} {b : Nat} {rest : List (Addr × Obj)} (B : Below A₀ base outer h₀) (F : Fr h₀ L s.heap m) (X : (hd.heap_39 w.params).In h₀) (T : Top hd.view_39 (looseW hd.view_39 [Str.ofString "SIMPLE"]) mean mg mb h₀) (hcs : cs.kind = .function) (hdp : dp + 40 < recursionLimit) (hun : un + 400 < cLine)
   (N : News h₀ L s.heap ((x, instObj 201 dx) :: (dx, scD w k1 k2 t1 t2 t (b : Int)) :: rest)) (hxd : x ≠ dx) (hrd : ∀ p ∈ rest, p.1 ≠ dx) (hbl : b < t.length) (hl : t.length ≤ 2000)
   (ret : ∀ c k r n k3 k4 t3 h' tk', barRes (sg t) b = .good c k → k ≤ t.length → sg n = c → Fr h₀ L h' m → News h₀ L h' ((r, tupObj [.str "sym" k3, .str (told n) k4]) :: (x, instObj 201 dx) :: (dx, scD w k1 k2 t1 t3 t (k : Int)) :: rest) →
     (∀ p ∈ (x, instObj 201 dx) :: (dx, scD w k1 k2 t1 t3 t (k : Int)) :: rest, p.1 < r) → Q (.ref r) { s with heap := h', toks := tk' })
   (exc : ∀ e dxe k3 k4 z kz k ti t3 G h' tk', barRes (sg t) b = .bad k → k ≤ t.length → Fr h₀ L G m → RaisedD base G (envX cn cs L a ccd cl :: outer) e 76 dxe ((dxe, faultD w k3 k4 z kz (k : Int) ti) :: (x, instObj 201 dx) :: (dx, scD w k1 k2 t1 t3 t (b : Int)) :: rest) h' → G.UpToSlots h' → E (.ref e) { s with heap := h', toks := tk' }) :
   wpAny (model Challenge.rw_qz0006_02.row.prog w) (ktrTop dp un gd cn cs L a ccd cl outer) (call (.ref 170) [.ref x]) Q E s := by
  w_top off
  revert X; k_fill; intro X; refine wpAny_call ?_; k_dflt cell_enter
  have hi : (0 : Int) ≤ (b : Int) := Int.natCast_nonneg b
  have hil : (b : Int) < (t.length : Int) := by omega
  have hfs := find_sg t 124 (i := (b : Int) + 1) (by omega) (by omega)
  have e1 : ((b : Int) + 1).toNat = b + 1 := rfl
  rw [← bar_is, e1] at hfs
  k_steps
  all_goals (rename Fr _ _ _ _ => kF; rename News _ _ _ _ => kN)
  all_goals rcases hfs with ⟨hfs, hn⟩ | ⟨k, hfs, h1, h2, h3, h4⟩
  any_goals (exfalso; omega)
  · rename RaisedD _ _ _ _ _ _ _ _ => hR
    refine' exc _ _ _ _ _ _ b _ _ _ _ _ (barRes_none hn) (Nat.le_of_lt hbl) ?a (hR.sub ?b) (by assumption)
    (case b => walk_at "my_sub")
    (case a => k_asm)
  all_goals simp only [hfs] at *
  all_goals have hsl : sg (Txt.slice t (some ((b : Int) + 1)) (some (k : Int))) = _ := slice_at h1 (Nat.le_of_lt h2)
  all_goals have hf2 := find_sg (Txt.slice t (some ((b : Int) + 1)) (some (k : Int))) 92 (i := 0) (Int.le_refl _) (Int.natCast_nonneg _)
  all_goals rw [← find_is_find3, ← slash_is, hsl, Int.toNat_zero, List.drop_zero] at hf2
  all_goals rcases hf2 with ⟨hf2, hn2⟩ | ⟨k2, hf2, g1, g2, g3, g4⟩
  any_goals (exfalso; omega)
  all_goals have hle := congrArg List.length hsl
  all_goals rw [sg_len, List.length_take, List.length_drop, sg_len] at hle
  · rename RaisedD _ _ _ _ _ _ _ _ => hR
    rw [hf2] at hR
    have hl2 : (List.take (k2 - 0) (List.take (k - (b + 1)) (List.drop (b + 1) (sg t)))).length = k2 := by rw [← hsl, List.length_take, sg_len]; omega
    refine' exc _ _ _ _ _ _ (b + 1 + k2) _ _ _ _ _ (by rw [barRes_slash h3 h4 g3 g4, hl2]) (by omega) ?a (hR.sub ?b) (by assumption)
    (case b => walk_at "my_sub")
    (case a => k_asm)
  · rename List.contains _ _ = true => hc
    have hb : barRes (sg t) b = .good (sg (Txt.slice t (some ((b : Int) + 1)) (some (k : Int)))) (k + 1) := by
      rw [barRes_good h3 h4 hn2, ← hsl, sg_len]
      have : b + 2 + (Txt.slice t (some ((b : Int) + 1)) (some (k : Int))).length = k + 1 := by
        rw [hle]; exact min_sub h1 h2
      rw [this]
    rw [← (if_pos hc : told _ = _)] at kN
    refine' ret _ (k + 1) _ _ _ _ _ _ _ hb h2 rfl ?c4 (cb_drop kN ?c3) ?c5
    (case c3 => walk_at "my_sub")
    (case c4 => k_asm)
    walk_at "my_lts"
  · rename List.contains _ _ = false => hc
    have hb : barRes (sg t) b = .good (sg (Txt.slice t (some ((b : Int) + 1)) (some (k : Int)))) (k + 1) := by
      rw [barRes_good h3 h4 hn2, ← hsl, sg_len]
      have : b + 2 + (Txt.slice t (some ((b : Int) + 1)) (some (k : Int))).length = k + 1 := by
        rw [hle]; exact min_sub h1 h2
      rw [this]
    rw [← (if_neg (by rw [hc]; decide) : told (Txt.slice t (some ((b : Int) + 1)) (some (k : Int))) = _)] at kN
    refine' ret _ (k + 1) _ _ _ _ _ _ _ hb h2 rfl ?d4 (cb_drop kN ?d3) ?d5
    (case d3 => walk_at "my_sub")
    (case d4 => k_asm)
    walk_at "my_lts"

end
section
local macro_rules | `(tactic| walk_at "my_pad0") => `(tactic| skip)
local macro_rules | `(tactic| walk_at "call ref") => `(tactic| ((with_reducible show wpAny _ _ (call (Value.ref 76) [Value.str _ _, Value.int _ _]) _ _ _); (refine' fault_call ?k1 ?k2 ?k3 ?k4 ?k5 ?k6 ?k7 ?k8 ?_; (case k1 => k_asm); (case k2 => k_asm); (case k3 => k_asm); (case k4 => k_asm); (case k5 => k_asm); (case k6 => walk_at "my_kind"); (case k7 => walk_at "my_room"); (case k8 => walk_at "my_room")); intro e' T' dx' k3' k4' h' tk' F' N' l1; (try k_sweep)))
local macro_rules | `(tactic| walk_at "my_sign") => `(tactic| ((first | with_reducible show wpAny _ _ (call (Value.ref 135) _) _ _ _ | with_reducible show wpAny _ _ (call (Value.ref 135, _).fst _) _ _ _); k_dflt (refine' sign_call ?k1 ?k2 ?k3 ?k4 ?k5 ?k6 ?k7 ?k8 ?k9 ?k10 ?k11 ?k12 ?rt; (case k1 => k_asm); (case k2 => k_asm); (case k3 => k_asm); (case k4 => k_asm); (case k5 => walk_at "my_kind"); (case k6 => k_asm); (case k7 => walk_at "my_room"); (case k8 => walk_at "my_room"); (case k9 => k_mem); (case k10 => k_mem); (case k11 => k_asm); (case k12 => k_asm); (intro v' tk' h' t' q1' F' N'; (try subst v'); (try k_sweep)))))
local macro_rules | `(tactic| walk_at "my_rs") => `(tactic| ((first | with_reducible show wpAny _ _ (call (Value.ref 163) _) _ _ _ | with_reducible show wpAny _ _ (call (Value.ref 163, _).fst _) _ _ _); k_dflt (refine' read_string_call ?k1 ?k2 ?k3 ?k4 ?k5 ?k6 ?k7 ?k8 ?k9 ?k10 ?k11 ?k12 ?rt ?ex; (case k1 => k_asm); (case k2 => k_asm); (case k3 => k_asm); (case k4 => k_asm); (case k5 => walk_at "my_kind"); (case k6 => walk_at "my_room"); (case k7 => walk_at "my_room"); (case k8 => k_asm); (case k9 => k_asm); (case k10 => k_asm); (case k11 => k_asm); (case k12 => k_asm); (case' rt => (intro c' k' r' y' k3' k4' t3' h' tk' q1' q2' q3' F' N' l1; (try k_lt l1); (try k_sweep))); (case' ex => (intro e' dx' k3' k4' z' kz' ti' t3' i' G' h' tk' q1' F' R' U'; (try k_sweep))))))
local macro_rules | `(tactic| walk_at "my_rq") => `(tactic| ((first | with_reducible show wpAny _ _ (call (Value.ref 170) _) _ _ _ | with_reducible show wpAny _ _ (call (Value.ref 170, _).fst _) _ _ _); k_dflt (refine' read_quoted_call ?k1 ?k2 ?k3 ?k4 ?k5 ?k6 ?k7 ?k8 ?k9 ?k10 ?k11 ?k12 ?rt ?ex; (case k1 => k_asm); (case k2 => k_asm); (case k3 => k_asm); (case k4 => k_asm); (case k5 => walk_at "my_kind"); (case k6 => walk_at "my_room"); (case k7 => walk_at "my_room"); (case k8 => k_asm); (case k9 => k_asm); (case k10 => k_asm); (case k11 => k_asm); (case k12 => k_asm); (case' rt => (intro c' k' r' y' k3' k4' t3' h' tk' q1' q2' q3' F' N' l1; (try k_lt l1); (try k_sweep))); (case' ex => (intro e' dx' k3' k4' z' kz' k' ti' t3' G' h' tk' q1' q2' F' R' U'; (try k_sweep))))))
local macro_rules | `(tactic| walk_at "call ref") => `(tactic| first | walk_at "my_sign" | walk_at "my_rs" | walk_at "my_rq")
theorem sign_is {t : Str} {b c : Nat} (h : ((sg t).drop b).head? = some c) : b < t.length ∧ signAt t (b : Int) = ⟨#[c]⟩ := by
  w_top off
  have hb : b < t.length := by
    rcases Nat.lt_or_ge b t.length with h1 | h1
    · exact h1
    · exact absurd h (head_none c (by omega))
  obtain ⟨a, h1, h2⟩ := head_item (t := t) (k := b) (by omega)
  rw [h2] at h
  exact ⟨hb, by unfold signAt; rw [if_pos (by omega), h1, Option.some.inj h]⟩

theorem eq_yes {x y : Str} (h : x = y) : (x == y) = true := by rw [h]; exact beq_self_eq_true y
theorem eq_no {x y z : Str} (h : x = y) (q : (y == z) = false) : (x == z) = false := by rw [h]; exact q

theorem read_word_str {w : World} {mean : ExcName → Option Value} {mg mb : Str → Option Value} {dp un : Nat} {gd : Option (List Code)} {cn : Str} {cs : Scope} {a : Addr} {ccd : Value} {cl : List (Str × Addr)} {outer : List Env} {A₀ : Around} {base h₀ : Heap} {L : Addr} {m : Str → Option Value} {s : Shared} {Q E : Value → Shared → Prop} {x dx : Addr} {k1 k2 t1 t2 : Tok} {t : Str} {b : Nat} {rest : List (Addr × Obj)} (B : Below A₀ base outer h₀) (F : Fr h₀ L s.heap m) (X : (hd.heap_39 w.params).In h₀) (T : Top hd.view_39 (looseW hd.view_39 [Str.ofString "SIMPLE"]) mean mg mb h₀) (hcs : cs.kind = .function) (hdp : dp + 50 < recursionLimit) (hun : un + 500 < cLine)
   (N : News h₀ L s.heap ((x, instObj 201 dx) :: (dx, scD w k1 k2 t1 t2 t (b : Int)) :: rest)) (hxd : x ≠ dx) (hrd : ∀ p ∈ rest, p.1 ≠ dx) (hq : ((sg t).drop b).head? = some 34) (hl : t.length ≤ 2000)
   (ret : ∀ c k r y k3 k4 t3 h' tk', strRes (sg t) b = some (c, k) → k ≤ t.length → sg y = c → Fr h₀ L h' m → News h₀ L h' ((r, tupObj [.str "str" k3, .str y k4]) :: (x, instObj 201 dx) :: (dx, scD w k1 k2 t1 t3 t (k : Int)) :: rest) →
     (∀ p ∈ (x, instObj 201 dx) :: (dx, scD w k1 k2 t1 t3 t (k : Int)) :: rest, p.1 < r) → Q (.ref r) { s with heap := h', toks := tk' })
   (exc : ∀ e dxe k3 k4 z kz ti t3 i' G h' tk', strRes (sg t) b = none → Fr h₀ L G m → RaisedD base G (envX cn cs L a ccd cl :: outer) e 76 dxe ((dxe, faultD w k3 k4 z kz (b : Int) ti) :: (x, instObj 201 dx) :: (dx, scD w k1 k2 t1 t3 t i') :: rest) h' → G.UpToSlots h' → E (.ref e) { s with heap := h', toks := tk' }) :
   wpAny (model Challenge.rw_qz0006_02.row.prog w) (ktrTop dp un gd cn cs L a ccd cl outer) (call (.ref 198) [.ref x]) Q E s := by
  w_top off
  revert X; k_fill; intro X; refine wpAny_call ?_; k_dflt cell_enter
  obtain ⟨hbl, hsi⟩ := sign_is hq
  rw [← quote_is] at hsi
  have hs0 : (signAt t (b : Int) == Str.ofString "") = false := eq_no hsi (by decide +kernel)
  have hs1 : (signAt t (b : Int) == Str.ofString "\"") = true := eq_yes hsi
  have hi : (0 : Int) ≤ (b : Int) := Int.natCast_nonneg b
  have hil : (b : Int) < (t.length : Int) := by omega
  k_steps
  · exact exc _ _ _ _ _ _ _ _ _ _ _ _ (by assumption) (by assumption) (by assumption) (by assumption)
  · exact ret _ _ _ _ _ _ _ _ _ (by assumption) (by assumption) (by assumption) (by assumption) (by assumption) (by walk_at "my_lts")

theorem read_word_bar {w : World} {mean : ExcName → Option Value} {mg mb : Str → Option Value} {dp un : Nat} {gd : Option (List Code)} {cn : Str} {cs : Scope} {a : Addr} {ccd : Value} {cl : List (Str × Addr)} {outer : List Env} {A₀ : Around} {base h₀ : Heap} {L : Addr} {m : Str → Option Value} {s : Shared} {Q E : Value → Shared → Prop} {x dx : Addr} {k1 k2 t1 t2 : Tok} {t : Str} {b : Nat} {rest : List (Addr × Obj)} (B : Below A₀ base outer h₀) (F : Fr h₀ L s.heap m) (X : (hd.heap_39 w.params).In h₀) (T : Top hd.view_39 (looseW hd.view_39 [Str.ofString "SIMPLE"]) mean mg mb h₀) (hcs : cs.kind = .function) (hdp : dp + 50 < recursionLimit) (hun : un + 500 < cLine)
   (N : News h₀ L s.heap ((x, instObj 201 dx) :: (dx, scD w k1 k2 t1 t2 t (b : Int)) :: rest)) (hxd : x ≠ dx) (hrd : ∀ p ∈ rest, p.1 ≠ dx) (hq : ((sg t).drop b).head? = some 124) (hl : t.length ≤ 2000)
   (ret : ∀ c k r y k3 k4 t3 h' tk', barRes (sg t) b = .good c k → k ≤ t.length → sg y = c → Fr h₀ L h' m → News h₀ L h' ((r, tupObj [.str "sym" k3, .str (told y) k4]) :: (x, instObj 201 dx) :: (dx, scD w k1 k2 t1 t3 t (k : Int)) :: rest) →
     (∀ p ∈ (x, instObj 201 dx) :: (dx, scD w k1 k2 t1 t3 t (k : Int)) :: rest, p.1 < r) → Q (.ref r) { s with heap := h', toks := tk' })
   (exc : ∀ e dxe k3 k4 z kz k ti t3 G h' tk', barRes (sg t) b = .bad k → k ≤ t.length → Fr h₀ L G m → RaisedD base G (envX cn cs L a ccd cl :: outer) e 76 dxe ((dxe, faultD w k3 k4 z kz (k : Int) ti) :: (x, instObj 201 dx) :: (dx, scD w k1 k2 t1 t3 t (b : Int)) :: rest) h' → G.UpToSlots h' → E (.ref e) { s with heap := h', toks := tk' }) :
   wpAny (model Challenge.rw_qz0006_02.row.prog w) (ktrTop dp un gd cn cs L a ccd cl outer) (call (.ref 198) [.ref x]) Q E s := by
  w_top off
  revert X; k_fill; intro X; refine wpAny_call ?_; k_dflt cell_enter
  obtain ⟨hbl, hsi⟩ := sign_is hq
  rw [← bar_is] at hsi
  have hs0 : (signAt t (b : Int) == Str.ofString "") = false := eq_no hsi (by decide +kernel)
  have hs1 : (signAt t (b : Int) == Str.ofString "\"") = false := eq_no hsi (by decide +kernel)
  have hs2 : (signAt t (b : Int) == Str.ofString "|") = true := eq_yes hsi
  have hi : (0 : Int) ≤ (b : Int) := Int.natCast_nonneg b
  have hil : (b : Int) < (t.length : Int) := by omega
  k_steps
  · exact exc _ _ _ _ _ _ _ _ _ _ _ _ (by assumption) (by assumption) (by assumption) (by assumption) (by assumption)
  · exact ret _ _ _ _ _ _ _ _ _ (by assumption) (by assumption) (by assumption) (by assumption) (by assumption) (by walk_at "my_lts")

end
section
local macro_rules | `(tactic| walk_at "call ref") => `(tactic| ((with_reducible show wpAny _ _ (call (Value.ref 76) [Value.str _ _, Value.int _ _]) _ _ _); (refine' fault_call ?k1 ?k2 ?k3 ?k4 ?k5 ?k6 ?k7 ?k8 ?_; (case k1 => k_asm); (case k2 => k_asm); (case k3 => k_asm); (case k4 => k_asm); (case k5 => k_asm); (case k6 => walk_at "my_kind"); (case k7 => walk_at "my_room"); (case k8 => walk_at "my_room")); intro e' T' dx' k3' k4' h' tk' F' N' l1; (try k_sweep)))
local macro_rules | `(tactic| walk_at "my_go0") => `(tactic| (refine' code_defS0 ?k1 ?k2 ?k3 ?k4 ?k5 ?kA ?k6 ?k7 ?k8 ?k9 ?kB ?_ ?cK ?c2 ?c3 ?c4 ?c5; (case kA => exact rfl); (case k2 => k_asm); (case k1 => k_asm); (case k3 => k_asm); (case k4 => k_asm); (case k5 => k_asm); (case k6 => k_is); (case k7 => k_is); (case k8 => ktr_room); (case k9 => exact BindsTo.of_eq rfl); (case kB => exact locs rfl); (case cK => assumption); (case c2 => exact rfl); (case c3 => exact rfl); (case c4 => exact rfl); (case c5 => decide); k_whole; intro g' L' h' FG' F' N' B' X' T' D'; (try dsimp only); (try k_lift B'); (try k_fold)))
local macro_rules | `(tactic| walk_at "my_goS") => `(tactic| (refine' code_defS ?k1 ?k2 ?k3 ?k4 ?k5 ?XB ?TB ?D ?T0 ?kA ?k6 ?k7 ?k8 ?k9 ?kB ?_ ?cK ?c2 ?c3 ?c4 ?c5; (case kA => exact rfl); (case k2 => k_asm); (case k1 => k_asm); (case XB => assumption); (case TB => assumption); (case D => assumption); (case T0 => first | assumption | exact KtsTurn.refl); (case k3 => k_asm); (case k4 => k_asm); (case k5 => k_asm); (case k6 => k_is); (case k7 => k_is); (case k8 => ktr_room); (case k9 => exact BindsTo.of_eq rfl); (case kB => exact locs rfl); (case cK => assumption); (case c2 => exact rfl); (case c3 => exact rfl); (case c4 => exact rfl); (case c5 => decide); k_whole; intro g' L' h' FG' F' N' B' X' T' D'; (try dsimp only); (try k_lift B'); (try k_fold)))
local macro_rules | `(tactic| walk_at "my_goC") => `(tactic| (refine' code_defC ?k1 ?k2 ?k3 ?k4 ?k5 ?kA ?kF ?kK ?k6 ?k7 ?k8 ?k9 ?kB ?kD ?_ ?c2 ?c3 ?c4; (case kA => exact rfl); (case kF => exact rfl); (case kK => assumption); (case k1 => k_asm); (case k2 => k_asm); (case k3 => k_asm); (case k4 => k_asm); (case k5 => k_asm); (case k6 => k_is); (case k7 => k_is); (case k8 => ktr_room); (case k9 => exact BindsTo.of_eq rfl); (case kB => exact rfl); (case kD => decide +kernel); (case c2 => exact rfl); (case c3 => exact rfl); (case c4 => exact rfl); k_whole; intro g' L' h' tk' cells' FG' F' N' Y' B' X' T' l1; (try k_lt l1); k_cells Y'; (try simp only [List.cons_append, List.nil_append] at N'); (try dsimp only); (try k_lift B'); (try k_fold)))
local macro_rules | `(tactic| walk_at "noteFrame ref") => `(tactic| ((with_reducible show wpAny _ _ (noteFrame _ _) (fun _ s₂ => wpAny _ _ (setFlight _ none) (fun _ s₃ => wpAny _ _ (handleBy _ _ (ExceptHandler.ExceptHandler (some (Expr.Name ("SyntaxFault" : Str) _)) (some _) _ _ :: _)) _ _ s₃) _ s₂) _ _); k_dflt (refine' caught_D ?R ?F ?K ?U ?XB ?TB ?D ?T0 ?ex ?q ?_; (case R => assumption); (case F => assumption); (case K => assumption); (case U => assumption); (case XB => assumption); (case TB => assumption); (case D => assumption); (case T0 => first | assumption | exact KtsTurn.refl); (case ex => k_is); (case q => kts_isx); k_whole); intro h' g' tk' vs' T' F' N' K' X' P' D'; (try k_lift K'); (try k_sweep)))
local macro_rules | `(tactic| walk_at "getAttr ref") => `(tactic| ((with_reducible show wpAny _ _ (getAttr (Value.ref _) ("spot" : Str) _) _ _ _); k_dflt (refine' exc_own (C := 76) ?k1 ?k2 ?k3 ?k4 ?k5 ?k6 ?k7 ?k8 ?k9 ?k10 ?k11 ?k12 ?_; (case k1 => k_asm); (case k2 => k_asm); (case k3 => k_asm); (case k4 => k_mem); (case k5 => k_mem); (case k6 => kernel_rfl); (case k7 => kernel_rfl); (case k8 => k_is); (case k9 => kernel_rfl); (case k10 => kernel_rfl); (case k11 => rfl); (case k12 => rfl))))
local macro_rules | `(tactic| walk_at "my_rs") => `(tactic| ((first | with_reducible show wpAny _ _ (call (Value.ref 163) _) _ _ _ | with_reducible show wpAny _ _ (call (Value.ref 163, _).fst _) _ _ _); k_dflt (refine' read_string_call ?k1 ?k2 ?k3 ?k4 ?k5 ?k6 ?k7 ?k8 ?k9 ?k10 ?k11 ?k12 ?rt ?ex; (case k1 => k_asm); (case k2 => k_asm); (case k3 => k_asm); (case k4 => k_asm); (case k5 => walk_at "my_kind"); (case k6 => walk_at "my_room"); (case k7 => walk_at "my_room"); (case k8 => k_asm); (case k9 => k_asm); (case k10 => k_asm); (case k11 => k_asm); (case k12 => k_asm); (case' rt => (intro c' k' r' y' k3' k4' t3' h' tk' q1' q2' q3' F' N' l1; (try k_lt l1); (try k_sweep))); (case' ex => (intro e' dx' k3' k4' z' kz' ti' t3' i' G' h' tk' q1' F' R' U'; (try k_sweep))))))
local macro_rules | `(tactic| walk_at "my_rq") => `(tactic| ((first | with_reducible show wpAny _ _ (call (Value.ref 170) _) _ _ _ | with_reducible show wpAny _ _ (call (Value.ref 170, _).fst _) _ _ _); k_dflt (refine' read_quoted_call ?k1 ?k2 ?k3 ?k4 ?k5 ?k6 ?k7 ?k8 ?k9 ?k10 ?k11 ?k12 ?rt ?ex; (case k1 => k_asm); (case k2 => k_asm); (case k3 => k_asm); (case k4 => k_asm); (case k5 => walk_at "my_kind"); (case k6 => walk_at "my_room"); (case k7 => walk_at "my_room"); (case k8 => k_asm); (case k9 => k_asm); (case k10 => k_asm); (case k11 => k_asm); (case k12 => k_asm); (case' rt => (intro c' k' r' y' k3' k4' t3' h' tk' q1' q2' q3' F' N' l1; (try k_lt l1); (try k_sweep))); (case' ex => (intro e' dx' k3' k4' z' kz' k' ti' t3' G' h' tk' q1' q2' F' R' U'; (try k_sweep))))))
local macro_rules | `(tactic| walk_at "my_ws") => `(tactic| ((first | with_reducible show wpAny _ _ (call (Value.ref 198) _) _ _ _ | with_reducible show wpAny _ _ (call (Value.ref 198, _).fst _) _ _ _); k_dflt (refine' read_word_str ?k1 ?k2 ?k3 ?k4 ?k5 ?k6 ?k7 ?k8 ?k9 ?k10 ?k11 ?k12 ?rt ?ex; (case k1 => k_asm); (case k2 => k_asm); (case k3 => k_asm); (case k4 => k_asm); (case k5 => walk_at "my_kind"); (case k6 => walk_at "my_room"); (case k7 => walk_at "my_room"); (case k8 => k_asm); (case k9 => k_asm); (case k10 => k_asm); (case k11 => k_asm); (case k12 => k_asm); (case' rt => (intro c' k' r' y' k3' k4' t3' h' tk' q1' q2' q3' F' N' l1; (try k_lt l1); (try k_sweep))); (case' ex => (intro e' dx' k3' k4' z' kz' ti' t3' i' G' h' tk' q1' F' R' U'; (try k_sweep))))))
local macro_rules | `(tactic| walk_at "my_wq") => `(tactic| ((first | with_reducible show wpAny _ _ (call (Value.ref 198) _) _ _ _ | with_reducible show wpAny _ _ (call (Value.ref 198, _).fst _) _ _ _); k_dflt (refine' read_word_bar ?k1 ?k2 ?k3 ?k4 ?k5 ?k6 ?k7 ?k8 ?k9 ?k10 ?k11 ?k12 ?rt ?ex; (case k1 => k_asm); (case k2 => k_asm); (case k3 => k_asm); (case k4 => k_asm); (case k5 => walk_at "my_kind"); (case k6 => walk_at "my_room"); (case k7 => walk_at "my_room"); (case k8 => k_asm); (case k9 => k_asm); (case k10 => k_asm); (case k11 => k_asm); (case k12 => k_asm); (case' rt => (intro c' k' r' y' k3' k4' t3' h' tk' q1' q2' q3' F' N' l1; (try k_lt l1); (try k_sweep))); (case' ex => (intro e' dx' k3' k4' z' kz' k' ti' t3' G' h' tk' q1' q2' F' R' U'; (try k_sweep))))))
local macro_rules | `(tactic| walk_at "call ref") => `(tactic| first | walk_at "my_rs" | walk_at "my_rq" | walk_at "my_ws" | walk_at "my_wq")
theorem heard_string0 {w : World} {mean : ExcName → Option Value} {mg mb : Str → Option Value} {dp un : Nat} {gd : Option (List Code)} {cn : Str} {cs : Scope} {a : Addr} {ccd : Value} {A₀ : Around} {base h₀ : Heap} {L : Addr} {m : Str → Option Value} {s : Shared} {Q E : Value → Shared → Prop} {x dx : Addr} {k1 k2 t1 t2 tq : Tok} {t : Str} {b : Nat} {rest : List (Addr × Obj)} (B : Below A₀ base [] h₀) (F : Fr h₀ L s.heap m) (X : (hd.heap_39 w.params).In h₀) (T : Top hd.view_39 (looseW hd.view_39 [Str.ofString "SIMPLE"]) mean mg mb h₀) (hcs : cs.kind = .function) (XB : (hd.heap_39 w.params).In base) (TB : Top hd.view_39 (looseW hd.view_39 [Str.ofString "SIMPLE"]) mean mg mb base) (hdp : dp + 60 < recursionLimit) (hun : un + 600 < cLine)
   (N : News h₀ L s.heap ((x, instObj 201 dx) :: (dx, scD w k1 k2 t1 t2 t (b : Int)) :: rest)) (hxd : x ≠ dx) (hrd : ∀ p ∈ rest, p.1 ≠ dx) (hbl : b < t.length) (hl : t.length ≤ 2000)
   (ret : ∀ c k p r y k3 k4 k5 t3 h' tk', strRes (sg t) b = some (c, k) → k ≤ t.length → sg y = c → Fr h₀ L h' m → News h₀ L h' ((p, tupObj [.ref r, .int (k : Int) k5]) :: (r, tupObj [.str "str" k3, .str y k4]) :: (x, instObj 201 dx) :: (dx, scD w k1 k2 t1 t3 t (k : Int)) :: rest) →
     (∀ q ∈ (r, tupObj [.str "str" k3, .str y k4]) :: (x, instObj 201 dx) :: (dx, scD w k1 k2 t1 t3 t (k : Int)) :: rest, q.1 < p) → (∀ q ∈ (x, instObj 201 dx) :: (dx, scD w k1 k2 t1 t3 t (k : Int)) :: rest, q.1 < r) → Q (.ref p) { s with heap := h', toks := tk' })
   (bad : ∀ p k5 t3 i' h' tk', strRes (sg t) b = none → Fr h₀ L h' m → News h₀ L h' ((p, tupObj [.none, .int (b : Int) k5]) :: (x, instObj 201 dx) :: (dx, scD w k1 k2 t1 t3 t i') :: rest) →
     (∀ q ∈ (x, instObj 201 dx) :: (dx, scD w k1 k2 t1 t3 t i') :: rest, q.1 < p) → Q (.ref p) { s with heap := h', toks := tk' }) :
   wpAny (model Challenge.rw_qz0006_02.row.prog w) (ktrTop dp un gd cn cs L a ccd [] []) (call (.ref 240) [.ref x, .str "string" tq]) Q E s := by
  w_top off
  revert X XB; k_fill; intro X XB; refine wpAny_call ?_; k_dflt (walk_at "my_go0")
  have hi : (0 : Int) ≤ (b : Int) := Int.natCast_nonneg b
  k_steps
  all_goals (rename Fr _ _ _ _ => kF; rename News _ _ _ _ => kN)
  · exact bad _ _ _ _ _ _ (by assumption) kF (cb_drop kN (by walk_at "my_sub")) (by walk_at "my_lts")
  · exact ret _ _ _ _ _ _ _ _ _ _ _ (by assumption) (by assumption) (by assumption) kF (cb_drop kN (by walk_at "my_sub")) (by walk_at "my_lts") (by walk_at "my_lts")

theorem heard_quoted0 {w : World} {mean : ExcName → Option Value} {mg mb : Str → Option Value} {dp un : Nat} {gd : Option (List Code)} {cn : Str} {cs : Scope} {a : Addr} {ccd : Value} {A₀ : Around} {base h₀ : Heap} {L : Addr} {m : Str → Option Value} {s : Shared} {Q E : Value → Shared → Prop} {x dx : Addr} {k1 k2 t1 t2 tq : Tok} {t : Str} {b : Nat} {rest : List (Addr × Obj)} (B : Below A₀ base [] h₀) (F : Fr h₀ L s.heap m) (X : (hd.heap_39 w.params).In h₀) (T : Top hd.view_39 (looseW hd.view_39 [Str.ofString "SIMPLE"]) mean mg mb h₀) (hcs : cs.kind = .function) (XB : (hd.heap_39 w.params).In base) (TB : Top hd.view_39 (looseW hd.view_39 [Str.ofString "SIMPLE"]) mean mg mb base) (hdp : dp + 60 < recursionLimit) (hun : un + 600 < cLine)
   (N : News h₀ L s.heap ((x, instObj 201 dx) :: (dx, scD w k1 k2 t1 t2 t (b : Int)) :: rest)) (hxd : x ≠ dx) (hrd : ∀ p ∈ rest, p.1 ≠ dx) (hbl : b < t.length) (hl : t.length ≤ 2000)
   (ret : ∀ c k p r y k3 k4 k5 t3 h' tk', barRes (sg t) b = .good c k → k ≤ t.length → sg y = c → Fr h₀ L h' m → News h₀ L h' ((p, tupObj [.ref r, .int (k : Int) k5]) :: (r, tupObj [.str "sym" k3, .str (told y) k4]) :: (x, instObj 201 dx) :: (dx, scD w k1 k2 t1 t3 t (k : Int)) :: rest) →
     (∀ q ∈ (r, tupObj [.str "sym" k3, .str (told y) k4]) :: (x, instObj 201 dx) :: (dx, scD w k1 k2 t1 t3 t (k : Int)) :: rest, q.1 < p) → (∀ q ∈ (x, instObj 201 dx) :: (dx, scD w k1 k2 t1 t3 t (k : Int)) :: rest, q.1 < r) → Q (.ref p) { s with heap := h', toks := tk' })
   (bad : ∀ k p k5 t3 h' tk', barRes (sg t) b = .bad k → k ≤ t.length → Fr h₀ L h' m → News h₀ L h' ((p, tupObj [.none, .int (k : Int) k5]) :: (x, instObj 201 dx) :: (dx, scD w k1 k2 t1 t3 t (b : Int)) :: rest) →
     (∀ q ∈ (x, instObj 201 dx) :: (dx, scD w k1 k2 t1 t3 t (b : Int)) :: rest, q.1 < p) → Q (.ref p) { s with heap := h', toks := tk' }) :
   wpAny (model Challenge.rw_qz0006_02.row.prog w) (ktrTop dp un gd cn cs L a ccd [] []) (call (.ref 240) [.ref x, .str "quoted" tq]) Q E s := by
  w_top off
  revert X XB; k_fill; intro X XB; refine wpAny_call ?_; k_dflt (walk_at "my_go0")
  have hi : (0 : Int) ≤ (b : Int) := Int.natCast_nonneg b
  k_steps
  all_goals (rename Fr _ _ _ _ => kF; rename News _ _ _ _ => kN)
  · exact bad _ _ _ _ _ _ (by assumption) (by assumption) kF (cb_drop kN (by walk_at "my_sub")) (by walk_at "my_lts")
  · exact ret _ _ _ _ _ _ _ _ _ _ _ (by assumption) (by assumption) (by assumption) kF (cb_drop kN (by walk_at "my_sub")) (by walk_at "my_lts") (by walk_at "my_lts")

theorem heard_str {w : World} {mean : ExcName → Option Value} {mg mb : Str → Option Value} {dp un : Nat} {gd : Option (List Code)} {cn : Str} {cs : Scope} {a : Addr} {ccd : Value} {outer : List Env} {A₀ : Around} {base h₀ : Heap} {L : Addr} {m : Str → Option Value} {s : Shared} {Q E : Value → Shared → Prop} {g₀ : Heap} {x dx : Addr} {k1 k2 t1 t2 tq : Tok} {t : Str} {b : Nat} {rest : List (Addr × Obj)} (B : Below A₀ base outer h₀) (F : Fr h₀ L s.heap m) (X : (hd.heap_39 w.params).In h₀) (T : Top hd.view_39 (looseW hd.view_39 [Str.ofString "SIMPLE"]) mean mg mb h₀) (hcs : cs.kind = .function) (XB : (hd.heap_39 w.params).In base) (TB : Top hd.view_39 (looseW hd.view_39 [Str.ofString "SIMPLE"]) mean mg mb base) (D : KtsDicts (outer.filterMap (·.frame)) h₀) (T0 : KtsTurn (outer.filterMap (·.frame)) g₀ h₀) (hdp : dp + 60 < recursionLimit) (hun : un + 600 < cLine)
   (N : News h₀ L s.heap ((x, instObj 201 dx) :: (dx, scD w k1 k2 t1 t2 t (b : Int)) :: rest)) (hxd : x ≠ dx) (hrd : ∀ p ∈ rest, p.1 ≠ dx) (hq : ((sg t).drop b).head? = some 34) (hl : t.length ≤ 2000)
   (ret : ∀ c k p r y k3 k4 k5 t3 h' tk', strRes (sg t) b = some (c, k) → k ≤ t.length → sg y = c → Fr h₀ L h' m → News h₀ L h' ((p, tupObj [.ref r, .int (k : Int) k5]) :: (r, tupObj [.str "str" k3, .str y k4]) :: (x, instObj 201 dx) :: (dx, scD w k1 k2 t1 t3 t (k : Int)) :: rest) →
     (∀ q ∈ (r, tupObj [.str "str" k3, .str y k4]) :: (x, instObj 201 dx) :: (dx, scD w k1 k2 t1 t3 t (k : Int)) :: rest, q.1 < p) → (∀ q ∈ (x, instObj 201 dx) :: (dx, scD w k1 k2 t1 t3 t (k : Int)) :: rest, q.1 < r) → Q (.ref p) { s with heap := h', toks := tk' })
   (bad : ∀ g' p k5 t3 i' h' tk', strRes (sg t) b = none → KtsTurn (outer.filterMap (·.frame)) g₀ g' → Below A₀ base outer g' → (hd.heap_39 w.params).In g' → Top hd.view_39 (looseW hd.view_39 [Str.ofString "SIMPLE"]) mean mg mb g' → KtsDicts (outer.filterMap (·.frame)) g' → Fr g' L h' m → News g' L h' ((p, tupObj [.none, .int (b : Int) k5]) :: (x, instObj 201 dx) :: (dx, scD w k1 k2 t1 t3 t i') :: rest) →
     (∀ q ∈ (x, instObj 201 dx) :: (dx, scD w k1 k2 t1 t3 t i') :: rest, q.1 < p) → Q (.ref p) { s with heap := h', toks := tk' }) :
   wpAny (model Challenge.rw_qz0006_02.row.prog w) (ktrTop dp un gd cn cs L a ccd [] outer) (call (.ref 240) [.ref x, .str "word" tq]) Q E s := by
  w_top off
  revert X XB; k_fill; intro X XB; refine wpAny_call ?_; k_dflt (walk_at "my_goS")
  have hi : (0 : Int) ≤ (b : Int) := Int.natCast_nonneg b
  k_steps
  all_goals (rename Fr _ _ _ _ => kF; rename News _ _ _ _ => kN)
  · exact bad _ _ _ _ _ _ _ (by assumption) (by assumption) (by assumption) (by assumption) (by assumption) (by assumption) kF (cb_drop kN (by walk_at "my_sub")) (by walk_at "my_lts")
  · exact ret _ _ _ _ _ _ _ _ _ _ _ (by assumption) (by assumption) (by assumption) kF (cb_drop kN (by walk_at "my_sub")) (by walk_at "my_lts") (by walk_at "my_lts")

theorem heard_bar {w : World} {mean : ExcName → Option Value} {mg mb : Str → Option Value} {dp un : Nat} {gd : Option (List Code)} {cn : Str} {cs : Scope} {a : Addr} {ccd : Value} {outer : List Env} {A₀ : Around} {base h₀ : Heap} {L : Addr} {m : Str → Option Value} {s : Shared} {Q E : Value → Shared → Prop} {g₀ : Heap} {x dx : Addr} {k1 k2 t1 t2 tq : Tok} {t : Str} {b : Nat} {rest : List (Addr × Obj)} (B : Below A₀ base outer h₀) (F : Fr h₀ L s.heap m) (X : (hd.heap_39 w.params).In h₀) (T : Top hd.view_39 (looseW hd.view_39 [Str.ofString "SIMPLE"]) mean mg mb h₀) (hcs : cs.kind = .function) (XB : (hd.heap_39 w.params).In base) (TB : Top hd.view_39 (looseW hd.view_39 [Str.ofString "SIMPLE"]) mean mg mb base) (D : KtsDicts (outer.filterMap (·.frame)) h₀) (T0 : KtsTurn (outer.filterMap (·.frame)) g₀ h₀) (hdp : dp + 60 < recursionLimit) (hun : un + 600 < cLine)
   (N : News h₀ L s.heap ((x, instObj 201 dx) :: (dx, scD w k1 k2 t1 t2 t (b : Int)) :: rest)) (hxd : x ≠ dx) (hrd : ∀ p ∈ rest, p.1 ≠ dx) (hq : ((sg t).drop b).head? = some 124) (hl : t.length ≤ 2000)
   (ret : ∀ c k p r y k3 k4 k5 t3 h' tk', barRes (sg t) b = .good c k → k ≤ t.length → sg y = c → Fr h₀ L h' m → News h₀ L h' ((p, tupObj [.ref r, .int (k : Int) k5]) :: (r, tupObj [.str "sym" k3, .str (told y) k4]) :: (x, instObj 201 dx) :: (dx, scD w k1 k2 t1 t3 t (k : Int)) :: rest) →
     (∀ q ∈ (r, tupObj [.str "sym" k3, .str (told y) k4]) :: (x, instObj 201 dx) :: (dx, scD w k1 k2 t1 t3 t (k : Int)) :: rest, q.1 < p) → (∀ q ∈ (x, instObj 201 dx) :: (dx, scD w k1 k2 t1 t3 t (k : Int)) :: rest, q.1 < r) → Q (.ref p) { s with heap := h', toks := tk' })
   (bad : ∀ g' k p k5 t3 h' tk', barRes (sg t) b = .bad k → k ≤ t.length → KtsTurn (outer.filterMap (·.frame)) g₀ g' → Below A₀ base outer g' → (hd.heap_39 w.params).In g' → Top hd.view_39 (looseW hd.view_39 [Str.ofString "SIMPLE"]) mean mg mb g' → KtsDicts (outer.filterMap (·.frame)) g' → Fr g' L h' m → News g' L h' ((p, tupObj [.none, .int (k : Int) k5]) :: (x, instObj 201 dx) :: (dx, scD w k1 k2 t1 t3 t (b : Int)) :: rest) →
     (∀ q ∈ (x, instObj 201 dx) :: (dx, scD w k1 k2 t1 t3 t (b : Int)) :: rest, q.1 < p) → Q (.ref p) { s with heap := h', toks := tk' }) :
   wpAny (model Challenge.rw_qz0006_02.row.prog w) (ktrTop dp un gd cn cs L a ccd [] outer) (call (.ref 240) [.ref x, .str "word" tq]) Q E s := by
  w_top off
  revert X XB; k_fill; intro X XB; refine wpAny_call ?_; k_dflt (walk_at "my_goS")
  have hi : (0 : Int) ≤ (b : Int) := Int.natCast_nonneg b
  k_steps
  all_goals (rename Fr _ _ _ _ => kF; rename News _ _ _ _ => kN)
  · exact bad _ _ _ _ _ _ _ (by assumption) (by assumption) (by assumption) (by assumption) (by assumption) (by assumption) (by assumption) kF (cb_drop kN (by walk_at "my_sub")) (by walk_at "my_lts")
  · exact ret _ _ _ _ _ _ _ _ _ _ _ (by assumption) (by assumption) (by assumption) kF (cb_drop kN (by walk_at "my_sub")) (by walk_at "my_lts") (by walk_at "my_lts")

end
section
local macro_rules | `(tactic| walk_at "my_pad0") => `(tactic| skip)
local macro_rules | `(tactic| walk_at "my_pad1") => `(tactic| skip)
local macro_rules | `(tactic| walk_at "my_pad2") => `(tactic| skip)
local macro_rules | `(tactic| walk_at "my_pad3") => `(tactic| skip)
local macro_rules | `(tactic| walk_at "my_pad4") => `(tactic| skip)
local macro_rules | `(tactic| walk_at "my_pad5") => `(tactic| skip)
local macro_rules | `(tactic| walk_at "call ref") => `(tactic| ((with_reducible show wpAny _ _ (call (Value.ref 76) [Value.str _ _, Value.int _ _]) _ _ _); (refine' fault_call ?k1 ?k2 ?k3 ?k4 ?k5 ?k6 ?k7 ?k8 ?_; (case k1 => k_asm); (case k2 => k_asm); (case k3 => k_asm); (case k4 => k_asm); (case k5 => k_asm); (case k6 => walk_at "my_kind"); (case k7 => walk_at "my_room"); (case k8 => walk_at "my_room")); intro e' T' dx' k3' k4' h' tk' F' N' l1; (try k_sweep)))
theorem fdiv2 (r : Nat) : (r : Int).fdiv 2 = ((r / 2 : Nat) : Int) := by rw [Int.fdiv_eq_ediv_of_nonneg _ (by decide)]; omega
theorem fmod2 (r : Nat) : (r : Int).fmod 2 = ((r % 2 : Nat) : Int) := by rw [Int.fmod_eq_emod_of_nonneg _ (by decide)]; omega
theorem mul_sg (k : Nat) : sg (Txt.mul (Str.ofString "\"") (k : Int)) = List.replicate k 34 := by rw [quote_is]; exact mul_one_list 34 k
theorem law_string_call {w : World} {mean : ExcName → Option Value} {mg mb : Str → Option Value} {dp un : Nat} {gd : Option (List Code)} {cn : Str} {cs : Scope} {a : Addr} {ccd : Value} {cl : List (Str × Addr)} {outer : List Env} {A₀ : Around} {base h₀ : Heap} {L : Addr} {m : Str → Option Value} {s : Shared} {Q E : Value → Shared → Prop} {t1 t2 : Tok} {t : Str} {b : Nat} {news : List (Addr × Obj)} (B : Below A₀ base outer h₀) (F : Fr h₀ L s.heap m) (X : (hd.heap_39 w.params).In h₀) (T : Top hd.view_39 (looseW hd.view_39 [Str.ofString "SIMPLE"]) mean mg mb h₀) (hcs : cs.kind = .function) (hdp : dp + 40 < recursionLimit) (hun : un + 400 < cLine)
   (N : News h₀ L s.heap news) (hbl : b < t.length) (hl : t.length ≤ 2000)
   (ret : ∀ c k p r y k3 k4 k5 h' tk', strRes (sg t) b = some (c, k) → sg y = c → Fr h₀ L h' m → News h₀ L h' ((p, tupObj [.ref r, .int (k : Int) k5]) :: (r, tupObj [.str "str" k3, .str y k4]) :: news) →
     (∀ q ∈ (r, tupObj [.str "str" k3, .str y k4]) :: news, q.1 < p) → (∀ q ∈ news, q.1 < r) → Q (.ref p) { s with heap := h', toks := tk' })
   (bad : ∀ p k5 h' tk', strRes (sg t) b = none → Fr h₀ L h' m → News h₀ L h' ((p, tupObj [.none, .int (b : Int) k5]) :: news) → (∀ q ∈ news, q.1 < p) → Q (.ref p) { s with heap := h', toks := tk' }) :
   wpAny (model Challenge.rw_qz0006_02.row.prog w) (ktrTop dp un gd cn cs L a ccd cl outer) (call (.ref 226) [.str t t1, .int (b : Int) t2]) Q E s := by
  w_top off
  revert X; k_fill; intro X; refine wpAny_call ?_; k_dflt cell_enter
  have hi : (0 : Int) ≤ (b : Int) := Int.natCast_nonneg b
  have hil : (b : Int) < (t.length : Int) := by omega
  k_steps
  unfold Stop
  rename News _ _ _ _ => N1
  rename Fr _ _ _ _ => F1
  refine' ksw_while (σ := Nat × Str × Tok × Tok) (fun _ => news) (fun c => [("content", .str c.2.1 c.2.2.1), ("at", .int (c.1 : Int) c.2.2.2)]) (fun _ => True) ["run"]
    (fun c => StrAt (sg t) b c.1 (sg c.2.1) ∧ b + 1 ≤ c.1 ∧ c.1 ≤ t.length ∧ c.2.1.length ≤ c.1) (fun c => t.length + 2 - c.1) (b + 1, Str.ofString "", _, _) F1 (cb_drop N1 fun _ h => .tail _ h) trivial ?k0 ?p0 ?turn ?own
  case own => passes_own
  case k0 => kst_all
  case p0 => exact ⟨strAt_start _ _, Nat.le_refl _, hbl, Nat.zero_le _⟩
  case turn =>
    intro c u h tk _ hP F2 N2
    obtain ⟨ci, ys, ti, tj⟩ := c
    obtain ⟨p1, p2, p3, p4⟩ := hP
    dsimp only at *
    k_steps
    · unfold Stop
      rename News _ _ _ _ => N3
      rename Fr _ _ _ _ => F3
      refine' ksw_while (σ := Nat × Tok) (fun _ => news) (fun c => [("run", .int (c.1 : Int) c.2)]) (fun _ => True) []
        (fun c => (sg t).drop ci = List.replicate c.1 34 ++ (sg t).drop (ci + c.1) ∧ ci + c.1 ≤ t.length) (fun c => t.length + 2 - (ci + c.1)) (0, _) F3 N3 trivial ?k0 ?p0 ?turn ?own
      case own => passes_own
      case k0 => kst_all
      case p0 => exact ⟨rfl, p3⟩
      case turn =>
        intro c u h tk _ hP F2 N2
        obtain ⟨r, tr⟩ := c
        obtain ⟨r1, r2⟩ := hP
        dsimp only at *
        have er : (ci : Int) + (r : Int) = ((ci + r : Nat) : Int) := rfl
        k_steps
        all_goals (rename Fr _ _ _ _ => kF; rename News _ _ _ _ => kN)
        · rename (_ == _) = true => hq
          rw [er, quote_is] at hq
          obtain ⟨hh1, hh2⟩ := drop_head (slice_yes r2 hq)
          rw [sg_len] at hh2
          refine' ksw_end (r + 1, _) kF kN (fun _ h => h) trivial ?hk ?hr ⟨?hp, ?hp2⟩ ?hm
          case hk => kst_all
          case hr => walk_at "my_same"
          case hp =>
            dsimp only
            rw [r1, hh1, List.replicate_succ', List.append_assoc]
            rfl
          case hp2 => exact hh2
          case hm => dsimp only; omega
        all_goals (rename (Txt.slice _ _ _ == _) = false => hq)
        all_goals (rw [er, quote_is] at hq)
        all_goals (have hno := slice_no r2 hq)
        · rename Int.fmod _ _ = 1 => hm
          rw [fmod2] at hm
          obtain ⟨k, rfl⟩ : ∃ k, r = 2 * k + 1 := ⟨r / 2, by omega⟩
          refine ret _ (ci + (2 * k + 1)) _ _ _ _ _ _ _ _ (strAt_odd p1 r1 hno) ?_ kF kN (by walk_at "my_lts") (by walk_at "my_lts")
          rw [sg_app, fdiv2, show (2 * k + 1) / 2 = k from by omega, mul_sg]
        · rename (r : Int) = 0 => hz
          obtain rfl : r = 0 := by omega
          obtain ⟨x1, g1, g2⟩ := head_item (t := t) (k := ci) (by assumption)
          have hx1 : x1 ≠ 34 := fun e => hno (by rw [Nat.add_zero, g2, e])
          refine' ksw_end (ci + 1, _, _, _) kF kN (fun _ h => h) trivial ?jk ?jr ⟨?jp, ?jp2, ?jp3, ?jp4⟩ ?jm
          case jk => kst_all
          case jr => walk_at "my_same"
          case jp =>
            dsimp only
            rw [sg_app, sg_app, fdiv2, mul_sg, g1]
            have := strAt_sign p1 (drop_head g2).1 hx1
            simpa using this
          case jp2 => dsimp only; omega
          case jp3 => dsimp only; omega
          case jp4 =>
            dsimp only
            rw [fdiv2] at *
            omega
          case jm => dsimp only; omega
        · rename (r : Int) ≠ 0 => hz
          rename Int.fmod _ _ ≠ 1 => hm
          rw [fmod2] at hm
          obtain ⟨k, rfl⟩ : ∃ k, r = 2 * k := ⟨r / 2, by omega⟩
          have hgt : ((2 * k : Nat) : Int) > 1 := by omega
          simp only [hgt, if_true, er] at kF
          refine' ksw_end (ci + 2 * k, _, _, _) kF kN (fun _ h => h) trivial ?lk ?lr ⟨?lp, ?lp2, ?lp3, ?lp4⟩ ?lm
          case lk => kst_all
          case lr => walk_at "my_same"
          case lp =>
            dsimp only
            rw [sg_app, fdiv2, show 2 * k / 2 = k from by omega, mul_sg]
            exact strAt_even p1 r1
          case lp2 => dsimp only; omega
          case lp3 => dsimp only; omega
          case lp4 =>
            dsimp only
            rw [fdiv2] at *
            omega
          case lm => dsimp only; omega
    · rename Fr _ _ _ _ => kF
      rename News _ _ _ _ => kN
      refine bad _ _ _ _ (strAt_none p1 ?_) kF kN (by walk_at "my_lts")
      rw [List.drop_eq_nil_of_le (by rw [sg_len]; omega)]
      exact fun h => nomatch h

end
section
local macro_rules | `(tactic| walk_at "my_pad0") => `(tactic| skip)
local macro_rules | `(tactic| walk_at "my_pad1") => `(tactic| skip)
local macro_rules | `(tactic| walk_at "my_pad2") => `(tactic| skip)
local macro_rules | `(tactic| walk_at "my_pad3") => `(tactic| skip)
local macro_rules | `(tactic| walk_at "my_pad4") => `(tactic| skip)
local macro_rules | `(tactic| walk_at "my_pad5") => `(tactic| skip)
local macro_rules | `(tactic| walk_at "call ref") => `(tactic| ((with_reducible show wpAny _ _ (call (Value.ref 76) [Value.str _ _, Value.int _ _]) _ _ _); (refine' fault_call ?k1 ?k2 ?k3 ?k4 ?k5 ?k6 ?k7 ?k8 ?_; (case k1 => k_asm); (case k2 => k_asm); (case k3 => k_asm); (case k4 => k_asm); (case k5 => k_asm); (case k6 => walk_at "my_kind"); (case k7 => walk_at "my_room"); (case k8 => walk_at "my_room")); intro e' T' dx' k3' k4' h' tk' F' N' l1; (try k_sweep)))
local macro_rules | `(tactic| walk_at "compareOp In str ref") => `(tactic| ((with_reducible show wpAny _ _ (compareOp CmpOp.In (Value.str _ _) (Value.ref 207)) _ _ _); (refine' in_K_strs (ys := reserved) ?k1 ?k2 ?k3 ?_; (case k1 => k_asm); (case k2 => k_asm); (case k3 => kernel_rfl)); (rw [any_is])))
theorem law_bars_call {w : World} {mean : ExcName → Option Value} {mg mb : Str → Option Value} {dp un : Nat} {gd : Option (List Code)} {cn : Str} {cs : Scope} {a : Addr} {ccd : Value} {cl : List (Str × Addr)} {outer : List Env} {A₀ : Around} {base h₀ : Heap} {L : Addr} {m : Str → Option Value} {s : Shared} {Q E : Value → Shared → Prop} {t1 t2 : Tok} {t : Str} {b : Nat} {news : List (Addr × Obj)} (B : Below A₀ base outer h₀) (F : Fr h₀ L s.heap m) (X : (hd.heap_39 w.params).In h₀) (T : Top hd.view_39 (looseW hd.view_39 [Str.ofString "SIMPLE"]) mean mg mb h₀) (hcs : cs.kind = .function) (hdp : dp + 40 < recursionLimit) (hun : un + 400 < cLine)
   (N : News h₀ L s.heap news) (hbl : b < t.length) (hl : t.length ≤ 2000)
   (ret : ∀ c k p r y k3 k4 k5 h' tk', barRes (sg t) b = .good c k → sg y = c → Fr h₀ L h' m → News h₀ L h' ((p, tupObj [.ref r, .int (k : Int) k5]) :: (r, tupObj [.str "sym" k3, .str (told y) k4]) :: news) →
     (∀ q ∈ (r, tupObj [.str "sym" k3, .str (told y) k4]) :: news, q.1 < p) → (∀ q ∈ news, q.1 < r) → Q (.ref p) { s with heap := h', toks := tk' })
   (bad : ∀ p k k5 h' tk', barRes (sg t) b = .bad k → Fr h₀ L h' m → News h₀ L h' ((p, tupObj [.none, .int (k : Int) k5]) :: news) → (∀ q ∈ news, q.1 < p) → Q (.ref p) { s with heap := h', toks := tk' }) :
   wpAny (model Challenge.rw_qz0006_02.row.prog w) (ktrTop dp un gd cn cs L a ccd cl outer) (call (.ref 233) [.str t t1, .int (b : Int) t2]) Q E s := by
  w_top off
  revert X; k_fill; intro X; refine wpAny_call ?_; k_dflt cell_enter
  have hi : (0 : Int) ≤ (b : Int) := Int.natCast_nonneg b
  have hil : (b : Int) < (t.length : Int) := by omega
  k_steps
  rename List.map _ _ = Txt.splitMax _ _ _ => hsp
  rename News _ _ _ _ => N1
  rename Fr _ _ _ _ => F1
  rename StrsAre _ _ => hst
  have hsl : sg (Txt.slice t (some ((b : Int) + 1)) none) = (sg t).drop (b + 1) := slice_from (by omega) (by omega)
  rw [bar_is] at hsp
  rcases split1 (Txt.slice t (some ((b : Int) + 1)) none) (c := 124) (by decide) with ⟨hn, hs⟩ | ⟨p, q, hs, hc, hn⟩
  · rw [hs] at hsp
    obtain ⟨k7, rfl⟩ := one_of hsp
    clear hst
    simp only [strValues, List.map_cons, List.map_nil] at N1
    k_steps
    rename Fr _ _ _ _ => kF
    rename News _ _ _ _ => kN
    refine' bad _ b _ _ _ (barRes_none (by rw [← hsl]; exact hn)) kF (cb_drop kN ?b1) ?b2
    case b1 => walk_at "my_sub"
    case b2 => walk_at "my_lts"
  · rw [hs] at hsp
    obtain ⟨k7, k8, rfl⟩ := two_of hsp
    clear hst
    simp only [strValues, List.map_cons, List.map_nil] at N1
    have hlen := congrArg List.length hc
    rw [hsl, List.length_drop, List.length_append, List.length_cons, sg_len, sg_len, sg_len] at hlen
    have hpl : p.length ≤ 2000 := by omega
    clear hsp
    k_steps
    all_goals (rw [slash_is] at *)
    · rename List.isEmpty _ = true => hem
      rename List.contains _ _ = true => hre
      rename Fr _ _ _ _ => kF
      rename News _ _ _ _ => kN
      have h92 : 92 ∉ sg p := fun hm => by
        have := StrLaws.found_one p 92
        rw [hem, decide_eq_true hm] at this
        cases this
      rw [← (if_pos hre : told p = _)] at kN
      refine' ret _ (b + 2 + p.length) _ _ _ _ _ _ _ _ (by rw [barRes_good (hsl.symm.trans hc) hn h92, sg_len]) rfl kF (cb_drop kN ?b1) ?b2 ?b3
      case b1 => walk_at "my_sub"
      case b2 => walk_at "my_lts"
      case b3 => walk_at "my_lts"
    · rename List.isEmpty _ = true => hem
      rename List.contains _ _ = false => hre
      rename Fr _ _ _ _ => kF
      rename News _ _ _ _ => kN
      have h92 : 92 ∉ sg p := fun hm => by
        have := StrLaws.found_one p 92
        rw [hem, decide_eq_true hm] at this
        cases this
      have ht : told p = p := if_neg (by rw [hre]; decide)
      refine' ret _ (b + 2 + p.length) _ _ _ _ _ _ _ _ (by rw [barRes_good (hsl.symm.trans hc) hn h92, sg_len]) rfl kF ?c1 ?c2 ?c3
      case c1 => (rw [ht]; refine cb_drop kN ?_; walk_at "my_sub")
      case c2 => walk_at "my_lts"
      case c3 => walk_at "my_lts"
    · rename List.isEmpty _ = false => hem
      rename List.map _ _ = Txt.split _ _ => hsp2
      rename _ = some _ => hy
      obtain ⟨z, r, hzr, hz⟩ := split_first p (c := 92) (by decide)
      rw [hsp2, hzr] at hy
      obtain rfl := Option.some.inj hy
      rcases hz with ⟨h92, _⟩ | ⟨q2, e2, h92⟩
      · have := StrLaws.found_one p 92
        rw [hem, decide_eq_false h92] at this
        cases this
      · have hle := congrArg List.length e2
        rw [sg_len, List.length_append, sg_len] at hle
        have hzl : z.length ≤ 2000 := by omega
        k_steps
        rename Fr _ _ _ _ => kF
        rename News _ _ _ _ => kN
        refine' bad _ (b + 1 + z.length) _ _ _ (by rw [barRes_slash (hsl.symm.trans hc) hn e2 h92, sg_len]) kF (cb_drop kN ?d1) ?d2
        case d1 => walk_at "my_sub"
        case d2 => walk_at "my_lts"

end
section
local macro_rules | `(tactic| walk_at "my_pad0") => `(tactic| skip)
local macro_rules | `(tactic| walk_at "my_pad1") => `(tactic| skip)
local macro_rules | `(tactic| walk_at "my_pad2") => `(tactic| skip)
local macro_rules | `(tactic| walk_at "my_pad3") => `(tactic| skip)
local macro_rules | `(tactic| walk_at "my_pad4") => `(tactic| skip)
local macro_rules | `(tactic| walk_at "my_pad5") => `(tactic| skip)
local macro_rules | `(tactic| walk_at "my_pad6") => `(tactic| skip)
local macro_rules | `(tactic| walk_at "call ref") => `(tactic| ((with_reducible show wpAny _ _ (call (Value.ref 76) [Value.str _ _, Value.int _ _]) _ _ _); (refine' fault_call ?k1 ?k2 ?k3 ?k4 ?k5 ?k6 ?k7 ?k8 ?_; (case k1 => k_asm); (case k2 => k_asm); (case k3 => k_asm); (case k4 => k_asm); (case k5 => k_asm); (case k6 => walk_at "my_kind"); (case k7 => walk_at "my_room"); (case k8 => walk_at "my_room")); intro e' T' dx' k3' k4' h' tk' F' N' l1; (try k_sweep)))
abbrev FeedIs (w : World) (o : Obj) (lc : Addr) (turn : Int) (t2 : Tok) : Prop := o.IsDictOf (PySem.strKind Challenge.rw_qz0006_02.row.prog w) [(Str.ofString "cells", .ref lc), (Str.ofString "turn", .int turn t2)]
local macro_rules | `(tactic| walk_at "setItem ref str") => `(tactic| (k_dflt (refine' kda_set (knd := PySem.strKind _ _) ?F ?N ?U ?d (strKind_is _ _ _ _) ?z ?_; (case F => k_asm); (case N => k_asm); (case U => k_updF); (case d => assumption); (case z => rw [sizeLine_eq]; exact Nat.le_of_ble_eq_true (by with_unfolding_all rfl))); intro h' o' F' N' d'; (try dsimp only at N'); (with_unfolding_all change Obj.IsDictOf _ _ [(("cells" : Str), Value.ref _), (("turn" : Str), Value.int _ _)] at d'); (try k_sweep)))
theorem len_ints_K {prog : Program} {w : World} {A : Around} {E Q : Value → Shared → Prop} {s : Shared} {h₀ : Heap} {L l : Addr} {news : List (Addr × Obj)} {vs : List Value} {ns : List Int} {n : Nat} (N : News h₀ L s.heap news) (hm : (l, listOf vs.toArray n) ∈ news) (hv : IntsAre vs ns) (hl : vs.length ≤ 40)
    (h : Q (.int ns.length (s.toks + 1)) { s with toks := s.toks + 1 + 1 }) : wpAny (model prog w) A (call (.builtin "len") [.ref l]) Q E s := by
  w_top off
  have e : vs.toArray.size = ns.length := by rw [List.size_toArray, hv.length]
  refine len_list (News.isList N hm) ?_ (by rw [e]; exact h)
  rw [List.size_toArray]
  omega
local macro_rules | `(tactic| walk_at "call builtin:len") => `(tactic| (k_dflt (refine' len_ints_K ?k1 ?k2 ?k3 ?k4 ?_; (case k1 => k_asm); (case k2 => k_mem); (case k3 => assumption); (case k4 => assumption))))
theorem draw_call {w : World} {mean : ExcName → Option Value} {mg mb : Str → Option Value} {dp un : Nat} {gd : Option (List Code)} {cn : Str} {cs : Scope} {a : Addr} {ccd : Value} {cl : List (Str × Addr)} {outer : List Env} {A₀ : Around} {base h₀ : Heap} {L : Addr} {m : Str → Option Value} {s : Shared} {Q E : Value → Shared → Prop} {f lc : Addr} {o : Obj} {t2 tw : Tok} {turn : Nat} {wide : Int} {vs : List Value} {ns : List Int} {n : Nat} {rest : List (Addr × Obj)} (B : Below A₀ base outer h₀) (F : Fr h₀ L s.heap m) (X : (hd.heap_39 w.params).In h₀) (T : Top hd.view_39 (looseW hd.view_39 [Str.ofString "SIMPLE"]) mean mg mb h₀) (hcs : cs.kind = .function) (hdp : dp + 10 < recursionLimit) (hun : un + 100 < cLine)
   (N : News h₀ L s.heap ((f, o) :: (lc, listOf vs.toArray n) :: rest)) (hd : o.IsDictOf (PySem.strKind Challenge.rw_qz0006_02.row.prog w) [(Str.ofString "cells", .ref lc), (Str.ofString "turn", .int (turn : Int) t2)]) (hrd : ∀ p ∈ (lc, listOf vs.toArray n) :: rest, p.1 ≠ f) (ht : turn ≤ 1000) (hw : 0 < wide) (hw2 : wide ≤ 13) (hv : IntsAre vs ns) (hn : ∀ n ∈ ns, 0 ≤ n ∧ n ≤ 1000003) (hvl : vs.length ≤ 40)
   (ret : ∀ v tv o' t3 h' tk', 0 ≤ v → v < wide → Fr h₀ L h' m → o'.IsDictOf (PySem.strKind Challenge.rw_qz0006_02.row.prog w) [(Str.ofString "cells", .ref lc), (Str.ofString "turn", .int ((turn + 1 : Nat) : Int) t3)] → News h₀ L h' ((f, o') :: (lc, listOf vs.toArray n) :: rest) → Q (.int v tv) { s with heap := h', toks := tk' }) :
   wpAny (model Challenge.rw_qz0006_02.row.prog w) (ktrTop dp un gd cn cs L a ccd cl outer) (call (.ref 214) [.ref f, .int wide tw]) Q E s := by
  w_top off
  revert X; k_fill; intro X; refine wpAny_call ?_; k_dflt cell_enter
  have ht0 : (0 : Int) ≤ (turn : Int) := Int.natCast_nonneg turn
  k_steps
  all_goals (rename Fr _ _ _ _ => kF; rename News _ _ _ _ => kN; rename Obj.IsDictOf _ _ _ => d')
  all_goals exact ret _ _ _ _ _ _ (fmod_lo _ hw) (fmod_hi _ hw) kF d' kN

theorem draw_any {w : World} {mean : ExcName → Option Value} {mg mb : Str → Option Value} {dp un : Nat} {gd : Option (List Code)} {cn : Str} {cs : Scope} {a : Addr} {ccd : Value} {cl : List (Str × Addr)} {outer : List Env} {A₀ : Around} {base h₀ : Heap} {L : Addr} {m : Str → Option Value} {s : Shared} {Q E : Value → Shared → Prop} {f lc : Addr} {o : Obj} {t2 tw : Tok} {turn : Nat} {wide : Int} {vs : List Value} {ns : List Int} {n : Nat} {news : List (Addr × Obj)} {g : Obj → List (Addr × Obj)} (B : Below A₀ base outer h₀) (F : Fr h₀ L s.heap m) (X : (hd.heap_39 w.params).In h₀) (T : Top hd.view_39 (looseW hd.view_39 [Str.ofString "SIMPLE"]) mean mg mb h₀) (hcs : cs.kind = .function) (hdp : dp + 10 < recursionLimit) (hun : un + 100 < cLine)
   (N : News h₀ L s.heap news) (U : UpdF f o news g) (hlc : (lc, listOf vs.toArray n) ∈ news) (hlf : lc ≠ f) (hd : o.IsDictOf (PySem.strKind Challenge.rw_qz0006_02.row.prog w) [(Str.ofString "cells", .ref lc), (Str.ofString "turn", .int (turn : Int) t2)]) (ht : turn ≤ 1000) (hw : 0 < wide) (hw2 : wide ≤ 13) (hv : IntsAre vs ns) (hn : ∀ n ∈ ns, 0 ≤ n ∧ n ≤ 1000003) (hvl : vs.length ≤ 40)
   (ret : ∀ v tv o' t3 h' tk', 0 ≤ v → v < wide → Fr h₀ L h' m → o'.IsDictOf (PySem.strKind Challenge.rw_qz0006_02.row.prog w) [(Str.ofString "cells", .ref lc), (Str.ofString "turn", .int ((turn + 1 : Nat) : Int) t3)] → News h₀ L h' (g o') → Q (.int v tv) { s with heap := h', toks := tk' }) :
   wpAny (model Challenge.rw_qz0006_02.row.prog w) (ktrTop dp un gd cn cs L a ccd cl outer) (call (.ref 214) [.ref f, .int wide tw]) Q E s := by
  w_top off
  obtain ⟨pre, post, rfl, hg, a1, a2⟩ := U.split
  refine draw_call (lc := lc) (n := n) (rest := pre ++ post) B F X T hcs hdp hun (cb_drop N ?_) hd ?_ ht hw hw2 hv hn hvl fun v tv o' t3 h' tk' p1 p2 F' d' N' => ret v tv o' t3 h' tk' p1 p2 F' d' (cb_drop N' ?_)
  · intro p hp
    rcases List.mem_cons.mp hp with rfl | hp
    · exact mid_mem
    · rcases List.mem_cons.mp hp with rfl | hp
      · exact hlc
      · rcases List.mem_append.mp hp with hp | hp
        · exact List.mem_append_left _ hp
        · exact List.mem_append_right _ (.tail _ hp)
  · intro p hp
    rcases List.mem_cons.mp hp with rfl | hp
    · exact hlf
    · rcases List.mem_append.mp hp with hp | hp
      · exact a1 p hp
      · exact a2 p hp
  · intro p hp
    rw [hg] at hp
    rcases List.mem_append.mp hp with hp | hp
    · exact .tail _ (.tail _ (List.mem_append_left _ hp))
    · rcases List.mem_cons.mp hp with rfl | hp
      · exact .head _
      · exact .tail _ (.tail _ (List.mem_append_right _ hp))

end
section
local macro_rules | `(tactic| walk_at "my_pad0") => `(tactic| skip)
local macro_rules | `(tactic| walk_at "my_pad1") => `(tactic| skip)
local macro_rules | `(tactic| walk_at "my_pad2") => `(tactic| skip)
local macro_rules | `(tactic| walk_at "call ref") => `(tactic| ((with_reducible show wpAny _ _ (call (Value.ref 76) [Value.str _ _, Value.int _ _]) _ _ _); (refine' fault_call ?k1 ?k2 ?k3 ?k4 ?k5 ?k6 ?k7 ?k8 ?_; (case k1 => k_asm); (case k2 => k_asm); (case k3 => k_asm); (case k4 => k_asm); (case k5 => k_asm); (case k6 => walk_at "my_kind"); (case k7 => walk_at "my_room"); (case k8 => walk_at "my_room")); intro e' T' dx' k3' k4' h' tk' F' N' l1; (try k_sweep)))
local macro_rules | `(tactic| walk_at "my_go0") => `(tactic| (refine' code_defS0 ?k1 ?k2 ?k3 ?k4 ?k5 ?kA ?k6 ?k7 ?k8 ?k9 ?kB ?_ ?cK ?c2 ?c3 ?c4 ?c5; (case kA => exact rfl); (case k2 => k_asm); (case k1 => k_asm); (case k3 => k_asm); (case k4 => k_asm); (case k5 => k_asm); (case k6 => k_is); (case k7 => k_is); (case k8 => ktr_room); (case k9 => exact BindsTo.of_eq rfl); (case kB => exact locs rfl); (case cK => assumption); (case c2 => exact rfl); (case c3 => exact rfl); (case c4 => exact rfl); (case c5 => decide); k_whole; intro g' L' h' FG' F' N' B' X' T' D'; (try dsimp only); (try k_lift B'); (try k_fold)))
local macro_rules | `(tactic| walk_at "my_goS") => `(tactic| (refine' code_defS ?k1 ?k2 ?k3 ?k4 ?k5 ?XB ?TB ?D ?T0 ?kA ?k6 ?k7 ?k8 ?k9 ?kB ?_ ?cK ?c2 ?c3 ?c4 ?c5; (case kA => exact rfl); (case k2 => k_asm); (case k1 => k_asm); (case XB => assumption); (case TB => assumption); (case D => assumption); (case T0 => first | assumption | exact KtsTurn.refl); (case k3 => k_asm); (case k4 => k_asm); (case k5 => k_asm); (case k6 => k_is); (case k7 => k_is); (case k8 => ktr_room); (case k9 => exact BindsTo.of_eq rfl); (case kB => exact locs rfl); (case cK => assumption); (case c2 => exact rfl); (case c3 => exact rfl); (case c4 => exact rfl); (case c5 => decide); k_whole; intro g' L' h' FG' F' N' B' X' T' D'; (try dsimp only); (try k_lift B'); (try k_fold)))
local macro_rules | `(tactic| walk_at "my_goC") => `(tactic| (refine' code_defC ?k1 ?k2 ?k3 ?k4 ?k5 ?kA ?kF ?kK ?k6 ?k7 ?k8 ?k9 ?kB ?kD ?_ ?c2 ?c3 ?c4; (case kA => exact rfl); (case kF => exact rfl); (case kK => assumption); (case k1 => k_asm); (case k2 => k_asm); (case k3 => k_asm); (case k4 => k_asm); (case k5 => k_asm); (case k6 => k_is); (case k7 => k_is); (case k8 => ktr_room); (case k9 => exact BindsTo.of_eq rfl); (case kB => exact rfl); (case kD => decide +kernel); (case c2 => exact rfl); (case c3 => exact rfl); (case c4 => exact rfl); k_whole; intro g' L' h' tk' cells' FG' F' N' Y' B' X' T' l1; (try k_lt l1); k_cells Y'; (try simp only [List.cons_append, List.nil_append] at N'); (try dsimp only); (try k_lift B'); (try k_fold)))
local macro_rules | `(tactic| walk_at "my_draw") => `(tactic| ((first | with_reducible show wpAny _ _ (call (Value.ref 214) _) _ _ _ | with_reducible show wpAny _ _ (call (Value.ref 214, _).fst _) _ _ _); k_dflt (refine' draw_any ?k1 ?k2 ?k3 ?k4 ?k5 ?k6 ?k7 ?k8 ?k9 ?k10 ?k11 ?k12 ?k13 ?k14 ?k15 ?k16 ?k17 ?k18 ?rt; (case k1 => k_asm); (case k2 => k_asm); (case k3 => k_asm); (case k4 => k_asm); (case k5 => walk_at "my_kind"); (case k6 => walk_at "my_room"); (case k7 => walk_at "my_room"); (case k8 => k_asm); (case k12 => assumption); (case k16 => assumption); (case k9 => k_updF); (case k10 => k_mem); (case k11 => assumption); (case k13 => omega); (case k14 => omega); (case k15 => omega); (case k17 => assumption); (case k18 => assumption); (intro v' tv' o' t3' h' tk' q1' q2' F' d' N'; (try dsimp only at N'); (try k_sweep)))))
local macro_rules | `(tactic| walk_at "call ref") => `(tactic| first | walk_at "my_draw")
local macro_rules | `(tactic| walk_at "eval ListComp") => `(tactic| refine stop_of ?_)
local macro_rules | `(tactic| walk_at "CompSrc") => `(tactic| refine stop_of ?_)
local macro_rules | `(tactic| walk_at "CompEnd") => `(tactic| refine stop_of ?_)
theorem sum_three : ∀ {l : List Str}, (∀ y ∈ l, y.length ≤ 3) → (l.map (·.length)).sum ≤ 3 * l.length
  | [], _ => Nat.le_refl _
  | a :: r, h => by
    have h1 := h a (.head _)
    have h2 := sum_three (l := r) fun y hy => h y (.tail _ hy)
    simp only [List.map_cons, List.sum_cons, List.length_cons]
    omega
def piecesL : List Str := [Str.ofString "\"", Str.ofString "\"", Str.ofString "|", Str.ofString "\\", Str.ofString "let", Str.ofString "!", Str.ofString "_", Str.ofString "a", Str.ofString " ", Str.ofString "\n", Str.ofString "(", Str.ofString ";", Str.ofString "é"]
theorem ok_empty : PyData.strOk Str.empty = true := by decide +kernel
theorem piece_len (j : Nat) : (piecesL.getD j Str.empty).length ≤ 3 ∧ PyData.strOk (piecesL.getD j Str.empty) = true := by
  w_top off
  have h : ∀ y ∈ piecesL, y.length ≤ 3 ∧ PyData.strOk y = true := by decide +kernel
  rw [List.getD_eq_getElem?_getD]
  cases hj : piecesL[j]? with
  | none => exact ⟨Nat.zero_le _, ok_empty⟩
  | some y => exact h y (List.mem_of_getElem? hj)
theorem ok_app {x y : Str} (hx : PyData.strOk x = true) (hy : PyData.strOk y = true) : PyData.strOk (x ++ y) = true := by
  w_top off
  unfold PyData.strOk at *
  rw [Str.cps_append, Array.all_append, hx, hy]
  rfl
theorem ok_join : ∀ {l : List Str}, (∀ y ∈ l, PyData.strOk y = true) → PyData.strOk (Str.join ⟨#[]⟩ l) = true
  | [], _ => ok_empty
  | a :: r, h => by
    rw [join_nil_cons]
    exact ok_app (h a (.head _)) (ok_join fun y hy => h y (.tail _ hy))
theorem some_call {w : World} {mean : ExcName → Option Value} {mg mb : Str → Option Value} {dp un : Nat} {gd : Option (List Code)} {cn : Str} {cs : Scope} {a : Addr} {ccd : Value} {cl : List (Str × Addr)} {outer : List Env} {A₀ : Around} {base h₀ : Heap} {L : Addr} {m : Str → Option Value} {s : Shared} {Q E : Value → Shared → Prop} {f lc : Addr} {o : Obj} {t2 tw : Tok} {turn : Nat} {most : Nat} {vs : List Value} {ns : List Int} {n : Nat} {rest : List (Addr × Obj)} (B : Below A₀ base outer h₀) (F : Fr h₀ L s.heap m) (X : (hd.heap_39 w.params).In h₀) (T : Top hd.view_39 (looseW hd.view_39 [Str.ofString "SIMPLE"]) mean mg mb h₀) (hcs : cs.kind = .function) (hdp : dp + 20 < recursionLimit) (hun : un + 200 < cLine)
   (N : News h₀ L s.heap ((f, o) :: (lc, listOf vs.toArray n) :: rest)) (hd : o.IsDictOf (PySem.strKind Challenge.rw_qz0006_02.row.prog w) [(Str.ofString "cells", .ref lc), (Str.ofString "turn", .int (turn : Int) t2)]) (hrd : ∀ p ∈ (lc, listOf vs.toArray n) :: rest, p.1 ≠ f) (hlf : lc ≠ f) (ht : turn ≤ 100) (hw : most ≤ 6) (hv : IntsAre vs ns) (hn : ∀ n ∈ ns, 0 ≤ n ∧ n ≤ 1000003) (hvl : vs.length ≤ 40)
   (ret : ∀ y ty o' t3 k h' tk', y.length ≤ 3 * most ∧ PyData.strOk y = true → Fr h₀ L h' m → k ≤ turn + most + 1 → o'.IsDictOf (PySem.strKind Challenge.rw_qz0006_02.row.prog w) [(Str.ofString "cells", .ref lc), (Str.ofString "turn", .int (k : Int) t3)] → News h₀ L h' ((f, o') :: (lc, listOf vs.toArray n) :: rest) → Q (.str y ty) { s with heap := h', toks := tk' }) :
   wpAny (model Challenge.rw_qz0006_02.row.prog w) (ktrTop dp un gd cn cs L a ccd cl outer) (call (.ref 219) [.ref f, .int (most : Int) tw]) Q E s := by
  w_top off
  revert X; k_fill; intro X; refine wpAny_call ?_; k_dflt (walk_at "my_goC")
  have ht0 : (0 : Int) ≤ (most : Int) := Int.natCast_nonneg most
  k_steps
  unfold Stop
  k_dflt (refine LCg.ListComp_U (F₀ := by k_asm) (by with_unfolding_all rfl) (by decide) (by rfl) (by decide) (by rfl) ?_)
  k_steps
  unfold Stop
  rename_i L1 z29 z28 z27 z26 z25 z24 l1 oc hoc v1 z19 o1 t3 z16 z15 q1 q2 z12 d1 z10 z9 z8 z7 z6 z5 hr kF kN z1
  obtain ⟨nv, rfl⟩ : ∃ nv : Nat, v1 = (nv : Int) := ⟨v1.toNat, by omega⟩
  refine LCg.CompSrc.range rfl kF kN hr (n := nv) (small_one (by omega) (by omega) (by omega) (by omega)) (by exact rangeSize_nat _ _) (by rw [sizeLine_eq]; omega) ?_
  intro g9
  refine comp_ind (n := nv) (σ := Obj × List Str × Nat × Tok) (fun c => (L1 + 1, oc) :: (f, c.1) :: (lc, listOf vs.toArray n) :: rest)
    (fun i c ys => StrsAre ys c.2.1 ∧ c.2.1.length = i ∧ (∀ y ∈ c.2.1, y.length ≤ 3 ∧ PyData.strOk y = true) ∧ c.2.2.1 = turn + 1 + i ∧ c.1.IsDictOf (PySem.strKind Challenge.rw_qz0006_02.row.prog w) [(Str.ofString "cells", .ref lc), (Str.ofString "turn", .int (c.2.2.1 : Int) c.2.2.2)]) ?step ?fin nv 0 (o1, [], turn + 1, t3) [] (Nat.zero_add _) ⟨.nil, rfl, List.forall_mem_nil _, rfl, d1⟩
  case step =>
    intro i c ys v I oI C oC D m2 h2 tk2 E2 hin hI hP hC hx F2 N2 off ne
    obtain ⟨o2, ts, turn2, t4⟩ := c
    obtain ⟨i1, i2, i3, i4, i5⟩ := hI
    obtain ⟨t7, rfl⟩ := hP
    dsimp only [LCg.Off3] at *
    k_steps
    rename Fr _ _ _ _ => kF
    rename News _ _ _ _ => kN
    rename Obj.IsDictOf _ _ _ => d9
    unfold Stop
    refine LCg.CompEnd.intro kF kN ((L1 + 1, oc) :: (f, _) :: (lc, listOf vs.toArray n) :: rest) (fun _ h => h) off trivial ⟨(_, ts ++ [_], turn2 + 1, _), rfl, StrsAre.append' i1 (.cons _ _ .nil), ?_, ?_, ?_, d9⟩
    · dsimp only
      rw [List.length_append, i2]
      rfl
    · intro y hy
      rcases List.mem_append.mp hy with hy | hy
      · exact i3 y hy
      · rw [List.mem_singleton.mp hy]
        exact piece_len _
    · dsimp only
      omega
  case fin =>
    intro c ys hI
    obtain ⟨o2, ts, turn2, t4⟩ := c
    obtain ⟨i1, i2, i3, i4, i5⟩ := hI
    dsimp only at *
    intro D h2 tk2 F2 N2 off
    have hs3 := sum_three fun y hy => (i3 y hy).1
    have hjo : PyData.strOk (Txt.join (Str.ofString "") ts) = true := by
      rw [txt_join, show Str.ofString "" = ⟨#[]⟩ from by decide +kernel]
      exact ok_join fun y hy => (i3 y hy).2
    have hjl : (Txt.join (Str.ofString "") ts).length ≤ 3 * most := by
      rw [txt_join, show Str.ofString "" = ⟨#[]⟩ from by decide +kernel, join_len]
      omega
    k_steps
    refine join_list (ys := ts) (News.isList N2 (.head _)) i1 (by rw [show (Str.ofString "").length = 0 from by decide +kernel]; omega) ?_
    intro t5 k5
    k_steps
    rename Fr _ _ _ _ => kF
    rename News _ _ _ _ => kN
    refine ret _ _ o2 t4 turn2 _ _ ⟨hjl, hjo⟩ kF (by omega) i5 (cb_drop kN ?_)
    walk_at "my_sub"

end
section
local macro_rules | `(tactic| walk_at "my_pad0") => `(tactic| skip)
local macro_rules | `(tactic| walk_at "my_pad1") => `(tactic| skip)
local macro_rules | `(tactic| walk_at "my_pad2") => `(tactic| skip)
local macro_rules | `(tactic| walk_at "my_pad3") => `(tactic| skip)
local macro_rules | `(tactic| walk_at "my_pad4") => `(tactic| skip)
local macro_rules | `(tactic| walk_at "my_pad5") => `(tactic| skip)
local macro_rules | `(tactic| walk_at "my_pad6") => `(tactic| skip)
local macro_rules | `(tactic| walk_at "my_pad7") => `(tactic| skip)
local macro_rules | `(tactic| walk_at "my_pad8") => `(tactic| skip)
local macro_rules | `(tactic| walk_at "call ref") => `(tactic| ((with_reducible show wpAny _ _ (call (Value.ref 76) [Value.str _ _, Value.int _ _]) _ _ _); (refine' fault_call ?k1 ?k2 ?k3 ?k4 ?k5 ?k6 ?k7 ?k8 ?_; (case k1 => k_asm); (case k2 => k_asm); (case k3 => k_asm); (case k4 => k_asm); (case k5 => k_asm); (case k6 => walk_at "my_kind"); (case k7 => walk_at "my_room"); (case k8 => walk_at "my_room")); intro e' T' dx' k3' k4' h' tk' F' N' l1; (try k_sweep)))
local macro_rules | `(tactic| walk_at "my_ls") => `(tactic| ((first | with_reducible show wpAny _ _ (call (Value.ref 226) _) _ _ _ | with_reducible show wpAny _ _ (call (Value.ref 226, _).fst _) _ _ _); k_dflt (refine' law_string_call ?k1 ?k2 ?k3 ?k4 ?k5 ?k6 ?k7 ?k8 ?k9 ?k10 ?rt ?ex; (case k1 => k_asm); (case k2 => k_asm); (case k3 => k_asm); (case k4 => k_asm); (case k5 => walk_at "my_kind"); (case k6 => walk_at "my_room"); (case k7 => walk_at "my_room"); (case k8 => k_asm); (case k9 => omega); (case k10 => k_asm); (case' rt => (intro c' k' p' r' y' k3' k4' k5' h' tk' q1' q2' F' N' l1 l2; (try k_lt l2); (try k_lt l1); (try k_sweep))); (case' ex => (intro p' k5' h' tk' q1' F' N' l1; (try k_lt l1); (try k_sweep))))))
local macro_rules | `(tactic| walk_at "my_lb") => `(tactic| ((first | with_reducible show wpAny _ _ (call (Value.ref 233) _) _ _ _ | with_reducible show wpAny _ _ (call (Value.ref 233, _).fst _) _ _ _); k_dflt (refine' law_bars_call ?k1 ?k2 ?k3 ?k4 ?k5 ?k6 ?k7 ?k8 ?k9 ?k10 ?rt ?ex; (case k1 => k_asm); (case k2 => k_asm); (case k3 => k_asm); (case k4 => k_asm); (case k5 => walk_at "my_kind"); (case k6 => walk_at "my_room"); (case k7 => walk_at "my_room"); (case k8 => k_asm); (case k9 => omega); (case k10 => k_asm); (case' rt => (intro c' k' p' r' y' k3' k4' k5' h' tk' q1' q2' F' N' l1 l2; (try k_lt l2); (try k_lt l1); (try k_sweep))); (case' ex => (intro p' k' k5' h' tk' q1' F' N' l1; (try k_lt l1); (try k_sweep))))))
local macro_rules | `(tactic| walk_at "call ref") => `(tactic| first | walk_at "my_ls" | walk_at "my_lb")
def itemD : Item → Dat
  | (false, c) => .tuple [.str (Str.ofString "str"), .str ⟨c.toArray⟩]
  | (true, c) => .tuple [.str (Str.ofString "sym"), .str (told ⟨c.toArray⟩)]
def resD (T : List Nat) : Dat := .tuple [.list ((res T).1.map itemD), .int (res T).2]
theorem str_of {y : Str} {c : List Nat} (h : sg y = c) : y = ⟨c.toArray⟩ := sg_inj h

theorem pick3 {h₀ h : Heap} {L : Addr} {a b c : Addr × Obj} {own news : List (Addr × Obj)} (N : News h₀ L h (a :: b :: c :: (own ++ news))) : News h₀ L h ((a :: c :: own) ++ news) := fun p hp => N p (by
  rcases List.mem_cons.mp hp with rfl | hp
  · exact .head _
  · exact .tail _ (.tail _ hp))
theorem pickE {p r l : Addr × Obj} {own news : List (Addr × Obj)} : ∀ q ∈ l :: ((r :: own) ++ news), q ∈ p :: r :: l :: (own ++ news) := fun q hq => by
  rcases List.mem_cons.mp hq with rfl | hq
  · exact .tail _ (.tail _ (.head _))
  · rcases List.mem_cons.mp hq with rfl | hq
    · exact .tail _ (.head _)
    · exact .tail _ (.tail _ (.tail _ hq))
theorem offE {r : Addr × Obj} {l : Addr} {own news : List (Addr × Obj)} (h : ∀ p ∈ own ++ news, p.1 ≠ l) (hr : @LT.lt Nat _ l r.1) : ∀ p ∈ (r :: own) ++ news, p.1 ≠ l := fun p hp => by
  rcases List.mem_cons.mp hp with rfl | hp
  · exact Ne.symm (Nat.ne_of_lt hr)
  · exact h p hp
theorem gone_call {w : World} {mean : ExcName → Option Value} {mg mb : Str → Option Value} {dp un : Nat} {gd : Option (List Code)} {cn : Str} {cs : Scope} {a : Addr} {ccd : Value} {cl : List (Str × Addr)} {outer : List Env} {A₀ : Around} {base h₀ : Heap} {L : Addr} {m : Str → Option Value} {s : Shared} {Q E : Value → Shared → Prop} {t1 : Tok} {t : Str} {news : List (Addr × Obj)} (B : Below A₀ base outer h₀) (F : Fr h₀ L s.heap m) (X : (hd.heap_39 w.params).In h₀) (T : Top hd.view_39 (looseW hd.view_39 [Str.ofString "SIMPLE"]) mean mg mb h₀) (hcs : cs.kind = .function) (hdp : dp + 60 < recursionLimit) (hun : un + 600 < cLine) (N : News h₀ L s.heap news) (hl : t.length ≤ 2000)
   (ret : ∀ r own h' tk', Fr h₀ L h' m → News h₀ L h' (own ++ news) → DatIn own (.ref r) (resD (sg t)) → Q (.ref r) { s with heap := h', toks := tk' }) :
   wpAny (model Challenge.rw_qz0006_02.row.prog w) (ktrTop dp un gd cn cs L a ccd cl outer) (call (.ref 247) [.str t t1]) Q E s := by
  w_top off
  revert X; k_fill; intro X; refine wpAny_call ?_; k_dflt cell_enter
  k_steps
  unfold Stop
  rename News _ _ _ _ => N1
  rename Fr _ _ _ _ => F1
  rename_i l' z8 l1 z6 z5 z4 z3 z2 z1
  refine' ksw_while (σ := Nat × List Value × List Item × Nat × List (Addr × Obj) × Tok) (fun c => (l', listOf c.2.1.toArray c.2.2.2.1) :: (c.2.2.2.2.1 ++ news)) (fun c => [("at", .int (c.1 : Int) c.2.2.2.2.2)]) (fun _ => True) ["item"]
    (fun c => GoAt (sg t) c.1 c.2.2.1 ∧ c.1 ≤ t.length ∧ DatAll c.2.2.2.2.1 c.2.1 (c.2.2.1.map itemD) ∧ (∀ p ∈ c.2.2.2.2.1 ++ news, p.1 ≠ l') ∧ c.2.2.1.length ≤ c.1) (fun c => t.length + 2 - c.1) (0, [], [], 0, [], _) F1 (cb_drop N1 ?n0) trivial ?k0 ?p0 ?turn ?own
  case own => passes_own
  case n0 => walk_at "my_sub"
  case k0 => kst_all
  case p0 => exact ⟨goAt_start _, Nat.zero_le _, .nil, fun p hp => Nat.ne_of_lt (l1 p hp), Nat.zero_le _⟩
  case turn =>
    intro c u h tk _ hP F2 N2
    obtain ⟨ci, vs, acc, n, own, ti⟩ := c
    obtain ⟨p1, p2, p3, p4, p5⟩ := hP
    dsimp only at *
    have hvs : vs.length ≤ 2000 := by rw [p3.length, List.length_map]; omega
    have hci : (0 : Int) ≤ (ci : Int) := Int.natCast_nonneg ci
    have hln : (sg t).length = t.length := sg_len t
    k_steps
    · rename List.isEmpty _ = true => ho
      rename Fr _ _ _ _ => kF
      rename News _ _ _ _ => kN
      unfold Stop
      obtain ⟨g1, g2⟩ := occ_yes (by assumption) ho
      refine' ksw_end (ci + 1, vs, acc, n, own, _) kF kN (fun _ h => h) trivial ?a1 ?a2 ⟨goAt_skip p1 (by omega) g1 g2, by dsimp only; omega, p3, p4, by dsimp only; omega⟩ ?a3
      case a1 => kst_all
      case a2 => walk_at "my_same"
      case a3 => dsimp only; omega
    · rename (_ == _) = true => hq
      rename Fr _ _ _ _ => kF
      rename News _ _ _ _ => kN
      rw [quote_is] at hq
      have hr := goAt_strEnd p1 (by omega) (item_yes (by assumption) hq) (by assumption)
      refine ret _ (_ :: _ :: own) _ _ kF (pick3 kN) ?_
      unfold resD
      rw [hr]
      exact .tuple (.head _) (.cons (.list (.tail _ (.head _)) (p3.mono fun p hp => .tail _ (.tail _ hp))) (.cons (.int _ _) .nil))
    · rename (_ == _) = true => hq
      rename Fr _ _ _ _ => kF
      rename News _ _ _ _ => kN
      rename strRes _ _ = _ => hs
      rename sg _ = _ => hy
      rw [quote_is] at hq
      simp only [List.push_toArray] at kN
      unfold Stop
      have hstr := str_of hy
      subst hstr
      have hps := strRes_pos hs
      have hpl := strRes_le (by omega) hs
      with_reducible rename l' < _ ∧ AllLt _ (own ++ news) => l9
      refine' ksw_end (_, _, acc ++ [(false, _)], _, _ :: own, _) kF kN pickE trivial ?b1 ?b2 ⟨goAt_str p1 (by omega) (item_yes (by assumption) hq) hs hps, ?b4, ?b5, offE p4 l9.1, ?b7⟩ ?b3
      case b1 => kst_all
      case b2 => walk_at "my_same"
      case b3 => dsimp only; omega
      case b4 => dsimp only; omega
      case b5 =>
        dsimp only
        rw [List.map_append]
        exact DatAll.append (p3.mono fun p hp => .tail _ hp) (.one (.tuple (.head _) (.cons (.str _ _) (.cons (.str _ _) .nil))))
      case b7 =>
        dsimp only
        rw [List.length_append, List.length_singleton]
        omega
    all_goals (first | (rename (Txt.item _ _ == _) = false => hq; rename List.isEmpty _ = false => ho; rw [quote_is] at hq; have hbar := (occ_no (by assumption) ho).resolve_left (item_no (by assumption) hq)) | skip)
    · rename Fr _ _ _ _ => kF
      rename News _ _ _ _ => kN
      have hr := goAt_barEnd p1 (by omega) hbar (by assumption)
      refine ret _ (_ :: _ :: own) _ _ kF (pick3 kN) ?_
      unfold resD
      rw [hr]
      exact .tuple (.head _) (.cons (.list (.tail _ (.head _)) (p3.mono fun p hp => .tail _ (.tail _ hp))) (.cons (.int _ _) .nil))
    · rename Fr _ _ _ _ => kF
      rename News _ _ _ _ => kN
      rename barRes _ _ = _ => hs
      rename sg _ = _ => hy
      simp only [List.push_toArray] at kN
      unfold Stop
      have hstr := str_of hy
      subst hstr
      have hps := barRes_pos hs
      have hpl := barRes_le (by omega) hs
      with_reducible rename l' < _ ∧ AllLt _ (own ++ news) => l9
      refine' ksw_end (_, _, acc ++ [(true, _)], _, _ :: own, _) kF kN pickE trivial ?b1 ?b2 ⟨goAt_bar p1 (by omega) hbar hs hps, ?b4, ?b5, offE p4 l9.1, ?b7⟩ ?b3
      case b1 => kst_all
      case b2 => walk_at "my_same"
      case b3 => dsimp only; omega
      case b4 => dsimp only; omega
      case b5 =>
        dsimp only
        rw [List.map_append]
        exact DatAll.append (p3.mono fun p hp => .tail _ hp) (.one (.tuple (.head _) (.cons (.str _ _) (.cons (.str _ _) .nil))))
      case b7 =>
        dsimp only
        rw [List.length_append, List.length_singleton]
        omega
    · rename Fr _ _ _ _ => kF
      rename News _ _ _ _ => kN
      have hr := goAt_end p1 (by omega)
      refine ret _ (_ :: _ :: own) _ _ kF kN ?_
      unfold resD
      rw [hr]
      exact .tuple (.head _) (.cons (.list (.tail _ (.head _)) (p3.mono fun p hp => .tail _ (.tail _ hp))) (.cons (.int _ _) .nil))

end
section
local macro_rules | `(tactic| walk_at "my_pad0") => `(tactic| skip)
local macro_rules | `(tactic| walk_at "my_pad1") => `(tactic| skip)
local macro_rules | `(tactic| walk_at "my_pad2") => `(tactic| skip)
local macro_rules | `(tactic| walk_at "my_pad3") => `(tactic| skip)
local macro_rules | `(tactic| walk_at "my_pad4") => `(tactic| skip)
local macro_rules | `(tactic| walk_at "my_pad5") => `(tactic| skip)
local macro_rules | `(tactic| walk_at "my_pad6") => `(tactic| skip)
local macro_rules | `(tactic| walk_at "my_pad7") => `(tactic| skip)
local macro_rules | `(tactic| walk_at "my_pad8") => `(tactic| skip)
local macro_rules | `(tactic| walk_at "my_pad9") => `(tactic| skip)
local macro_rules | `(tactic| walk_at "my_pad10") => `(tactic| skip)
local macro_rules | `(tactic| walk_at "my_pad11") => `(tactic| skip)
local macro_rules | `(tactic| walk_at "my_pad12") => `(tactic| skip)
local macro_rules | `(tactic| walk_at "my_pad13") => `(tactic| skip)
theorem sg_ok {t : Str} (h : PyData.strOk t = true) : ∀ a ∈ sg t, a < 0x110000 := fun a ha => by
  unfold PyData.strOk at h
  exact of_decide_eq_true (Array.all_eq_true_iff_forall_mem.mp h a (by simpa [sg] using ha))
theorem ok_sg {t : Str} (h : ∀ a ∈ sg t, a < 0x110000) : PyData.strOk t = true := by
  unfold PyData.strOk
  exact Array.all_eq_true_iff_forall_mem.mpr fun a ha => decide_eq_true (h a (by simpa [sg] using ha))
theorem told_ok {y : Str} (h : PyData.strOk y = true) : PyData.strOk (told y) = true := by
  have hb : PyData.strOk (Str.ofString "|") = true := by decide +kernel
  have happ : ∀ {x y : Str}, PyData.strOk x = true → PyData.strOk y = true → PyData.strOk (x ++ y) = true := fun {x y} hx hy => by
    unfold PyData.strOk at *
    rw [Str.cps_append, Array.all_append, hx, hy]
    rfl
  unfold told
  split
  · exact happ (happ hb h) hb
  · exact h
theorem str_in {T c : List Nat} {b k : Nat} (hT : ∀ a ∈ T, a < 0x110000) (h : strRes T b = some (c, k)) : ∀ a ∈ c, a < 0x110000 := strRes_all (P := fun a => a < 0x110000) (by decide) hT h
theorem bar_in {T c : List Nat} {b k : Nat} (hT : ∀ a ∈ T, a < 0x110000) (h : barRes T b = .good c k) : ∀ a ∈ c, a < 0x110000 := barRes_all (P := fun a => a < 0x110000) hT h
def Good (acc : List Item) : Prop := ∀ p ∈ acc, ∀ a ∈ p.2, a < 0x110000
theorem good_snoc {acc : List Item} {p : Item} (h : Good acc) (hp : ∀ a ∈ p.2, a < 0x110000) : Good (acc ++ [p]) := fun q hq => by
  rcases List.mem_append.mp hq with hq | hq
  · exact h q hq
  · rw [List.mem_singleton.mp hq]; exact hp
theorem go_good {T : List Nat} (hT : ∀ a ∈ T, a < 0x110000) : ∀ (f i : Nat) (acc : List Item), Good acc → Good (go T f i acc).1
  | 0, _, _, h => h
  | f + 1, i, acc, h => by
    rw [go]
    split
    · split
      · split
        · rename_i hs
          exact go_good hT f _ _ (good_snoc h (str_in hT hs))
        · exact h
      · split
        · split
          · rename_i hs
            exact go_good hT f _ _ (good_snoc h (bar_in hT hs))
          · exact h
        · exact go_good hT f _ _ h
    · exact h
theorem str_lit : PyData.strOk (Str.ofString "str") = true := by decide +kernel
theorem sym_lit : PyData.strOk (Str.ofString "sym") = true := by decide +kernel
theorem itemD_ok {p : Item} (h : ∀ a ∈ p.2, a < 0x110000) : kqdOk 1 (itemD p) = true := by
  have h1 : PyData.strOk ⟨p.2.toArray⟩ = true := ok_sg (by simpa [sg] using h)
  obtain ⟨b, c⟩ := p
  cases b with
  | false => simp only [itemD, kqdOk, List.all_cons, List.all_nil, str_lit, h1, Bool.and_self]
  | true => simp only [itemD, kqdOk, List.all_cons, List.all_nil, sym_lit, told_ok h1, Bool.and_self]
theorem resD_ok {t : Str} (h : PyData.strOk t = true) : kqdOk 3 (resD (sg t)) = true := by
  have hg : Good (res (sg t)).1 := go_good (sg_ok h) _ _ _ (fun _ hp => nomatch hp)
  have hl : ((res (sg t)).1.map itemD).all (kqdOk 1) = true := List.all_eq_true.mpr fun d hd => by
    obtain ⟨p, hp, rfl⟩ := List.mem_map.mp hd
    exact itemD_ok (hg p hp)
  simp only [resD, kqdOk, List.all_cons, List.all_nil, Bool.and_true]
  exact hl
theorem pair_ok {a y : Str} {k : Int} (ha : PyData.strOk a = true) (hy : PyData.strOk y = true) : kqdOk 2 (.tuple [.tuple [.str a, .str y], .int k]) = true := by
  simp only [kqdOk, List.all_cons, List.all_nil, ha, hy, Bool.and_self]
theorem none_ok {k : Int} : kqdOk 2 (.tuple [.none, .int k]) = true := by
  simp only [kqdOk, List.all_cons, List.all_nil, Bool.and_self]

end
section
local macro_rules | `(tactic| walk_at "my_pad0") => `(tactic| skip)
local macro_rules | `(tactic| walk_at "my_pad1") => `(tactic| skip)
local macro_rules | `(tactic| walk_at "my_pad2") => `(tactic| skip)
local macro_rules | `(tactic| walk_at "my_pad3") => `(tactic| skip)
local macro_rules | `(tactic| walk_at "my_pad4") => `(tactic| skip)
local macro_rules | `(tactic| walk_at "my_pad5") => `(tactic| skip)
local macro_rules | `(tactic| walk_at "call ref") => `(tactic| ((with_reducible show wpAny _ _ (call (Value.ref 76) [Value.str _ _, Value.int _ _]) _ _ _); (refine' fault_call ?k1 ?k2 ?k3 ?k4 ?k5 ?k6 ?k7 ?k8 ?_; (case k1 => k_asm); (case k2 => k_asm); (case k3 => k_asm); (case k4 => k_asm); (case k5 => k_asm); (case k6 => walk_at "my_kind"); (case k7 => walk_at "my_room"); (case k8 => walk_at "my_room")); intro e' T' dx' k3' k4' h' tk' F' N' l1; (try k_sweep)))
local macro_rules | `(tactic| walk_at "my_go0") => `(tactic| (refine' code_defS0 ?k1 ?k2 ?k3 ?k4 ?k5 ?kA ?k6 ?k7 ?k8 ?k9 ?kB ?_ ?cK ?c2 ?c3 ?c4 ?c5; (case kA => exact rfl); (case k2 => k_asm); (case k1 => k_asm); (case k3 => k_asm); (case k4 => k_asm); (case k5 => k_asm); (case k6 => k_is); (case k7 => k_is); (case k8 => ktr_room); (case k9 => exact BindsTo.of_eq rfl); (case kB => exact locs rfl); (case cK => assumption); (case c2 => exact rfl); (case c3 => exact rfl); (case c4 => exact rfl); (case c5 => decide); k_whole; intro g' L' h' FG' F' N' B' X' T' D'; (try dsimp only); (try k_lift B'); (try k_fold)))
local macro_rules | `(tactic| walk_at "my_goS") => `(tactic| (refine' code_defS ?k1 ?k2 ?k3 ?k4 ?k5 ?XB ?TB ?D ?T0 ?kA ?k6 ?k7 ?k8 ?k9 ?kB ?_ ?cK ?c2 ?c3 ?c4 ?c5; (case kA => exact rfl); (case k2 => k_asm); (case k1 => k_asm); (case XB => assumption); (case TB => assumption); (case D => assumption); (case T0 => first | assumption | exact KtsTurn.refl); (case k3 => k_asm); (case k4 => k_asm); (case k5 => k_asm); (case k6 => k_is); (case k7 => k_is); (case k8 => ktr_room); (case k9 => exact BindsTo.of_eq rfl); (case kB => exact locs rfl); (case cK => assumption); (case c2 => exact rfl); (case c3 => exact rfl); (case c4 => exact rfl); (case c5 => decide); k_whole; intro g' L' h' FG' F' N' B' X' T' D'; (try dsimp only); (try k_lift B'); (try k_fold)))
local macro_rules | `(tactic| walk_at "my_goC") => `(tactic| (refine' code_defC ?k1 ?k2 ?k3 ?k4 ?k5 ?kA ?kF ?kK ?k6 ?k7 ?k8 ?k9 ?kB ?kD ?_ ?c2 ?c3 ?c4; (case kA => exact rfl); (case kF => exact rfl); (case kK => assumption); (case k1 => k_asm); (case k2 => k_asm); (case k3 => k_asm); (case k4 => k_asm); (case k5 => k_asm); (case k6 => k_is); (case k7 => k_is); (case k8 => ktr_room); (case k9 => exact BindsTo.of_eq rfl); (case kB => exact rfl); (case kD => decide +kernel); (case c2 => exact rfl); (case c3 => exact rfl); (case c4 => exact rfl); k_whole; intro g' L' h' tk' cells' FG' F' N' Y' B' X' T' l1; (try k_lt l1); k_cells Y'; (try simp only [List.cons_append, List.nil_append] at N'); (try dsimp only); (try k_lift B'); (try k_fold)))
local macro_rules | `(tactic| walk_at "my_hs") => `(tactic| ((first | with_reducible show wpAny _ _ (call (Value.ref 240) _) _ _ _ | with_reducible show wpAny _ _ (call (Value.ref 240, _).fst _) _ _ _); k_dflt (refine' heard_str ?k1 ?k2 ?k3 ?k4 ?k5 ?xb ?tb ?dd ?t0 ?k6 ?k7 ?k8 ?k9 ?k10 ?k11 ?k12 ?rt ?ex; (case k1 => k_asm); (case k2 => k_asm); (case k3 => k_asm); (case k4 => k_asm); (case k5 => walk_at "my_kind"); (case xb => assumption); (case tb => assumption); (case dd => assumption); (case t0 => exact KtsTurn.refl); (case k6 => walk_at "my_room"); (case k7 => walk_at "my_room"); (case k8 => k_asm); (case k9 => k_asm); (case k10 => assumption); (case k11 => assumption); (case k12 => assumption); (case' rt => (intro c' k' p' r' y' k3' k4' k5' t3' h' tk' q1' q2' q3' F' N' l1 l2; (try k_lt l2); (try k_lt l1); (try k_sweep))); (case' ex => (intro g' p' k5' t3' i' h' tk' q1' T' K' X' P' D' F' N' l1; (try k_lift K'); (try k_lt l1); (try k_sweep))))))
local macro_rules | `(tactic| walk_at "my_hb") => `(tactic| ((first | with_reducible show wpAny _ _ (call (Value.ref 240) _) _ _ _ | with_reducible show wpAny _ _ (call (Value.ref 240, _).fst _) _ _ _); k_dflt (refine' heard_bar ?k1 ?k2 ?k3 ?k4 ?k5 ?xb ?tb ?dd ?t0 ?k6 ?k7 ?k8 ?k9 ?k10 ?k11 ?k12 ?rt ?ex; (case k1 => k_asm); (case k2 => k_asm); (case k3 => k_asm); (case k4 => k_asm); (case k5 => walk_at "my_kind"); (case xb => assumption); (case tb => assumption); (case dd => assumption); (case t0 => exact KtsTurn.refl); (case k6 => walk_at "my_room"); (case k7 => walk_at "my_room"); (case k8 => k_asm); (case k9 => k_asm); (case k10 => assumption); (case k11 => assumption); (case k12 => assumption); (case' rt => (intro c' k' p' r' y' k3' k4' k5' t3' h' tk' q1' q2' q3' F' N' l1 l2; (try k_lt l2); (try k_lt l1); (try k_sweep))); (case' ex => (intro g' k' p' k5' t3' h' tk' q1' q2' T' K' X' P' D' F' N' l1; (try k_lift K'); (try k_lt l1); (try k_sweep))))))
local macro_rules | `(tactic| walk_at "my_sign") => `(tactic| ((first | with_reducible show wpAny _ _ (call (Value.ref 135) _) _ _ _ | with_reducible show wpAny _ _ (call (Value.ref 135, _).fst _) _ _ _); k_dflt (refine' sign_call ?k1 ?k2 ?k3 ?k4 ?k5 ?k6 ?k7 ?k8 ?k9 ?k10 ?k11 ?k12 ?rt; (case k1 => k_asm); (case k2 => k_asm); (case k3 => k_asm); (case k4 => k_asm); (case k5 => walk_at "my_kind"); (case k6 => k_asm); (case k7 => walk_at "my_room"); (case k8 => walk_at "my_room"); (case k9 => k_mem); (case k10 => k_mem); (case k11 => k_asm); (case k12 => k_asm); (intro v' tk' h' t' q1' F' N'; (try subst v'); (try k_sweep)))))
local macro_rules | `(tactic| walk_at "call ref") => `(tactic| first | walk_at "my_sign")
local macro_rules | `(tactic| walk_at "call ref") => `(tactic| first
  | walk_at "my_sign"
  | ((first | with_reducible show wpAny _ _ (call (Value.ref 240) _) _ _ _ | with_reducible show wpAny _ _ (call (Value.ref 240, _).fst _) _ _ _); refine stop_of ?_))
theorem pickF {p r x d l : Addr × Obj} {own news : List (Addr × Obj)} : ∀ q ∈ x :: d :: l :: ((r :: own) ++ news), q ∈ p :: r :: x :: d :: l :: (own ++ news) := fun q hq => by
  rcases List.mem_cons.mp hq with rfl | hq
  · exact .tail _ (.tail _ (.head _))
  · rcases List.mem_cons.mp hq with rfl | hq
    · exact .tail _ (.tail _ (.tail _ (.head _)))
    · rcases List.mem_cons.mp hq with rfl | hq
      · exact .tail _ (.tail _ (.tail _ (.tail _ (.head _))))
      · rcases List.mem_cons.mp hq with rfl | hq
        · exact .tail _ (.head _)
        · exact .tail _ (.tail _ (.tail _ (.tail _ (.tail _ hq))))
theorem scanned_call {w : World} {mean : ExcName → Option Value} {mg mb : Str → Option Value} {dp un : Nat} {gd : Option (List Code)} {cn : Str} {cs : Scope} {a : Addr} {ccd : Value} {A₀ : Around} {base h₀ : Heap} {L : Addr} {m : Str → Option Value} {s : Shared} {Q E : Value → Shared → Prop} {t1 : Tok} {t : Str} {news : List (Addr × Obj)} (B : Below A₀ base [] h₀) (F : Fr h₀ L s.heap m) (X : (hd.heap_39 w.params).In h₀) (T : Top hd.view_39 (looseW hd.view_39 [Str.ofString "SIMPLE"]) mean mg mb h₀) (hcs : cs.kind = .function) (XB : (hd.heap_39 w.params).In base) (TB : Top hd.view_39 (looseW hd.view_39 [Str.ofString "SIMPLE"]) mean mg mb base) (hdp : dp + 80 < recursionLimit) (hun : un + 800 < cLine) (N : News h₀ L s.heap news) (hl : t.length ≤ 2000)
   (ret : ∀ r own h' tk', Fr h₀ L h' m → News h₀ L h' (own ++ news) → DatIn own (.ref r) (resD (sg t)) → Q (.ref r) { s with heap := h', toks := tk' }) :
   wpAny (model Challenge.rw_qz0006_02.row.prog w) (ktrTop dp un gd cn cs L a ccd [] []) (call (.ref 254) [.str t t1]) Q E s := by
  w_top off
  revert X XB; k_fill; intro X XB; refine wpAny_call ?_; k_dflt (walk_at "my_go0")
  k_steps
  unfold Stop
  rename News _ _ _ _ => N1
  rename Fr _ _ _ _ => F1
  rename_i x dx z25 l0 l1 z22 z21 z20 z19 z18 z17 z16 z15 z14 z13 z12 z11 z10 l' z8 l2 z6 z5 z4 z3 z2 z1
  have hxd : x ≠ dx := Ne.symm (Nat.ne_of_lt l1)
  have hld : l' ≠ dx := Ne.symm (Nat.ne_of_lt l2.2.1)
  refine' ksw_while (σ := Nat × List Value × List Item × Nat × List (Addr × Obj) × Tok) (fun c => (x, instObj 201 dx) :: (dx, scD w _ _ t1 c.2.2.2.2.2 t (c.1 : Int)) :: (l', listOf c.2.1.toArray c.2.2.2.1) :: (c.2.2.2.2.1 ++ news)) (fun _ => []) (fun _ => True) ["item", "behind"]
    (fun c => GoAt (sg t) c.1 c.2.2.1 ∧ c.1 ≤ t.length ∧ DatAll c.2.2.2.2.1 c.2.1 (c.2.2.1.map itemD) ∧ (∀ p ∈ c.2.2.2.2.1 ++ news, p.1 ≠ l') ∧ (∀ p ∈ c.2.2.2.2.1 ++ news, p.1 ≠ dx) ∧ c.2.2.1.length ≤ c.1) (fun c => t.length + 2 - c.1) (0, [], [], 0, [], _) F1 (cb_drop N1 ?n0) trivial (List.forall_mem_nil _) ?p0 ?turn ?own
  case own => passes_own
  case n0 => walk_at "my_sub"
  case p0 => exact ⟨goAt_start _, Nat.zero_le _, .nil, fun p hp => Nat.ne_of_lt (allLt_mem l2.2.2 p hp), fun p hp => Nat.ne_of_lt (l0 p hp), Nat.zero_le _⟩
  case turn =>
    intro c u h tk _ hP F2 N2
    obtain ⟨ci, vs, acc, n, own, ti⟩ := c
    obtain ⟨p1, p2, p3, p4, p6, p5⟩ := hP
    dsimp only at *
    have hvs : vs.length ≤ 2000 := by rw [p3.length, List.length_map]; omega
    have hci : (0 : Int) ≤ (ci : Int) := Int.natCast_nonneg ci
    have hln : (sg t).length = t.length := sg_len t
    have hrd : ∀ p ∈ (l', listOf vs.toArray n) :: (own ++ news), p.1 ≠ dx := List.forall_mem_cons.mpr ⟨hld, p6⟩
    k_steps
    · rename List.isEmpty _ = true => ho
      rename Fr _ _ _ _ => kF
      rename News _ _ _ _ => kN
      unfold Stop
      rw [show signAt t (ci : Int) = Txt.item t (ci : Int) from if_pos (by assumption)] at ho
      obtain ⟨g1, g2⟩ := occ_yes (by assumption) ho
      refine' ksw_end (ci + 1, vs, acc, n, own, _) kF kN (fun _ h => h) trivial (List.forall_mem_nil _) ?a2 ⟨goAt_skip p1 (by omega) g1 g2, by dsimp only; omega, p3, p4, p6, by dsimp only; omega⟩ ?a3
      case a2 => walk_at "my_same"
      case a3 => dsimp only; omega
    · rename List.isEmpty _ = false => ho
      unfold Stop
      rw [show signAt t (ci : Int) = Txt.item t (ci : Int) from if_pos (by assumption)] at ho
      rcases occ_no (by assumption) ho with h34 | h124
      · walk_at "my_hs"
        all_goals k_steps
        all_goals (rename Fr _ _ _ _ => kF; rename News _ _ _ _ => kN)
        · have hr := goAt_strEnd p1 (by omega) h34 (by assumption)
          refine ret _ (_ :: _ :: _ :: _ :: _ :: own) _ _ kF kN ?_
          unfold resD
          rw [hr]
          exact .tuple (.head _) (.cons (.list (.tail _ (.tail _ (.tail _ (.tail _ (.head _))))) (p3.mono fun p hp => .tail _ (.tail _ (.tail _ (.tail _ (.tail _ hp)))))) (.cons (.int _ _) .nil))
        · rename strRes _ _ = _ => hs
          rename sg _ = _ => hy
          simp only [List.push_toArray] at kN
          unfold Stop
          have hstr := str_of hy
          subst hstr
          have hps := strRes_pos hs
          have hpl := strRes_le (by omega) hs
          with_reducible rename x < _ ∧ dx < _ ∧ l' < _ ∧ AllLt _ (own ++ news) => l9
          refine' ksw_end (_, _, acc ++ [(false, _)], _, _ :: own, _) kF kN pickF trivial (List.forall_mem_nil _) ?b2 ⟨goAt_str p1 (by omega) h34 hs hps, ?b4, ?b5, offE p4 l9.2.2.1, offE p6 l9.2.1, ?b7⟩ ?b3
          case b2 => walk_at "my_same"
          case b3 => dsimp only; omega
          case b4 => dsimp only; omega
          case b5 =>
            dsimp only
            rw [List.map_append]
            exact DatAll.append (p3.mono fun p hp => .tail _ hp) (.one (.tuple (.head _) (.cons (.str _ _) (.cons (.str _ _) .nil))))
          case b7 =>
            dsimp only
            rw [List.length_append, List.length_singleton]
            omega
      · walk_at "my_hb"
        all_goals k_steps
        all_goals (rename Fr _ _ _ _ => kF; rename News _ _ _ _ => kN)
        · have hr := goAt_barEnd p1 (by omega) h124 (by assumption)
          refine ret _ (_ :: _ :: _ :: _ :: _ :: own) _ _ kF kN ?_
          unfold resD
          rw [hr]
          exact .tuple (.head _) (.cons (.list (.tail _ (.tail _ (.tail _ (.tail _ (.head _))))) (p3.mono fun p hp => .tail _ (.tail _ (.tail _ (.tail _ (.tail _ hp)))))) (.cons (.int _ _) .nil))
        · rename barRes _ _ = _ => hs
          rename sg _ = _ => hy
          simp only [List.push_toArray] at kN
          unfold Stop
          have hstr := str_of hy
          subst hstr
          have hps := barRes_pos hs
          have hpl := barRes_le (by omega) hs
          with_reducible rename x < _ ∧ dx < _ ∧ l' < _ ∧ AllLt _ (own ++ news) => l9
          refine' ksw_end (_, _, acc ++ [(true, _)], _, _ :: own, _) kF kN pickF trivial (List.forall_mem_nil _) ?b2 ⟨goAt_bar p1 (by omega) h124 hs hps, ?b4, ?b5, offE p4 l9.2.2.1, offE p6 l9.2.1, ?b7⟩ ?b3
          case b2 => walk_at "my_same"
          case b3 => dsimp only; omega
          case b4 => dsimp only; omega
          case b5 =>
            dsimp only
            rw [List.map_append]
            exact DatAll.append (p3.mono fun p hp => .tail _ hp) (.one (.tuple (.head _) (.cons (.str _ _) (.cons (.str _ _) .nil))))
          case b7 =>
            dsimp only
            rw [List.length_append, List.length_singleton]
            omega
    · rename Fr _ _ _ _ => kF
      rename News _ _ _ _ => kN
      have hr := goAt_end p1 (by omega)
      refine ret _ (_ :: _ :: _ :: _ :: own) _ _ kF kN ?_
      unfold resD
      rw [hr]
      exact .tuple (.head _) (.cons (.list (.tail _ (.tail _ (.tail _ (.head _)))) (p3.mono fun p hp => .tail _ (.tail _ (.tail _ (.tail _ hp))))) (.cons (.int _ _) .nil))

end
section
local macro_rules | `(tactic| walk_at "call ref") => `(tactic| ((with_reducible show wpAny _ _ (call (Value.ref 76) [Value.str _ _, Value.int _ _]) _ _ _); (refine' fault_call ?k1 ?k2 ?k3 ?k4 ?k5 ?k6 ?k7 ?k8 ?_; (case k1 => k_asm); (case k2 => k_asm); (case k3 => k_asm); (case k4 => k_asm); (case k5 => k_asm); (case k6 => walk_at "my_kind"); (case k7 => walk_at "my_room"); (case k8 => walk_at "my_room")); intro e' T' dx' k3' k4' h' tk' F' N' l1; (try k_sweep)))
local macro_rules | `(tactic| walk_at "my_some") => `(tactic| ((first | with_reducible show wpAny _ _ (call (Value.ref 219) _) _ _ _ | with_reducible show wpAny _ _ (call (Value.ref 219, _).fst _) _ _ _); refine stop_of ?_))
local macro_rules | `(tactic| walk_at "my_hs0") => `(tactic| ((first | with_reducible show wpAny _ _ (call (Value.ref 240) [_, Value.str ("string" : Str) _]) _ _ _ | with_reducible show wpAny _ _ (call (Value.ref 240, _).fst _) _ _ _); k_dflt (refine' heard_string0 ?k1 ?k2 ?k3 ?k4 ?k5 ?xb ?tb ?k6 ?k7 ?k8 ?k9 ?k10 ?k11 ?k12 ?rt ?ex; (case k1 => k_asm); (case k2 => k_asm); (case k3 => k_asm); (case k4 => k_asm); (case k5 => exact rfl); (case xb => k_asm); (case tb => k_asm); (case k6 => walk_at "my_room2"); (case k7 => walk_at "my_room2"); (case k8 => k_asm); (case k9 => exact Ne.symm (Nat.ne_of_lt (by assumption))); (case k10 => exact fun p9 h9 => Nat.ne_of_lt ((by assumption : ∀ (p : Addr × Obj), p ∈ _ → p.1 < _) p9 h9)); (case k11 => assumption); (case k12 => omega); (case' rt => (intro c' k' p' r' y' k3' k4' k5' t3' h' tk' q1' q2' q3' F' N' l1 l2; (try k_lt l2); (try k_lt l1); (try k_sweep))); (case' ex => (intro p' k5' t3' i' h' tk' q1' F' N' l1; (try k_lt l1); (try k_sweep))))))
local macro_rules | `(tactic| walk_at "my_hb0") => `(tactic| ((first | with_reducible show wpAny _ _ (call (Value.ref 240) [_, Value.str ("quoted" : Str) _]) _ _ _ | with_reducible show wpAny _ _ (call (Value.ref 240, _).fst _) _ _ _); k_dflt (refine' heard_quoted0 ?k1 ?k2 ?k3 ?k4 ?k5 ?xb ?tb ?k6 ?k7 ?k8 ?k9 ?k10 ?k11 ?k12 ?rt ?ex; (case k1 => k_asm); (case k2 => k_asm); (case k3 => k_asm); (case k4 => k_asm); (case k5 => exact rfl); (case xb => k_asm); (case tb => k_asm); (case k6 => walk_at "my_room2"); (case k7 => walk_at "my_room2"); (case k8 => k_asm); (case k9 => exact Ne.symm (Nat.ne_of_lt (by assumption))); (case k10 => exact fun p9 h9 => Nat.ne_of_lt ((by assumption : ∀ (p : Addr × Obj), p ∈ _ → p.1 < _) p9 h9)); (case k11 => assumption); (case k12 => omega); (case' rt => (intro c' k' p' r' y' k3' k4' k5' t3' h' tk' q1' q2' q3' F' N' l1 l2; (try k_lt l2); (try k_lt l1); (try k_sweep))); (case' ex => (intro k' p' k5' t3' h' tk' q1' q2' F' N' l1; (try k_lt l1); (try k_sweep))))))
local macro_rules | `(tactic| walk_at "my_ls") => `(tactic| ((first | with_reducible show wpAny _ _ (call (Value.ref 226) _) _ _ _ | with_reducible show wpAny _ _ (call (Value.ref 226, _).fst _) _ _ _); k_dflt (refine' law_string_call ?k1 ?k2 ?k3 ?k4 ?k5 ?k6 ?k7 ?k8 ?k9 ?k10 ?rt ?ex; (case k1 => k_asm); (case k2 => k_asm); (case k3 => k_asm); (case k4 => k_asm); (case k5 => walk_at "my_kind"); (case k6 => walk_at "my_room"); (case k7 => walk_at "my_room"); (case k8 => k_asm); (case k9 => omega); (case k10 => k_asm); (case' rt => (intro c' k' p' r' y' k3' k4' k5' h' tk' q1' q2' F' N' l1 l2; (try k_lt l2); (try k_lt l1); (try k_sweep))); (case' ex => (intro p' k5' h' tk' q1' F' N' l1; (try k_lt l1); (try k_sweep))))))
local macro_rules | `(tactic| walk_at "my_lb") => `(tactic| ((first | with_reducible show wpAny _ _ (call (Value.ref 233) _) _ _ _ | with_reducible show wpAny _ _ (call (Value.ref 233, _).fst _) _ _ _); k_dflt (refine' law_bars_call ?k1 ?k2 ?k3 ?k4 ?k5 ?k6 ?k7 ?k8 ?k9 ?k10 ?rt ?ex; (case k1 => k_asm); (case k2 => k_asm); (case k3 => k_asm); (case k4 => k_asm); (case k5 => walk_at "my_kind"); (case k6 => walk_at "my_room"); (case k7 => walk_at "my_room"); (case k8 => k_asm); (case k9 => omega); (case k10 => k_asm); (case' rt => (intro c' k' p' r' y' k3' k4' k5' h' tk' q1' q2' F' N' l1 l2; (try k_lt l2); (try k_lt l1); (try k_sweep))); (case' ex => (intro p' k' k5' h' tk' q1' F' N' l1; (try k_lt l1); (try k_sweep))))))
local macro_rules | `(tactic| walk_at "call ref") => `(tactic| first | walk_at "my_some" | walk_at "my_ls" | walk_at "my_lb")
local macro_rules | `(tactic| walk_at "call ref") => `(tactic| first
  | walk_at "my_some"
  | ((first | with_reducible show wpAny _ _ (call (Value.ref 240) _) _ _ _ | with_reducible show wpAny _ _ (call (Value.ref 240, _).fst _) _ _ _ | with_reducible show wpAny _ _ (call (Value.ref 226) _) _ _ _ | with_reducible show wpAny _ _ (call (Value.ref 226, _).fst _) _ _ _ | with_reducible show wpAny _ _ (call (Value.ref 233) _) _ _ _ | with_reducible show wpAny _ _ (call (Value.ref 233, _).fst _) _ _ _ | with_reducible show wpAny _ _ (call (Value.ref 254) _) _ _ _ | with_reducible show wpAny _ _ (call (Value.ref 254, _).fst _) _ _ _ | with_reducible show wpAny _ _ (call (Value.ref 247) _) _ _ _ | with_reducible show wpAny _ _ (call (Value.ref 247, _).fst _) _ _ _); refine stop_of ?_))
local macro_rules | `(tactic| walk_at "my_room2") => `(tactic| first | decide | decide +kernel | k_room | (simp only [depth_in1, units_in1] at *; first | decide | omega))
local macro_rules | `(tactic| walk_at "my_room") => `(tactic| walk_at "my_room2")
local macro_rules | `(tactic| walk_at "exec For") => `(tactic| refine stop_of ?_)
local macro_rules | `(tactic| walk_at "exec For Name") => `(tactic| refine stop_of ?_)
local macro_rules | `(tactic| walk_at "exec For Name Call") => `(tactic| refine stop_of ?_)
local macro_rules | `(tactic| walk_at "exec For Name Call cons") => `(tactic| refine stop_of ?_)
local macro_rules | `(tactic| walk_at "exec For Name Call cons nil") => `(tactic| refine stop_of ?_)
local macro_rules | `(tactic| walk_at "exec For Name Call Name") => `(tactic| refine stop_of ?_)
local macro_rules | `(tactic| walk_at "exec For Name Call Name cons") => `(tactic| refine stop_of ?_)
theorem cells_ok (l : List Int) : ∀ n ∈ l.map (fun k' => k'.fmod 1000003), 0 ≤ n ∧ n ≤ 1000003 := fun n hn => by
  obtain ⟨k, _, rfl⟩ := List.mem_map.mp hn
  exact ⟨fmod_lo k (by decide), Int.le_of_lt (fmod_hi k (by decide))⟩
local macro_rules | `(tactic| walk_at "my_same3") => `(tactic| (intro z h1 h2 h3; have h4 := h3; (simp only [List.contains_cons, List.contains_nil, Bool.or_false, Bool.or_eq_false_iff, beq_eq_false_iff_ne, ne_eq] at h4); (simp only [kstB, h1, h3, h4.1, h4.2, if_false, Bool.false_eq_true])))
local macro_rules | `(tactic| walk_at "InvEndN") => `(tactic| refine stop_of ?_)
local macro_rules | `(tactic| walk_at "compareOp NotEq ref ref") => `(tactic| refine stop_of ?_)
local macro_rules | `(tactic| walk_at "compareOp Eq ref ref") => `(tactic| refine stop_of ?_)
theorem text_len {y1 y2 y3 : Str} (h1 : y1.length ≤ 3 * 3) (h2 : y2.length ≤ 3 * 6) (h3 : y3.length ≤ 3 * 5) : (y1 ++ Str.ofString "\"" ++ y2 ++ Str.ofString "|" ++ y3).length ≤ 60 := by
  w_top off
  have e1 : (Str.ofString "\"").length = 1 := by decide +kernel
  have e2 : (Str.ofString "|").length = 1 := by decide +kernel
  simp only [Str.length_append, e1, e2]
  omega
theorem text_ok {y1 y2 y3 : Str} (h1 : PyData.strOk y1 = true) (h2 : PyData.strOk y2 = true) (h3 : PyData.strOk y3 = true) : PyData.strOk (y1 ++ Str.ofString "\"" ++ y2 ++ Str.ofString "|" ++ y3) = true :=
  ok_app (ok_app (ok_app (ok_app h1 (by decide +kernel)) h2) (by decide +kernel)) h3
local macro_rules | `(tactic| walk_at "pyIter ref") => `(tactic| ((with_reducible show wpAny _ _ (pyIter (Value.ref _)) (fun it s₂ => LoopAtV _ _ _ _ _ _ _ _ _ it s₂) _ _); refine stop_of ?_))
theorem law_try : PySem.Challenge.rw_qz0006_02.Holds := hd (by
  w_top off
  k_go0
  (all_goals try k_fold)
  k_steps
  unfold Stop
  rename Obj.IsDictOf _ _ _ => hd1
  rename News _ _ _ _ => N1
  rename Fr _ _ _ _ => F1
  rename IntsAre _ _ => hI1
  rename_i ys hL8 lc z4 z3 hne z2 o0 z1
  have hDd := Ne.symm hne.2
  have hl1 : ys.length ≤ 40 := by rw [hL8, List.length_map, List.length_take]; omega
  (try unfold Stop)
  rename News _ _ _ _ => N1
  rename Fr _ _ _ _ => F1
  refine' some_call (n := ys.length) (most := 3) (turn := 0) (rest := []) ?s11 F1 ?s13 ?s14 ?s15 ?s16 ?s17 (cb_drop N1 ?s18) hd1 ?s19 ?s110 ?s111 ?s112 hI1 (cells_ok _) hl1 ?s1rt
  case s11 => k_asm
  case s13 => k_asm
  case s14 => k_asm
  case s15 => exact rfl
  case s16 => walk_at "my_room2"
  case s17 => walk_at "my_room2"
  case s18 => walk_at "my_sub"
  case s19 => exact List.forall_mem_cons.mpr ⟨hDd, List.forall_mem_nil _⟩
  case s110 => exact hDd
  case s111 => omega
  case s112 => omega
  intro y1 ty1 o1 t31 u1 h1 tk1 hy1 G1 hu1 d1 M1
  obtain ⟨hy1, hk1⟩ := hy1
  k_steps
  (try unfold Stop)
  rename News _ _ _ _ => N2
  rename Fr _ _ _ _ => F2
  refine' some_call (n := ys.length) (most := 6) (turn := u1) (rest := []) ?s21 F2 ?s23 ?s24 ?s25 ?s26 ?s27 (cb_drop N2 ?s28) d1 ?s29 ?s210 ?s211 ?s212 hI1 (cells_ok _) hl1 ?s2rt
  case s21 => k_asm
  case s23 => k_asm
  case s24 => k_asm
  case s25 => exact rfl
  case s26 => walk_at "my_room2"
  case s27 => walk_at "my_room2"
  case s28 => walk_at "my_sub"
  case s29 => exact List.forall_mem_cons.mpr ⟨hDd, List.forall_mem_nil _⟩
  case s210 => exact hDd
  case s211 => omega
  case s212 => omega
  intro y2 ty2 o2 t32 u2 h2 tk2 hy2 G2 hu2 d2 M2
  obtain ⟨hy2, hk2⟩ := hy2
  k_steps
  (try unfold Stop)
  rename News _ _ _ _ => N3
  rename Fr _ _ _ _ => F3
  refine' some_call (n := ys.length) (most := 5) (turn := u2) (rest := []) ?s31 F3 ?s33 ?s34 ?s35 ?s36 ?s37 (cb_drop N3 ?s38) d2 ?s39 ?s310 ?s311 ?s312 hI1 (cells_ok _) hl1 ?s3rt
  case s31 => k_asm
  case s33 => k_asm
  case s34 => k_asm
  case s35 => exact rfl
  case s36 => walk_at "my_room2"
  case s37 => walk_at "my_room2"
  case s38 => walk_at "my_sub"
  case s39 => exact List.forall_mem_cons.mpr ⟨hDd, List.forall_mem_nil _⟩
  case s310 => exact hDd
  case s311 => omega
  case s312 => omega
  intro y3 ty3 o3 t33 u3 h3 tk3 hy3 G3 hu3 d3 M3
  obtain ⟨hy3, hk3⟩ := hy3
  k_steps
  (try unfold Stop)
  rename News _ _ _ _ => N4
  rename Fr _ _ _ _ => F4
  obtain ⟨t, ht⟩ : ∃ t, t = y1 ++ Str.ofString "\"" ++ y2 ++ Str.ofString "|" ++ y3 := ⟨_, rfl⟩
  rw [← ht] at F4
  have htl : t.length ≤ 60 := by rw [ht]; exact text_len hy1 hy2 hy3
  have hto : PyData.strOk t = true := by rw [ht]; exact text_ok hk1 hk2 hk3
  clear ht
  refine' For_invVF F4 ?f1 ?f2 ?_
  case f1 => exact rfl
  case f2 => exact rfl
  k_steps
  (try unfold Stop)
  rename IsRange _ _ _ _ _ _ _ _ => rg
  rename News _ _ _ _ => N5
  rename Fr _ _ _ _ => F5
  refine' kst_range (σ := Unit) (n := t.length) (fun _ => []) (fun _ => []) (fun _ => True) ["scanner", "told"] (fun _ _ => True) () rfl rg (small_one (by omega) (by omega) (by omega) (by omega)) (rangeSize_nat _ _) F5 (List.forall_mem_nil _) trivial (List.forall_mem_nil _) trivial ?turn ?done
  case turn =>
    intro c pre k tt u h tk own hk hlt hoff _ _ F6 N6
    obtain ⟨b, rfl⟩ : ∃ b : Nat, k = (b : Int) := ⟨pre.length, by omega⟩
    have hbl : b < t.length := by omega
    have hl2 : t.length ≤ 2000 := by omega
    have hbi : (0 : Int) ≤ (b : Int) := Int.natCast_nonneg b
    have hil : (b : Int) < (t.length : Int) := by omega
    (try dsimp only at N6)
    (try rw [List.nil_append] at N6)
    k_steps
    · unfold Stop
      rename (_ == _) = true => hsq
      rw [quote_is] at hsq
      have hhq := item_yes hil hsq
      walk_at "my_hs0"
      all_goals k_steps
      all_goals unfold Stop
      all_goals (walk_at "my_ls")
      all_goals (rename strRes _ _ = _ => r2; revert r2; rename strRes _ _ = _ => r1; intro r2; rw [r1] at r2; cases r2)
      all_goals (rename Fr _ _ _ _ => F8; rename News _ _ _ _ => N8)
      · refine dat_ne (n := 2) (by decide) N8 (.tuple (.tail _ (.head _)) (.cons .none (.cons (.int _ _) .nil))) (.tuple (.head _) (.cons .none (.cons (.int _ _) .nil))) none_ok ?hu ?_
        case hu => exact Nat.le_of_ble_eq_true rfl
        k_steps
        all_goals unfold Stop
        · exfalso
          rename (_ == _) = true => h2
          rw [bar_is] at h2
          have h3 := item_yes hil h2
          rw [hhq] at h3
          cases h3
        · rename News _ _ _ _ => N7
          rename Fr _ _ _ _ => F7
          refine' kst_end () F7 N7 ?e1 ?e2 rfl trivial (List.forall_mem_nil _) ?e3 trivial
          case e1 => exact fun _ h => nomatch h
          case e2 => walk_at "my_sub"
          case e3 => walk_at "my_same3"
      · rename sg _ = _ => s2; revert s2; rename sg _ = _ => s1; intro s2
        obtain rfl := sg_inj (s2.trans s1.symm)
        refine dat_ne (n := 2) (by decide) N8 (.tuple (.tail _ (.tail _ (.head _))) (.cons (.tuple (.tail _ (.tail _ (.tail _ (.head _)))) (.cons (.str _ _) (.cons (.str _ _) .nil))) (.cons (.int _ _) .nil))) (.tuple (.head _) (.cons (.tuple (.tail _ (.head _)) (.cons (.str _ _) (.cons (.str _ _) .nil))) (.cons (.int _ _) .nil))) (pair_ok str_lit (ok_sg (by rw [s1]; exact str_in (sg_ok hto) r1))) ?hu ?_
        case hu => exact Nat.le_of_ble_eq_true rfl
        k_steps
        all_goals unfold Stop
        · exfalso
          rename (_ == _) = true => h2
          rw [bar_is] at h2
          have h3 := item_yes hil h2
          rw [hhq] at h3
          cases h3
        · rename News _ _ _ _ => N7
          rename Fr _ _ _ _ => F7
          refine' kst_end () F7 N7 ?e1 ?e2 rfl trivial (List.forall_mem_nil _) ?e3 trivial
          case e1 => exact fun _ h => nomatch h
          case e2 => walk_at "my_sub"
          case e3 => walk_at "my_same3"
    · unfold Stop
      rename (_ == _) = true => hsq
      walk_at "my_hb0"
      all_goals k_steps
      all_goals unfold Stop
      all_goals (walk_at "my_lb")
      all_goals (rename barRes _ _ = _ => r2; revert r2; rename barRes _ _ = _ => r1; intro r2; rw [r1] at r2; cases r2)
      all_goals (rename Fr _ _ _ _ => F8; rename News _ _ _ _ => N8)
      · refine dat_ne (n := 2) (by decide) N8 (.tuple (.tail _ (.head _)) (.cons .none (.cons (.int _ _) .nil))) (.tuple (.head _) (.cons .none (.cons (.int _ _) .nil))) none_ok ?hu ?_
        case hu => exact Nat.le_of_ble_eq_true rfl
        k_steps
        all_goals unfold Stop
        · rename News _ _ _ _ => N7
          rename Fr _ _ _ _ => F7
          refine' kst_end () F7 N7 ?e1 ?e2 rfl trivial (List.forall_mem_nil _) ?e3 trivial
          case e1 => exact fun _ h => nomatch h
          case e2 => walk_at "my_sub"
          case e3 => walk_at "my_same3"
      · rename sg _ = _ => s2; revert s2; rename sg _ = _ => s1; intro s2
        obtain rfl := sg_inj (s2.trans s1.symm)
        refine dat_ne (n := 2) (by decide) N8 (.tuple (.tail _ (.tail _ (.head _))) (.cons (.tuple (.tail _ (.tail _ (.tail _ (.head _)))) (.cons (.str _ _) (.cons (.str _ _) .nil))) (.cons (.int _ _) .nil))) (.tuple (.head _) (.cons (.tuple (.tail _ (.head _)) (.cons (.str _ _) (.cons (.str _ _) .nil))) (.cons (.int _ _) .nil))) (pair_ok sym_lit (told_ok (ok_sg (by rw [s1]; exact bar_in (sg_ok hto) r1)))) ?hu ?_
        case hu => exact Nat.le_of_ble_eq_true rfl
        k_steps
        all_goals unfold Stop
        · rename News _ _ _ _ => N7
          rename Fr _ _ _ _ => F7
          refine' kst_end () F7 N7 ?e1 ?e2 rfl trivial (List.forall_mem_nil _) ?e3 trivial
          case e1 => exact fun _ h => nomatch h
          case e2 => walk_at "my_sub"
          case e3 => walk_at "my_same3"
    · unfold Stop
      rename News _ _ _ _ => N7
      rename Fr _ _ _ _ => F7
      refine' kst_end () F7 N7 ?e1 ?e2 rfl trivial (List.forall_mem_nil _) ?e3 trivial
      case e1 => exact fun _ h => nomatch h
      case e2 => walk_at "my_sub"
      case e3 => walk_at "my_same3"
  case done =>
    intro c u h tk _ _ F6 N6
    k_steps
    all_goals unfold Stop
    refine' scanned_call (news := []) ?g1 F6 ?g3 ?g4 ?g5 ?g6 ?g7 ?g8 ?g9 (List.forall_mem_nil _) ?g10 ?_
    case g1 => k_asm
    case g3 => k_asm
    case g4 => k_asm
    case g5 => exact rfl
    case g6 => k_asm
    case g7 => k_asm
    case g8 => walk_at "my_room2"
    case g9 => walk_at "my_room2"
    case g10 => omega
    intro r1 own1 h1 tk1 G7 M7 D7
    k_steps
    all_goals unfold Stop
    rename News _ _ _ _ => N7
    rename Fr _ _ _ _ => F7
    refine' gone_call (news := own1 ++ []) ?i1 F7 ?i3 ?i4 ?i5 ?i6 ?i7 ?i8 ?i9 ?_
    case i1 => k_asm
    case i3 => k_asm
    case i4 => k_asm
    case i5 => exact rfl
    case i6 => walk_at "my_room2"
    case i7 => walk_at "my_room2"
    case i8 => first | exact N7 | k_asm
    case i9 => omega
    intro r2 own2 h2 tk2 G8 M8 D8
    k_steps
    all_goals unfold Stop
    refine dat_eq (n := 3) (by decide) M8 (D7.mono fun p hp => List.mem_append_right _ (List.mem_append_left _ hp)) (D8.mono fun p hp => List.mem_append_left _ hp) (resD_ok hto) ?hu ?_
    case hu => exact Nat.le_of_ble_eq_true rfl
    k_steps)

end
end Mine
theorem PySem.Challenge.cw_qz0006_02_holds : PySem.Challenge.rw_qz0006_02.Holds :=
  Mine.law_try
