import PyProof.Rows.All
import Wide.All
import OpenK.AllK
import Wide.FinOn
import PySem.Challenge.RW_nz0310_01
set_option Elab.async false
set_option linter.all false
namespace Mine
theorem sp : PySem.instDecidableEqStr = PySem.instDecidableEqStr := rfl
end Mine
name_quick tw5890827107105270288 for PySem.instDecidableEqStr by Mine.sp
name_quick tw1188352501716977351 for PySem.instDecidableEqStr by Mine.sp
name_quick tw17807336471464407845 for PySem.instDecidableEqStr by Mine.sp
name_quick tw15809354239759208672 for PySem.instDecidableEqStr by Mine.sp
name_quick tw8059936575790774395 for PySem.instDecidableEqStr by Mine.sp
name_quick tw4615046776614313329 for PySem.instDecidableEqStr by Mine.sp
name_quick tw7211724253946508535 for PySem.instDecidableEqStr by Mine.sp
name_quick tw8075568018651887793 for PySem.instDecidableEqStr by Mine.sp
name_quick tw14979626087600564940 for PySem.instDecidableEqStr by Mine.sp
name_quick tw17249435793557592033 for PySem.instDecidableEqStr by Mine.sp
name_quick tw15750371108467400348 for PySem.instDecidableEqStr by Mine.sp
name_quick tw12750523984047038209 for PySem.instDecidableEqStr by Mine.sp
name_quick tw1156252341971683116 for PySem.instDecidableEqStr by Mine.sp
name_quick tw12017898878966707257 for PySem.instDecidableEqStr by Mine.sp
name_quick tw15663404670287596823 for PySem.instDecidableEqStr by Mine.sp
name_quick tw6059929106960060952 for PySem.instDecidableEqStr by Mine.sp
name_quick tw12835720964997663042 for PySem.instDecidableEqStr by Mine.sp
name_quick tw856264945809894966 for PySem.instDecidableEqStr by Mine.sp
name_quick tw11398097091735476289 for PySem.instDecidableEqStr by Mine.sp
name_quick tw16138213638089413859 for PySem.instDecidableEqStr by Mine.sp
name_quick tw18260038339965228139 for PySem.instDecidableEqStr by Mine.sp
name_quick tw5032809538720368765 for PySem.instDecidableEqStr by Mine.sp
name_quick tw8537084889766193716 for PySem.instDecidableEqStr by Mine.sp
name_quick tw1092655722715705105 for PySem.instDecidableEqStr by Mine.sp
name_quick tw13678640442995254988 for PySem.instDecidableEqStr by Mine.sp
name_quick tw3636048126100218174 for PySem.instDecidableEqStr by Mine.sp
name_quick tw734433811878042982 for PySem.instDecidableEqStr by Mine.sp
name_quick tw13640514254501968386 for PySem.instDecidableEqStr by Mine.sp
name_quick tw17846936440860909165 for PySem.instDecidableEqStr by Mine.sp
name_quick tw5268983451555188008 for PySem.instDecidableEqStr by Mine.sp
name_quick tw11317593695737139937 for PySem.instDecidableEqStr by Mine.sp
name_quick tw4011157648589011858 for PySem.instDecidableEqStr by Mine.sp
name_quick tw10227693086864044499 for PySem.instDecidableEqStr by Mine.sp
name_quick tw7745614565497352828 for PySem.instDecidableEqStr by Mine.sp
name_quick tw13141144453892091621 for PySem.instDecidableEqStr by Mine.sp
name_quick tw13912434898499826684 for PySem.instDecidableEqStr by Mine.sp
name_quick tw1291980286583624508 for PySem.instDecidableEqStr by Mine.sp
name_quick tw8376441433122354887 for PySem.instDecidableEqStr by Mine.sp
name_quick tw15323854079317868165 for PySem.instDecidableEqStr by Mine.sp
name_quick tw14896874001708588922 for PySem.instDecidableEqStr by Mine.sp
name_quick tw9951705424602377420 for PySem.instDecidableEqStr by Mine.sp
name_quick tw3152983702415266003 for PySem.instDecidableEqStr by Mine.sp
name_quick tw16350708796919097252 for PySem.instDecidableEqStr by Mine.sp
name_quick tw7650934615059315214 for PySem.instDecidableEqStr by Mine.sp
name_quick tw17497748084772794779 for PySem.instDecidableEqStr by Mine.sp
name_quick tw6250672158363226905 for PySem.instDecidableEqStr by Mine.sp
name_quick tw7198390536060210744 for PySem.instDecidableEqStr by Mine.sp
name_quick tw15900120412870309639 for PySem.instDecidableEqStr by Mine.sp
name_quick tw5770868932273138760 for PySem.instDecidableEqStr by Mine.sp
name_quick tw16548257151911338427 for PySem.instDecidableEqStr by Mine.sp
name_quick tw721709456127091705 for PySem.instDecidableEqStr by Mine.sp
name_quick tw5345256250457102556 for PySem.instDecidableEqStr by Mine.sp
name_quick tw11013792430000457035 for PySem.instDecidableEqStr by Mine.sp
name_quick tw5396446701170858492 for PySem.instDecidableEqStr by Mine.sp
name_quick tw9151444980202551346 for PySem.instDecidableEqStr by Mine.sp
name_quick tw3424931102881643321 for PySem.instDecidableEqStr by Mine.sp
name_quick tw16176465441171805009 for PySem.instDecidableEqStr by Mine.sp
name_quick tw5349121933718820234 for PySem.instDecidableEqStr by Mine.sp
name_quick tw8708707556590381134 for PySem.instDecidableEqStr by Mine.sp
name_quick tw17111948838632640456 for PySem.instDecidableEqStr by Mine.sp
name_quick tw2422670821966735624 for PySem.instDecidableEqStr by Mine.sp
name_quick tw1706496860858754268 for PySem.instDecidableEqStr by Mine.sp
name_quick tw15263041282635125899 for PySem.instDecidableEqStr by Mine.sp
name_quick tw347637069881736656 for PySem.instDecidableEqStr by Mine.sp
name_quick tw6363645014702824404 for PySem.instDecidableEqStr by Mine.sp
name_quick tw16296994325663420285 for PySem.instDecidableEqStr by Mine.sp
name_quick tw8727135674562949291 for PySem.instDecidableEqStr by Mine.sp
name_quick tw10938465397075749097 for PySem.instDecidableEqStr by Mine.sp
name_quick tw5732905514179830355 for PySem.instDecidableEqStr by Mine.sp
name_quick tw17552769576498331613 for PySem.instDecidableEqStr by Mine.sp
name_quick tw17000155066101142889 for PySem.instDecidableEqStr by Mine.sp
name_quick tw11462045893675790159 for PySem.instDecidableEqStr by Mine.sp
name_quick tw16752143609539240740 for PySem.instDecidableEqStr by Mine.sp
name_quick tw7397068168572129948 for PySem.instDecidableEqStr by Mine.sp
name_quick tw1602815735214968683 for PySem.instDecidableEqStr by Mine.sp
name_quick tw13145125596335152023 for PySem.instDecidableEqStr by Mine.sp
name_quick tw9979284746773624096 for PySem.instDecidableEqStr by Mine.sp
name_quick tw17888162413812561239 for PySem.instDecidableEqStr by Mine.sp
name_quick tw18416463498863911781 for PySem.instDecidableEqStr by Mine.sp
name_quick tw3560238982266916124 for PySem.instDecidableEqStr by Mine.sp
name_quick tw11863081143760314161 for PySem.instDecidableEqStr by Mine.sp
name_quick tw9501820088010722379 for PySem.instDecidableEqStr by Mine.sp
name_quick tw16018607276475445134 for PySem.instDecidableEqStr by Mine.sp
name_quick tw12329403913580668285 for PySem.instDecidableEqStr by Mine.sp
name_quick tw16439824349840649037 for PySem.instDecidableEqStr by Mine.sp
name_quick tw1503297043503765363 for PySem.instDecidableEqStr by Mine.sp
name_quick tw117213463901210413 for PySem.instDecidableEqStr by Mine.sp
name_quick tw9800571698397750058 for PySem.instDecidableEqStr by Mine.sp
name_quick tw8595292554425487202 for PySem.instDecidableEqStr by Mine.sp
name_quick tw2905824091091238844 for PySem.instDecidableEqStr by Mine.sp
name_quick tw13559156169165276386 for PySem.instDecidableEqStr by Mine.sp
name_quick tw12635297910168745909 for PySem.instDecidableEqStr by Mine.sp
name_quick tw2664551874359636763 for PySem.instDecidableEqStr by Mine.sp
name_quick tw14223099787259518943 for PySem.instDecidableEqStr by Mine.sp
name_quick tw2660918139993853925 for PySem.instDecidableEqStr by Mine.sp
name_quick tw18340240734955500558 for PySem.instDecidableEqStr by Mine.sp
name_quick tw18345786424863182364 for PySem.instDecidableEqStr by Mine.sp
name_quick tw10205541121877940668 for PySem.instDecidableEqStr by Mine.sp
name_quick tw1377046205977697930 for PySem.instDecidableEqStr by Mine.sp
name_quick tw11277716924127702174 for PySem.instDecidableEqStr by Mine.sp
name_quick tw219737044198020058 for PySem.instDecidableEqStr by Mine.sp
name_quick tw15894407043143930727 for PySem.instDecidableEqStr by Mine.sp
name_quick tw12659028871203227004 for PySem.instDecidableEqStr by Mine.sp
name_quick tw11985326045990495214 for PySem.instDecidableEqStr by Mine.sp
name_quick tw7232422423428716515 for PySem.instDecidableEqStr by Mine.sp
name_quick tw4775785305629353868 for PySem.instDecidableEqStr by Mine.sp
name_quick tw11333186260410459676 for PySem.instDecidableEqStr by Mine.sp
name_quick tw9759809726879904816 for PySem.instDecidableEqStr by Mine.sp
name_quick tw2670528217467546775 for PySem.instDecidableEqStr by Mine.sp
name_quick tw6004533443673955352 for PySem.instDecidableEqStr by Mine.sp
name_quick tw951843321253372498 for PySem.instDecidableEqStr by Mine.sp
name_quick tw682011567655089306 for PySem.instDecidableEqStr by Mine.sp
name_quick tw6380047634161181297 for PySem.instDecidableEqStr by Mine.sp
name_quick tw17730448691065144110 for PySem.instDecidableEqStr by Mine.sp
name_quick tw1355338860687761863 for PySem.instDecidableEqStr by Mine.sp
name_quick tw17828083071136270317 for PySem.instDecidableEqStr by Mine.sp
name_quick tw16049961110935095269 for PySem.instDecidableEqStr by Mine.sp
name_quick tw3282434896037501709 for PySem.instDecidableEqStr by Mine.sp
name_quick tw3577408171920636059 for PySem.instDecidableEqStr by Mine.sp
name_quick tw12290603225136948437 for PySem.instDecidableEqStr by Mine.sp
name_quick tw10528696920762540405 for PySem.instDecidableEqStr by Mine.sp
name_quick tw15980859228951719591 for PySem.instDecidableEqStr by Mine.sp
name_quick tw14073706353221006472 for PySem.instDecidableEqStr by Mine.sp
name_quick tw4558998842232669794 for PySem.instDecidableEqStr by Mine.sp
name_quick tw3880421473898291048 for PySem.instDecidableEqStr by Mine.sp
name_quick tw14714103240675001986 for PySem.instDecidableEqStr by Mine.sp
name_quick tw18056578402003937789 for PySem.instDecidableEqStr by Mine.sp
namespace Mine
open PySem PySem.W PyProof.Rows
set_option maxRecDepth 100000 in
set_option maxHeartbeats 8000000 in
open_top hd for PySem.Challenge.rw_nz0310_01
end Mine
namespace Mine
local macro_rules | `(tactic| walk_at $s:str) => `(tactic| k_extra $s)
local macro_rules | `(tactic| k_all) => `(tactic| k_extra "own k_all")
local macro_rules | `(tactic| size_fits) => `(tactic| k_extra "own size_fits")
local macro_rules | `(tactic| k_room) => `(tactic| k_extra "own k_room")

section
open PySem PySem.W PyProof.Rows
abbrev Led := List (Addr × Obj)
/-- what a call of the def at f with the arguments vs gives back, from any caller's frame -/
def Ct (k : Nat) (w : World) (f : Addr) (news : Led) (vs : List Value) (Ret Exc : Value → Led → Prop) : Prop :=
  ∀ (mean : ExcName → Option Value) (mg mb : Str → Option Value) (dp un : Nat) (gd : Option (List Code)) (cn : Str) (cs : Scope) (a : Addr) (ccd : Value) (cl : List (Str × Addr)) (outer : List Env) (A₀ : Around) (base h₀ : Heap) (L : Addr)
    (m : Str → Option Value) (s : Shared) (Q E : Value → Shared → Prop),
    Below A₀ base outer h₀ → Fr h₀ L s.heap m → (hd.heap_39 w.params).In h₀ → News h₀ L s.heap news → Top hd.view_39 (looseW hd.view_39 [Str.ofString "PostError"]) mean mg mb h₀ → cs.kind = .function →
    dp + k < recursionLimit → un + 8 * k < cLine →
    (∀ r news' h' tk', Fr h₀ L h' m → News h₀ L h' news' → Ret r news' → Q r { s with heap := h', toks := tk' }) →
    (∀ e news' h' tk', Fr h₀ L h' m → News h₀ L h' news' → Exc e news' → E e { s with heap := h', toks := tk' }) →
    wpAny (model PySem.Challenge.rw_nz0310_01.row.prog w) (ktrTop dp un gd cn cs L a ccd cl outer) (call (.ref f) vs) Q E s
end
section
open PySem PySem.W PyProof.Rows PySem.Builtin PySem.Calls
set_option maxRecDepth 100000
section
variable {prog : Program} {w : World} {A : Around} {E : Value → Shared → Prop} {s : Shared} {b c : Array UInt8} {t u : Tok}
theorem gives_in_int {k : Int} (h0 : 0 ≤ k) (h1 : k < 256) : Gives («bytes.__contains__» ⟨[.bytes b u, .int k t], []⟩) (.val (.bool (b.contains k.toNat.toUInt8))) := by
  refine .of_wp fun M A E s Q hq => ?_
  show wpAny M A (Bytes.containsIn "bytes.__contains__" (.bytes b u) (.int k t) >>= fun r => _) _ E s
  refine wpAny_bind ?_
  unfold Bytes.containsIn
  refine wpAny_bind (wpAny_attempt ?_)
  refine wpAny_of_eq (a := k) rfl ?_
  refine wpAny_bind (wpAny_of_eq KBy.buffer_eq ?_)
  dsimp only
  have hn : ¬ ((decide (k < 0) || decide (k ≥ 256)) = true) := by
    simp only [Bool.or_eq_true, decide_eq_true_eq]; omega
  rw [if_neg hn]
  exact wpAny_pure (wpAny_pure ⟨_, rfl, hq⟩)
theorem in_int_bytes {k : Int} {Q : Value → Shared → Prop} (h0 : 0 ≤ k) (h1 : k < 256) (h : Q (.bool (b.contains k.toNat.toUInt8)) s) : wpAny (model prog w) A (compareOp .In (.int k t) (.bytes b u)) Q E s :=
  in_gives (typeIs_bytes s b u) FB.slot_bytes_contains FB.entry_bytes_contains (FB.args_bytes_contains_2 _ _) (gives_in_int h0 h1) h
theorem no_index_bytes : typeLookup (.type "bytes") "__index__" = pure none := by rw [typeLookup_type, builtinLookup_eq_fast]; kernel_rfl
theorem typeName_bytes : typeName (.type "bytes") = pure "bytes" := by unfold typeName; rw [find?_eq_fast]; kernel_rfl
theorem cut_bytes {n : Nat} {Q : String → Shared → Prop} (h : Q "bytes" s) : wpAny (model prog w) A (typeNameOfCut n (.bytes b t)) Q E s := by
  unfold typeNameOfCut shownTypeOf
  refine wpAny_bind (wpAny_bind (wpAny_typeOf (typeIs_bytes _ b t) ?_))
  simp only [show (Value.type "bytes" == Value.type "builtin_function_or_method") = false by decide, Bool.false_eq_true, if_false]
  refine wpAny_pure ?_
  rw [show typeNameCut n (.type "bytes") = typeName (.type "bytes") from rfl, typeName_bytes]
  exact wpAny_pure h
theorem meets_in_bytes : Meets («bytes.__contains__» ⟨[.bytes b u, .bytes c t], []⟩) (fun A R s => A.handled = none ∧ ∀ h' tk, (∀ a o, s.heap.get? a = some o → h'.get? a = some o) → R (.ok (.ret (.bool (Bytes.find? b c 0 b.size).isSome))) { s with heap := h', toks := tk }) := by
  refine .of_wp fun prog w A R s hS => ?_
  obtain ⟨hh, h⟩ := hS
  show wpAny _ _ (Bytes.containsIn "bytes.__contains__" (.bytes b u) (.bytes c t) >>= fun r => _) _ _ s
  refine wpAny_bind ?_
  unfold Bytes.containsIn
  refine wpAny_bind (wpAny_attempt ?_)
  unfold asIndex
  refine wpAny_bind (wpAny_of_eq (a := none) rfl ?_)
  dsimp only
  refine wpAny_bind (wpAny_callSpecial?_none (typeIs_bytes _ c t) no_index_bytes ?_)
  dsimp only
  refine wpAny_bind (cut_bytes ?_)
  exact_raiseError plainExc_TypeError hh (fun h' tk e hx => by
    refine wpAny_bind (wpAny_of_eq KBy.buffer_eq ?_)
    dsimp only
    refine wpAny_bind (wpAny_of_eq KBy.buffer_eq ?_)
    dsimp only
    exact wpAny_bind (wpAny_rule (wpAny_pure (wpAny_pure ⟨_, rfl, h h' tk hx.keeps⟩))))
theorem in_bytes_bytes {h₀ : Heap} {L : Addr} {m : Str → Option Value} {news : Led} {Q : Value → Shared → Prop} (F : Fr h₀ L s.heap m) (N : News h₀ L s.heap news) (hh : A.handled = none)
    (h : ∀ h' tk, Fr h₀ L h' m → News h₀ L h' news → Q (.bool (Bytes.find? b c 0 b.size).isSome) { s with heap := h', toks := tk }) : wpAny (model prog w) A (compareOp .In (.bytes c t) (.bytes b u)) Q E s :=
  In_slot (typeIs_bytes s b u) FB.slot_bytes_contains (call_meets (Q := fun v s' => wpAny _ A (truthy v) (fun b s'' => Q (.bool b) s'') E s') FB.slot_bytes_contains (typeIs_bytes s b u) FB.entry_bytes_contains (FB.args_bytes_contains_2 _ _) meets_in_bytes
    ⟨hh, fun h' tk k => wpAny_pure (h h' tk (F.keeps k) (N.grown k))⟩)
end
end
section
open PySem PySem.W PyProof.Rows PySem.Builtin PySem.Calls
set_option maxRecDepth 100000
section
variable {prog : Program} {w : World} {A : Around} {E : Value → Shared → Prop} {s : Shared} {b c : Array UInt8} {t u : Tok}
theorem buffer_full {id : String} {f : Bool} : Bytes.buffer? id (.bytes b t) f = pure (some b) := by
  unfold Bytes.buffer?
  rw [KBy.special_eq KBy.look_buffer, KBy.own_buffer, KBy.own_release]
  cases f <;> kernel_rfl
theorem take_eq {id : String} {f : Int} : Bytes.takeBuffer? id (.bytes b t) f = pure (some (b, none)) := by
  unfold Bytes.takeBuffer?
  rw [KBy.special_eq KBy.look_buffer]
  simp only [pure_bind]
  rw [KBy.own_buffer]
  simp only [pure_bind, Bool.not_true, Bool.false_eq_true, if_false]
  rw [buffer_full]
  rfl
theorem takeQuiet_eq {id : String} {f : Int} : Bytes.takeBufferQuiet? id (.bytes b t) f = pure (some (b, none)) := by
  unfold Bytes.takeBufferQuiet?
  rw [take_eq]
  rfl
theorem slot_bytes_join : Slot "bytes" "join" "bytes.join" :=
  .of (owner := "bytes") (n := "join") (by rw [typeLookup_type, builtinLookup_eq_fast]; kernel_rfl) (by decide +kernel) (by decide +kernel) (by decide +kernel)
    (by first | exact .inl (by decide +kernel) | exact .inr (by decide +kernel)) (by rw [isSubtype_type]; kernel_rfl)
theorem type_bytes_join : typeOf (.builtin "bytes.join") = pure (.type "method_descriptor") := by show builtinType _ = _; rw [builtinType_eq_fast]; kernel_rfl
theorem entry_bytes_join : entryFor table "bytes.join" = some Builtin.«bytes.join» := entryFor_of_tree (by kernel_rfl)
theorem args_bytes_join (a b : Value) : argsOk "bytes.join" ⟨[a, b], []⟩ := by unfold argsOk; kernel_rfl
theorem slot_bytes_split : Slot "bytes" "split" "bytes.split" :=
  .of (owner := "bytes") (n := "split") (by rw [typeLookup_type, builtinLookup_eq_fast]; kernel_rfl) (by decide +kernel) (by decide +kernel) (by decide +kernel)
    (by first | exact .inl (by decide +kernel) | exact .inr (by decide +kernel)) (by rw [isSubtype_type]; kernel_rfl)
theorem type_bytes_split : typeOf (.builtin "bytes.split") = pure (.type "method_descriptor") := by show builtinType _ = _; rw [builtinType_eq_fast]; kernel_rfl
theorem entry_bytes_split : entryFor table "bytes.split" = some Builtin.«bytes.split» := entryFor_of_tree (by kernel_rfl)
theorem args_bytes_split (a b : Value) : argsOk "bytes.split" ⟨[a, b], []⟩ := by unfold argsOk; kernel_rfl
def bvals (l : List (Array UInt8 × Tok)) : List Value := l.map fun p => .bytes p.1 p.2
def btaken (l : List (Array UInt8 × Tok)) : List (Value × Option Value) := l.map fun p => (.bytes p.1 p.2, none)
theorem btaken_any (l : List (Array UInt8 × Tok)) : ((btaken l).any fun x => x.1.onHeap) = false := by
  induction l with
  | nil => rfl
  | cons p r ih => simp [btaken, Value.onHeap]
theorem joinLetGo_ok {M : Model} {keep : List Value} {Q : Unit → Shared → Prop} : ∀ (l : List (Array UInt8 × Tok)) (s : Shared), Q () s → wpAny M A (Bytes.joinLetGo (btaken l) keep) Q E s
  | [], s, h => wpAny_pure h
  | p :: r, s, h => by
    show wpAny M A (Bytes.joinLetGo ((.bytes p.1 p.2, none) :: btaken r) keep) Q E s
    unfold Bytes.joinLetGo
    dsimp only
    exact wpAny_bind (wpAny_letGo (joinLetGo_ok r s h))
theorem jm_ne (a : Array Value) {α : Type} (f : Value → α) (g : α) (h : a.size ≠ 1) : Bytes.joinM.match_1 (fun _ => α) a f (fun _ => g) = g := by
  unfold Bytes.joinM.match_1
  rw [dif_neg h]
theorem jm_eq (x : Value) {α : Type} (f : Value → α) (g : α) : Bytes.joinM.match_1 (fun _ => α) #[x] f (fun _ => g) = f x := rfl
theorem meets_join (l : List (Array UInt8 × Tok)) (D : Addr) : Meets («bytes.join» ⟨[.bytes #[] t, .ref D], []⟩) (fun _ R s => s.heap.IsList D (bvals l).toArray ∧ (Bytes.joined #[] (l.map (·.1))).size ≤ sizeLine ∧
    Bytes.tooLong (((l.map (·.1)).toArray).foldl (· + ·.size) 0) = false ∧ (∀ b ∈ l, Bytes.joined #[] [b.1] = b.1) ∧
    ∀ t' k, R (.ok (.ret (.bytes (Bytes.joined #[] (l.map (·.1))) t'))) { s with toks := k }) := by
  refine .of_wp fun prog w A R s hS => ?_
  obtain ⟨hl, hz, htl, hone, h⟩ := hS
  show wpAny _ _ (Bytes.joinM .bytes ⟨[.bytes #[] t, .ref D], []⟩) _ _ s
  unfold Bytes.joinM
  refine wpAny_bind (wpAny_of_eq (a := (Value.bytes #[] t, Value.ref D)) rfl ?_)
  dsimp only
  obtain ⟨o, ho, hc, n, hd⟩ := hl
  have hT : s.TypeIs (.ref D) "list" := ⟨o, ho, hc⟩
  refine wpAny_bind ?_
  unfold Bytes.joinItems
  refine wpAny_bind (wpAny_typeOf hT ?_)
  rw [if_pos (by decide)]
  refine wpAny_pure ?_
  refine wpAny_bind (wpAny_seqItems ho hd ?_)
  dsimp only
  rw [if_pos (by decide)]
  have len : (bvals l).toArray.size = l.length := by simp [bvals]
  by_cases hl1 : l.length = 1
  · obtain ⟨p, rfl⟩ : ∃ p, l = [p] := List.length_eq_one_iff.mp hl1
    rw [show (bvals [p]).toArray = #[Value.bytes p.1 p.2] from rfl, jm_eq]
    refine wpAny_bind (wpAny_typeOf (typeIs_bytes _ _ _) ?_)
    rw [if_pos (by decide)]
    refine wpAny_bind (wpAny_rule (wpAny_pure ⟨_, rfl, ?_⟩))
    have := h p.2 s.toks
    rw [show (Bytes.joined #[] (([p] : List (Array UInt8 × Tok)).map (·.1))) = p.1 from hone p (.head _)] at this
    exact this
  · rw [jm_ne _ _ _ (by rw [len]; exact hl1)]
    refine wpAny_bind ?_
    rw [Std.Legacy.Range.forIn_eq_forIn_range']
    refine wpAny_forIn_list _ (fun rest st s' => ∃ k, k ≤ l.length ∧ rest = List.range' k (l.length - k) ∧ st = (((l.take k).map (·.1)).toArray, btaken (l.take k)) ∧ s' = s) _ ?turn ?fin _ _ ?start
    case start => 
      refine ⟨0, Nat.zero_le _, ?_, by simp [btaken], rfl⟩
      simp [len, Std.Legacy.Range.size]
    case turn =>
      rintro i rest st s' ⟨k, hk, hr, rfl, rfl⟩
      obtain ⟨j, hj⟩ : ∃ j, l.length - k = j + 1 := by
        cases hq : l.length - k with
        | zero => rw [hq] at hr; simp at hr
        | succ j => exact ⟨j, rfl⟩
      rw [hj, List.range'_succ] at hr
      obtain ⟨rfl, rfl⟩ := List.cons.inj hr
      have hlt : i < l.length := by omega
      have hget : (bvals l).toArray.getD i Value.none = .bytes (l[i]).1 (l[i]).2 := by
        simp [bvals, hlt]
      refine wpAny_bind (wpAny_seqItems ho hd ?_)
      dsimp only
      rw [if_neg (by simp [btaken_any])]
      rw [hget]
      refine wpAny_bind (wpAny_holding (wpAny_of_eq takeQuiet_eq ?_))
      dsimp only
      refine wpAny_bind (wpAny_seqItems ho hd ?_)
      dsimp only
      rw [if_neg (by simp)]
      refine wpAny_pure ?_
      refine ⟨i + 1, hlt, ?_, ?_, rfl⟩
      · rw [show l.length - (i + 1) = j by omega]
      · have e : l.take (i + 1) = l.take i ++ [l[i]] := by rw [List.take_add_one, List.getElem?_eq_getElem hlt]; rfl
        rw [e]
        simp only [btaken, List.map_append, List.map_cons, List.map_nil, List.push_toArray]
    case fin =>
      rintro st s' ⟨k, hk, hr, rfl, rfl⟩
      have hkl : k = l.length := by
        cases hq : l.length - k with
        | zero => omega
        | succ j => rw [hq] at hr; simp at hr
      subst hkl
      rw [List.take_length]
      refine wpAny_bind (wpAny_of_eq (a := (#[] : Array UInt8)) rfl ?_)
      dsimp only
      rw [if_neg (by simpa using htl)]
      refine wpAny_bind (wpAny_mkBytes ?_ hz)
      refine wpAny_bind (wpAny_holding (wpAny_point ?_))
      exact wpAny_bind (joinLetGo_ok _ _ (wpAny_pure ⟨_, rfl, h _ _⟩))
theorem joined_flat : ∀ (ps : List (Array UInt8)), Bytes.joined #[] ps = (ps.map (·.toList)).flatten.toArray := by
  intro ps
  unfold Bytes.joined
  have key : ∀ (ps : List (Array UInt8)) (k : Nat) (out : Array UInt8), (ps.zipIdx k).foldl (fun out x => (if x.2 > 0 then out ++ #[] else out) ++ x.1) out = out ++ (ps.map (·.toList)).flatten.toArray := by
    intro ps
    induction ps with
    | nil => intro k out; simp
    | cons p r ih =>
      intro k out
      rw [List.zipIdx_cons, List.foldl_cons, ih]
      apply Array.ext'
      simp
  have := key ps 0 #[]
  simpa using this
theorem total_flat : ∀ (ps : List (Array UInt8)) (k : Nat), ps.foldl (fun a b => a + b.size) k = k + (ps.map (·.toList)).flatten.length := by
  intro ps
  induction ps with
  | nil => intro k; simp
  | cons p r ih => intro k; rw [List.foldl_cons, ih]; simp; omega
/-- b''.join of a list of bytes -/
theorem join_bytes {l : List (Array UInt8 × Tok)} {D : Addr} {ps : List (Array UInt8)} {Q : Value → Shared → Prop} (hl : s.heap.IsList D (bvals l).toArray) (hp : l.map (·.1) = ps)
    (hz : (ps.map (·.toList)).flatten.length ≤ 16777216) (h : ∀ t' k, Q (.bytes (ps.map (·.toList)).flatten.toArray t') { s with toks := k }) :
    wpAny (model prog w) A (call (.builtin "bytes.join") [.bytes #[] t, .ref D]) Q E s := by
  subst hp
  refine call_meets slot_bytes_join (typeIs_bytes _ _ _) entry_bytes_join (args_bytes_join _ _) (meets_join l D) ⟨hl, ?_, ?_, ?_, ?_⟩
  · rw [joined_flat, sizeLine_eq, List.size_toArray]; exact hz
  · refine KBy.tooLong_not ?_
    rw [List.foldl_toArray', total_flat]
    · omega
    · simp
  · intro b _
    rw [joined_flat]; simp
  · intro t' k
    rw [joined_flat]
    exact h t' k
end
end
section
open PySem PySem.W PyProof.Rows PySem.Builtin PySem.Calls
set_option maxRecDepth 100000
section
variable {prog : Program} {w : World} {A : Around} {E : Value → Shared → Prop} {s : Shared} {b c : Array UInt8} {t u : Tok}
theorem mapM_mkBytes {M : Model} : ∀ (ps : List (Array UInt8)) (s : Shared) (Q : List Value → Shared → Prop), (∀ p ∈ ps, p.size ≤ sizeLine) → (∀ l k, l.map (·.1) = ps → Q (bvals l) { s with toks := k }) → wpAny M A (ps.mapM Bytes.Kind.bytes.new) Q E s
  | [], s, Q, _, h => by rw [List.mapM_nil]; exact wpAny_pure (h [] s.toks rfl)
  | p :: r, s, Q, hz, h => by
    rw [List.mapM_cons]
    refine wpAny_bind (wpAny_mkBytes ?_ (hz p (.head _)))
    refine wpAny_bind (mapM_mkBytes r _ _ (fun q hq => hz q (.tail _ hq)) fun l k hl => ?_)
    exact wpAny_pure (h ((p, s.toks) :: l) k (by rw [List.map_cons, hl]))
def places (b : Array UInt8) : List Nat := (Bytes.occurrences b #[46] 0 b.size).take (b.size + 1)
def bsplit (b : Array UInt8) : List (Array UInt8) := if (places b).isEmpty = true then [b] else Bytes.between b 1 (places b)
theorem meets_split (hz : ∀ p ∈ bsplit b, p.size ≤ sizeLine) (hl : (bsplit b).length ≤ sizeLine) : Meets («bytes.split» ⟨[.bytes b t, .bytes #[46] u], []⟩) (fun _ R s =>
    ∀ l k, l.map (·.1) = bsplit b → R (.ok (.ret (.ref s.heap.objs.size))) { s with heap := s.heap.push (listOf (bvals l).toArray 0), toks := k }) := by
  refine .of_wp fun prog w A R s h => ?_
  show wpAny _ _ (Bytes.splitM .bytes "split" false ⟨[.bytes b t, .bytes #[46] u], []⟩) _ _ s
  unfold Bytes.splitM
  dsimp only
  refine wpAny_bind (wpAny_of_eq (a := [some (.bytes #[46] u), none]) rfl ?_)
  dsimp only
  refine wpAny_bind (wpAny_pure ?_)
  refine wpAny_bind (wpAny_of_eq (a := b) rfl ?_)
  refine wpAny_bind (wpAny_of_eq KBd.like_eq ?_)
  rw [if_neg (by decide)]
  show wpAny _ _ (if (places b).isEmpty = true then _ else _) _ _ s
  have fit : ∀ l : List (Array UInt8 × Tok), l.map (·.1) = bsplit b → sizeOk (Data.seq (bvals l).toArray 0) := fun l e => by
    show (bvals l).toArray.size ≤ sizeLine
    have := congrArg List.length e
    simp only [List.length_map] at this
    simpa [bvals, this] using hl
  by_cases hp : (places b).isEmpty = true
  · rw [if_pos hp]
    refine wpAny_bind (wpAny_rule (wpAny_bind (wpAny_bind ?_)))
    refine wpAny_typeOf (typeIs_bytes _ _ _) ?_
    rw [if_pos (by decide)]
    refine wpAny_pure ?_
    have e : [b] = bsplit b := by unfold bsplit; rw [if_pos hp]
    refine wpAny_bind (wpAny_newObj_type (T := "list") (data := .seq [Value.bytes b t].toArray) ?_ (fit [(b, t)] e))
    exact wpAny_pure ⟨_, rfl, h [(b, t)] s.toks e⟩
  · rw [if_neg hp]
    have e : Bytes.between b 1 (places b) = bsplit b := by unfold bsplit; rw [if_neg hp]
    show wpAny _ _ ((Bytes.between b 1 (places b)).mapM Bytes.Kind.bytes.new >>= fun x => _) _ _ s
    rw [e]
    refine wpAny_bind (mapM_mkBytes _ _ _ hz fun l k hl' => ?_)
    refine wpAny_bind (wpAny_newObj_type (T := "list") (data := .seq (bvals l).toArray) ?_ (fit l hl'))
    exact wpAny_pure ⟨_, rfl, h l k hl'⟩
theorem split_bytes {h₀ : Heap} {L : Addr} {m : Str → Option Value} {news : Led} {Q : Value → Shared → Prop} (F : Fr h₀ L s.heap m) (N : News h₀ L s.heap news) (hz : ∀ p ∈ bsplit b, p.size ≤ sizeLine) (hl : (bsplit b).length ≤ sizeLine)
    (h : ∀ D l h' tk, l.map (·.1) = bsplit b → Fr h₀ L h' m → News h₀ L h' ((D, listOf (bvals l).toArray 0) :: news) → (∀ p ∈ news, p.1 < D) → Q (.ref D) { s with heap := h', toks := tk }) :
    wpAny (model prog w) A (call (.builtin "bytes.split") [.bytes b t, .bytes #[46] u]) Q E s :=
  call_meets slot_bytes_split (typeIs_bytes _ _ _) entry_bytes_split (args_bytes_split _ _) (meets_split hz hl) fun l k hl' => h _ l _ k hl' (F.push _) (N.push F _) fun p hp => Heap.lt_size (N p hp).1
theorem method_split {M : Model} {pl : Sem Bool} {Q : Value × List Value → Shared → Prop} (h : Q (.builtin "bytes.split", [.bytes b t]) s) : wpAny M A (getMethod (.bytes b t) "split" pl) Q E s := by
  with_reducible exact KBd.method_of (.bytes b t) (typeIs_bytes _ _ _) slot_bytes_split type_bytes_split KBd.noRef h
theorem method_join {M : Model} {pl : Sem Bool} {Q : Value × List Value → Shared → Prop} (h : Q (.builtin "bytes.join", [.bytes b t]) s) : wpAny M A (getMethod (.bytes b t) "join" pl) Q E s := by
  with_reducible exact KBd.method_of (.bytes b t) (typeIs_bytes _ _ _) slot_bytes_join type_bytes_join KBd.noRef h
end
end
section
open PySem PySem.W PyProof.Rows PySem.Builtin PySem.Calls
set_option maxRecDepth 100000
/-- the byte at a place, as an int -/
def bAt (b : Array UInt8) (i : Int) : Int := ((b.toList.getD i.toNat 0).toNat : Int)
theorem bAt_in (b : Array UInt8) (i : Int) : 0 ≤ bAt b i ∧ bAt b i < 256 := by
  have := (b.toList.getD i.toNat 0).toNat_lt
  unfold bAt
  omega
/-- a run of bytes -/
def cut (b : Array UInt8) (lo hi : Int) : Array UInt8 := ((b.toList.drop lo.toNat).take (hi.toNat - lo.toNat)).toArray
theorem cut_picked {b : Array UInt8} {lo hi : Int} (h0 : 0 ≤ lo) (h1 : 0 ≤ hi) : KBy.picked b (some lo) (some hi) = cut b lo hi := by
  rw [KBc.picked_eq]
  obtain ⟨k, rfl⟩ := Int.eq_ofNat_of_zero_le h0
  obtain ⟨j, rfl⟩ := Int.eq_ofNat_of_zero_le h1
  unfold cut
  simp only [Option.elim, clipAt_nat, Int.toNat_natCast]
  congr 1
  by_cases hk : k ≤ b.size
  · rw [Nat.min_eq_left hk]
    rcases Nat.le_total j b.size with hj | hj
    · rw [Nat.min_eq_left hj]
    · rw [Nat.min_eq_right hj, List.take_of_length_le (by simp), List.take_of_length_le (by simp; omega)]
  · rw [List.drop_of_length_le (by simp; omega), List.drop_of_length_le (l := b.toList) (by simp; omega)]
    simp
theorem cut_one {b : Array UInt8} {i : Int} (h0 : 0 ≤ i) (h1 : i < b.size) : (cut b i (i + 1)).toList = [b.toList.getD i.toNat 0] := by
  obtain ⟨k, rfl⟩ := Int.eq_ofNat_of_zero_le h0
  have hk : k < b.toList.length := by simpa using h1
  unfold cut
  rw [show ((k : Int) + 1).toNat - (k : Int).toNat = 1 by omega, Int.toNat_natCast, List.toList_toArray, List.drop_eq_getElem_cons hk, List.take_succ_cons, List.take_zero]
  simp only [List.getD_eq_getElem?_getD, List.getElem?_eq_getElem hk, Option.getD_some]
section
variable {prog : Program} {w : World} {A : Around} {E : Value → Shared → Prop} {s : Shared} {value slice : PySem.Expr} {b c : Array UInt8} {t u : Tok} {h₀ : Heap} {L : Addr} {m : PySem.Str → Option Value} {news : Led} {lo hi i : Int} {Q : Value → Shared → Prop} {tl tu ui : Tok}
theorem slice_b (hF : Fr h₀ L s.heap m) (hN : News h₀ L s.heap news) (h0 : 0 ≤ lo) (h1 : 0 ≤ hi) (hz : b.size ≤ 16777216)
    (h : ∀ h' t' k, Fr h₀ L h' m → News h₀ L h' news → Q (.bytes (cut b lo hi) t') { s with heap := h', toks := k })
    (hs : subscripted slice false (.bytes b t) (.ref s.heap.objs.size) = operate [.ref s.heap.objs.size, .bytes b t] (getItem (.bytes b t) (.ref s.heap.objs.size)) := by with_unfolding_all rfl)
    (ht : ∀ r, letTemporaryGo value (.bytes b t) r = pure () := by intro _; with_unfolding_all rfl) :
    wpAny (model prog w) A (subscriptTail value slice (.bytes b t) (.ref s.heap.objs.size)) Q E { s with heap := s.heap.push { cls := .type "slice", data := .fields #[.int lo tl, .int hi tu, .none] } } :=
  KBc.slice_K (lo := some lo) (hi := some hi) hF hN rfl (.int _ _) (.int _ _) (by rw [KBw.ints_length]; exact hz) (fun h' t' k F' N' _ => by rw [cut_picked h0 h1]; exact h h' t' k F' N') hs ht
theorem item_b (hfit : b.size ≤ 1099511627776) (h0 : 0 ≤ i) (h1 : i < b.size) (h : ∀ t' k, 0 ≤ bAt b i → bAt b i < 256 → Q (.int (bAt b i) t') { s with toks := k })
    (hs : subscripted slice false (.bytes b t) (.int i ui) = operate [.bytes b t, .int i ui] (getItem (.bytes b t) (.int i ui)) := by with_unfolding_all rfl)
    (ht : ∀ r, letTemporaryGo value (.bytes b t) r = pure () := by intro _; with_unfolding_all rfl) :
    wpAny (model prog w) A (subscriptTail value slice (.bytes b t) (.int i ui)) Q E s :=
  KBy.item_N (x := b.toList) (by simpa using hfit) h0 (by simpa using h1) (h _ _ (bAt_in b i).1 (bAt_in b i).2) hs ht
theorem eq_cut1 {d : UInt8} {k : Int} (h0 : 0 ≤ i) (h1 : i < b.size) (hd : (d.toNat : Int) = k) (h : Q (.bool (decide (bAt b i = k))) s) : wpAny (model prog w) A (compareOp .Eq (.bytes (cut b i (i + 1)) t) (.bytes #[d] u)) Q E s := by
  refine eq_bytes ?_
  rw [cut_one h0 h1]
  have e : ([b.toList.getD i.toNat 0] == [d]) = decide (bAt b i = k) := by
    rw [Bool.eq_iff_iff, beq_iff_eq, decide_eq_true_eq, ← hd]
    unfold bAt
    constructor
    · intro q
      rw [(List.cons.inj q).1]
    · intro q
      rw [UInt8.toNat_inj.mp (Int.ofNat.inj q)]
  rw [show (#[d] : Array UInt8).toList = [d] from rfl, e]
  exact h
theorem ne_cut1 {d : UInt8} {k : Int} (h0 : 0 ≤ i) (h1 : i < b.size) (hd : (d.toNat : Int) = k) (h : Q (.bool (decide (bAt b i ≠ k))) s) : wpAny (model prog w) A (compareOp .NotEq (.bytes (cut b i (i + 1)) t) (.bytes #[d] u)) Q E s := by
  refine ne_bytes ?_
  rw [cut_one h0 h1]
  have e : ([b.toList.getD i.toNat 0] != [d]) = decide (bAt b i ≠ k) := by
    rw [Bool.eq_iff_iff, bne_iff_ne, decide_eq_true_eq, ← hd]
    unfold bAt
    constructor
    · intro q z
      exact q (by rw [UInt8.toNat_inj.mp (Int.ofNat.inj z)])
    · intro q z
      exact q (by rw [(List.cons.inj z).1])
  rw [show (#[d] : Array UInt8).toList = [d] from rfl, e]
  exact h
theorem eq_cut2 {d e : UInt8} {k : Int} (h0 : 0 ≤ i) (h1 : i < b.size) (hd : (d.toNat : Int) = k) (hk : bAt b i ≠ k) (h : Q (.bool false) s) : wpAny (model prog w) A (compareOp .Eq (.bytes (cut b i (i + 2)) t) (.bytes #[d, e] u)) Q E s := by
  refine eq_bytes ?_
  have hne : ((cut b i (i + 2)).toList == (#[d, e] : Array UInt8).toList) = false := by
    rw [beq_eq_false_iff_ne]
    intro q
    apply hk
    obtain ⟨j, rfl⟩ := Int.eq_ofNat_of_zero_le h0
    have hj : j < b.toList.length := by simpa using h1
    unfold cut at q
    rw [show ((j : Int) + 2).toNat - (j : Int).toNat = 2 by omega, Int.toNat_natCast, List.toList_toArray, List.drop_eq_getElem_cons hj, List.take_succ_cons] at q
    have q1 := (List.cons.inj q).1
    unfold bAt
    rw [← hd]
    simp only [Int.toNat_natCast, List.getD_eq_getElem?_getD, List.getElem?_eq_getElem hj, Option.getD_some]
    rw [q1]
  rw [hne]
  exact h
end
end
section
open PySem PySem.W PyProof.Rows PySem.Builtin PySem.Calls
set_option maxRecDepth 100000
theorem Ct.use {k : Nat} {w : World} {f : Addr} {news : Led} {vs : List Value} {Ret Exc : Value → Led → Prop} (C : Ct k w f news vs Ret Exc) {mean : ExcName → Option Value} {mg mb : Str → Option Value} {dp un : Nat} {gd : Option (List Code)} {cn : Str} {cs : Scope} {a : Addr} {ccd : Value} {cl : List (Str × Addr)} {outer : List Env} {A₀ : Around} {base h₀ : Heap} {L : Addr}
    {m : Str → Option Value} {s : Shared} {Q E : Value → Shared → Prop}
    (B : Below A₀ base outer h₀) (F : Fr h₀ L s.heap m) (X : (hd.heap_39 w.params).In h₀) (N : News h₀ L s.heap news) (T : Top hd.view_39 (looseW hd.view_39 [Str.ofString "PostError"]) mean mg mb h₀) (hk : cs.kind = .function)
    (hd : dp + k < recursionLimit) (hu : un + 8 * k < cLine)
    (hret : ∀ r news' h' tk', Fr h₀ L h' m → News h₀ L h' news' → Ret r news' → Q r { s with heap := h', toks := tk' })
    (hexc : ∀ e news' h' tk', Fr h₀ L h' m → News h₀ L h' news' → Exc e news' → E e { s with heap := h', toks := tk' }) :
    wpAny (model PySem.Challenge.rw_nz0310_01.row.prog w) (ktrTop dp un gd cn cs L a ccd cl outer) (call (.ref f) vs) Q E s := C mean mg mb dp un gd cn cs a ccd cl outer A₀ base h₀ L m s Q E B F X N T hk hd hu hret hexc
/-- a while, turn by turn -/
def Unr (M : Model) (A : Around) (test : Expr) (body : List Stmt) (env : Env) (Q : Flow → Shared → Prop) (E : Value → Shared → Prop) : Nat → Shared → Prop
  | 0, s => wpAny M A (isTrue test env (eval test env)) (fun b s₂ => if b = true then False else Q .next s₂) E s
  | n + 1, s => wpAny M A (isTrue test env (eval test env)) (fun b s₂ => if b = true then wpAny M A (execs body env) (fun f s₃ => match f with
      | .next => Unr M A test body env Q E n s₃
      | .cont => Unr M A test body env Q E n s₃
      | .brk => Q .next s₃
      | .ret v => Q (.ret v) s₃) E s₂ else Q .next s₂) E s
theorem Unr.zero {M : Model} {A : Around} {test : Expr} {body : List Stmt} {env : Env} {Q : Flow → Shared → Prop} {E : Value → Shared → Prop} {s : Shared}
    (h : wpAny M A (isTrue test env (eval test env)) (fun b s₂ => if b = true then False else Q .next s₂) E s) : Unr M A test body env Q E 0 s := h
theorem Unr.succ {M : Model} {A : Around} {test : Expr} {body : List Stmt} {env : Env} {Q : Flow → Shared → Prop} {E : Value → Shared → Prop} {s : Shared} {n : Nat}
    (h : wpAny M A (isTrue test env (eval test env)) (fun b s₂ => if b = true then wpAny M A (execs body env) (fun f s₃ => match f with
      | .next => Unr M A test body env Q E n s₃
      | .cont => Unr M A test body env Q E n s₃
      | .brk => Q .next s₃
      | .ret v => Q (.ret v) s₃) E s₂ else Q .next s₂) E s) : Unr M A test body env Q E (n + 1) s := h
theorem While_unr {prog : Program} {w : World} {A : Around} {test : Expr} {body : List Stmt} {pos : Pos} {env : Env} {Q : Flow → Shared → Prop} {E : Value → Shared → Prop} {s : Shared} (n : Nat)
    (h : Unr (model prog w) A test body env Q E n s) (hE : PassesOwn (model prog w) A env E := by passes_own) : wpAny (model prog w) A (exec (.While test body [] pos) env) Q E s := by
  refine wpAny_While (codeAny_whileLoop (fun k s' => Unr (model prog w) A test body env Q E k s') ?_ n h)
  intro k s' hk
  cases k with
  | zero =>
    refine wpAny_mono hk (fun b s₂ h₂ => ?_) hE
    cases b with
    | false =>
      simp only [Bool.false_eq_true, if_false] at h₂ ⊢
      exact wpAny_execs_nil h₂
    | true => exact absurd h₂ (by simp)
  | succ k =>
    refine wpAny_mono hk (fun b s₂ h₂ => ?_) hE
    cases b with
    | false =>
      simp only [Bool.false_eq_true, if_false] at h₂ ⊢
      exact wpAny_execs_nil h₂
    | true =>
      simp only [if_true] at h₂ ⊢
      refine wpAny_mono h₂ (fun f s₃ h₃ => ?_) hE
      cases f with
      | next => exact ⟨k, Nat.lt_succ_self k, h₃⟩
      | cont => exact ⟨k, Nat.lt_succ_self k, h₃⟩
      | brk => exact h₃
      | ret v => exact h₃
section
variable {prog : Program} {w : World} {A : Around} {E : Value → Shared → Prop} {s : Shared} {D : Addr} {x a b c : Int} {u ta tb tc : Tok} {Q : Value → Shared → Prop}
theorem any2 : ([a, b].any fun y => y == x) = decide (x = a ∨ x = b) := by
  rw [Bool.eq_iff_iff]
  simp only [List.any_cons, List.any_nil, Bool.or_false, Bool.or_eq_true, beq_iff_eq, decide_eq_true_eq]
  omega
theorem any3 : ([a, b, c].any fun y => y == x) = decide (x = a ∨ x = b ∨ x = c) := by
  rw [Bool.eq_iff_iff]
  simp only [List.any_cons, List.any_nil, Bool.or_false, Bool.or_eq_true, beq_iff_eq, decide_eq_true_eq]
  omega
theorem in_tup2 (ht : IsTup s.heap D #[.int a ta, .int b tb]) (h : Q (.bool (decide (x = a ∨ x = b))) s) : wpAny (model prog w) A (compareOp .In (.int x u) (.ref D)) Q E s :=
  in_tuple_ints (ns := [a, b]) ht (.cons _ _ (.cons _ _ .nil)) (by rw [any2]; exact h)
theorem in_tup3 (ht : IsTup s.heap D #[.int a ta, .int b tb, .int c tc]) (h : Q (.bool (decide (x = a ∨ x = b ∨ x = c))) s) : wpAny (model prog w) A (compareOp .In (.int x u) (.ref D)) Q E s :=
  in_tuple_ints (ns := [a, b, c]) ht (.cons _ _ (.cons _ _ (.cons _ _ .nil))) (by rw [any3]; exact h)
end
theorem int_is {x y : Int} {t : Tok} (e : x = y) : ∃ t', Value.int x t = Value.int y t' := ⟨t, by rw [e]⟩
theorem str_is {x y : Str} {t : Tok} (e : x = y) : ∃ t', Value.str x t = Value.str y t' := ⟨t, by rw [e]⟩
theorem bytes_is {x y : Array UInt8} {t : Tok} (e : x = y) : ∃ t', Value.bytes x t = Value.bytes y t' := ⟨t, by rw [e]⟩
theorem bool_is {x y : Bool} (e : x = y) : Value.bool x = Value.bool y := by rw [e]
/-- a goal that the walk leaves to its prover -/
def Hold (P : Prop) : Prop := P
theorem Hold.mk {P : Prop} (h : Hold P) : P := h
theorem Hold.of {P : Prop} (h : P) : Hold P := h
theorem ne_below {l : Led} {d : Addr} (h : ∀ p ∈ l, p.1 < d) : ∀ p ∈ l, p.1 ≠ d := fun p hp => Nat.ne_of_lt (h p hp)
theorem ne_allLt {l : Led} {d : Addr} (h : AllLt d l) : ∀ p ∈ l, p.1 ≠ d := fun p hp => Nat.ne_of_lt (kst_ltOf h p hp)
theorem ne_allLt2 {l : Led} {d : Addr} {P : Prop} (h : P ∧ AllLt d l) : ∀ p ∈ l, p.1 ≠ d := ne_allLt h.2
theorem drop0 {h₀ h : Heap} {L : Addr} {x : Addr × Obj} {l : Led} (N : News h₀ L h (x :: l)) : News h₀ L h l := fun p hp => N p (.tail _ hp)
theorem drop1 {h₀ h : Heap} {L : Addr} {x y : Addr × Obj} {l : Led} (N : News h₀ L h (x :: y :: l)) : News h₀ L h (x :: l) := fun p hp => by
  rcases List.mem_cons.mp hp with rfl | hp
  · exact N _ (.head _)
  · exact N _ (.tail _ (.tail _ hp))
end
section
open PySem PySem.W PyProof.Rows
abbrev atomSigns : Array UInt8 := #[33, 35, 36, 37, 38, 39, 42, 43, 45, 47, 61, 63, 94, 95, 96, 123, 124, 125, 126]
def acode (k : Int) : Bool := (decide (48 ≤ k) && decide (k ≤ 57)) || (decide (65 ≤ k) && decide (k ≤ 90)) || (decide (97 ≤ k) && decide (k ≤ 122)) || decide (127 < k) || atomSigns.contains k.toNat.toUInt8
set_option maxRecDepth 100000 in
set_option maxHeartbeats 8000000 in
theorem c_atom_code (w : World) (news : Led) (code : Int) (t : Tok) (hc0 : 0 ≤ code) (hc1 : code < 256) : Ct 1 w 69 news [.int code t] (fun r n => n = news ∧ r = .bool (acode code)) (fun _ _ => False) := by
  k_with_none
  w_top off
  (k_with "compareOp In int bytes" => (refine in_int_bytes (by assumption) (by assumption) ?_))
  unfold Ct
  k_fill
  intro mean mg mb dp un gd cn cs a ccd cl outer A₀ base h₀ L m s Q E B F X N T hk hdp hun hret hexc
  refine wpAny_call ?_
  k_dflt cell_enter
  k_steps
  all_goals (refine hret _ _ _ _ (by k_asm) (by k_asm) ⟨rfl, ?_⟩)
  all_goals (rw [acode])
  all_goals (clear hret hexc)
  all_goals (simp only [decide_eq_true_eq, decide_eq_false_iff_not, Bool.not_eq_true] at *)
  all_goals (congr 1; simp_all <;> omega)
end
section
open PySem PySem.W PyProof.Rows
set_option maxRecDepth 100000 in
set_option maxHeartbeats 4000000 in
theorem c_line_end (w : World) (news : Led) (data : Array UInt8) (td : Tok) (hn : data.size ≤ 100) (at_ : Int) (ta : Tok) (h0 : 0 ≤ at_) (h1 : at_ < data.size) (hn1 : bAt data at_ ≠ 10) (hn2 : bAt data at_ ≠ 13) : Ct 1 w 76 news [.bytes data td, .int at_ ta] (fun r n => n = news ∧ ∃ t, r = .int (-1) t) (fun _ _ => False) := by
  k_with_none
  w_top off
  (k_with "compareOp In int bytes" => (refine in_int_bytes (by assumption) (by assumption) ?_))
  (k_with "subscriptTail Name Slice bytes ref" => (k_here; (with_reducible show wpAny _ _ (subscriptTail _ (Expr.Slice _ _ none _) (Value.bytes _ _) (Value.ref _)) _ _ _); (with_reducible rename Fr _ _ _ _ => F'); (with_reducible rename News _ _ _ _ => N'); (refine slice_b (s := ⟨_, _, _, _, _⟩) F' N' (by omega) (by omega) (by omega) ?_); intro _ _ _ F' N'))
  (k_with "subscriptTail" => (k_here; (with_reducible show wpAny _ _ (subscriptTail _ _ (Value.bytes _ _) (Value.int _ _)) _ _ _); (refine item_b (by omega) (by omega) (by omega) ?_); intro _ _ _ _))
  (k_with "compareOp Eq bytes bytes" => (first | refine eq_cut1 (k := 10) (by omega) (by omega) (by decide) ?_ | refine eq_cut1 (k := 34) (by omega) (by omega) (by decide) ?_ | refine eq_cut1 (k := 40) (by omega) (by omega) (by decide) ?_ | refine eq_cut1 (k := 91) (by omega) (by omega) (by decide) ?_ | refine eq_cut2 (k := 13) (by omega) (by omega) (by decide) (by omega) ?_))
  (k_with "compareOp In int ref" => (k_here; k_dflt (first | refine in_tup2 (News.isTup (by k_asm) (by k_mem)) ?_ | refine in_tup3 (tupK (by k_in) (by k_is)) ?_)))
  (k_with "ite" => (k_here; k_openite; first | (refine ite_pos (by (simp only [decide_eq_true_eq, Bool.and_eq_true, Bool.or_eq_true, Bool.not_eq_true', decide_eq_false_iff_not]; omega)) ?_; walk_say "PRUNED (own)") | (refine ite_neg (by (simp only [decide_eq_true_eq, Bool.and_eq_true, Bool.or_eq_true, Bool.not_eq_true', decide_eq_false_iff_not]; omega)) ?_; walk_say "PRUNED (own)")))
  (k_with "Unr" => (first | refine Unr.succ ?_ | refine Unr.zero ?_))
  unfold Ct
  k_fill
  intro mean mg mb dp un gd cn cs a ccd cl outer A₀ base h₀ L m s Q E B F X N T hk hdp hun hret hexc
  refine wpAny_call ?_
  k_dflt cell_enter
  k_steps
  all_goals (refine hret _ (news) _ _ (by k_asm) (by first | k_asm | (refine' cb_drop ?cbN ?cbS; (case cbN => k_asm); (case cbS => kcj_all))) ?_)
  all_goals exact ⟨rfl, _, rfl⟩
end
section
open PySem PySem.W PyProof.Rows
abbrev tupOf (vs : List Value) : Obj := { cls := .type "tuple", data := .seq vs.toArray }
def pieceB (data : Array UInt8) (i : Int) : Array UInt8 := if bAt data i = 92 then cut data (i + 1) (i + 2) else cut data i (i + 1)
def nextB (data : Array UInt8) (i : Int) : Int := if bAt data i = 92 then i + 2 else i + 1

set_option maxRecDepth 100000 in
set_option maxHeartbeats 4000000 in
theorem c_inside_at (w : World) (news : Led) (data : Array UInt8) (td : Tok) (hn : data.size ≤ 100) (at_ : Int) (ta : Tok) (b : Int) (tb : Tok) (h0 : 0 ≤ at_) (h1 : at_ < data.size)
    (hn1 : bAt data at_ ≠ 0 ∧ bAt data at_ ≠ 10 ∧ bAt data at_ ≠ 13) (hn2 : bAt data at_ ≠ 92 ∨ at_ + 1 < data.size ∧ bAt data (at_ + 1) ≠ 0 ∧ bAt data (at_ + 1) ≠ 10 ∧ bAt data (at_ + 1) ≠ 13) : Ct 3 w 83 news [.bytes data td, .int at_ ta, .int b tb] (fun r n => ∃ D t1 t2, n = (D, tupOf [.bytes (pieceB data at_) t1, .int (nextB data at_) t2]) :: news ∧ (∀ p ∈ news, p.1 < D) ∧ r = .ref D) (fun _ _ => False) := by
  k_with_none
  w_top off
  (k_with "compareOp In int bytes" => (refine in_int_bytes (by assumption) (by assumption) ?_))
  (k_with "subscriptTail Name Slice bytes ref" => (k_here; (with_reducible show wpAny _ _ (subscriptTail _ (Expr.Slice _ _ none _) (Value.bytes _ _) (Value.ref _)) _ _ _); (with_reducible rename Fr _ _ _ _ => F'); (with_reducible rename News _ _ _ _ => N'); (refine slice_b (s := ⟨_, _, _, _, _⟩) F' N' (by omega) (by omega) (by omega) ?_); intro _ _ _ F' N'))
  (k_with "subscriptTail" => (k_here; (with_reducible show wpAny _ _ (subscriptTail _ _ (Value.bytes _ _) (Value.int _ _)) _ _ _); (refine item_b (by omega) (by omega) (by omega) ?_); intro _ _ _ _))
  (k_with "compareOp Eq bytes bytes" => (first | refine eq_cut1 (k := 10) (by omega) (by omega) (by decide) ?_ | refine eq_cut1 (k := 34) (by omega) (by omega) (by decide) ?_ | refine eq_cut1 (k := 40) (by omega) (by omega) (by decide) ?_ | refine eq_cut1 (k := 91) (by omega) (by omega) (by decide) ?_ | refine eq_cut2 (k := 13) (by omega) (by omega) (by decide) (by omega) ?_))
  (k_with "compareOp In int ref" => (k_here; k_dflt (first | refine in_tup2 (News.isTup (by k_asm) (by k_mem)) ?_ | refine in_tup3 (tupK (by k_in) (by k_is)) ?_)))
  (k_with "ite" => (k_here; k_openite; first | (refine ite_pos (by (simp only [decide_eq_true_eq, Bool.and_eq_true, Bool.or_eq_true, Bool.not_eq_true', decide_eq_false_iff_not]; omega)) ?_; walk_say "PRUNED (own)") | (refine ite_neg (by (simp only [decide_eq_true_eq, Bool.and_eq_true, Bool.or_eq_true, Bool.not_eq_true', decide_eq_false_iff_not]; omega)) ?_; walk_say "PRUNED (own)")))
  (k_with "Unr" => (first | refine Unr.succ ?_ | refine Unr.zero ?_))
  (k_with "call ref" => (k_here; (with_reducible show wpAny _ _ (call (Value.ref 76) _) _ _ _); k_dflt (refine' Ct.use (c_line_end _ _ _ _ (by omega) _ _ (by omega) (by omega) (by omega) (by omega)) ?k1 ?k2 ?k3 ?k4 ?k5 ?kK ?kd ?ku ?_ ?ke; (case k1 => k_asm); (case k2 => k_asm); (case k3 => k_asm); (case k4 => k_asm); (case k5 => k_asm); (case kK => first | exact rfl | assumption); (case kd => ktr_room); (case ku => ktr_units); (case ke => (intro _ _ _ _ _ _ hF; exact hF.elim)); (intro r n h' tk' F' N' hR; (obtain ⟨hn9, t9, hr9⟩ := hR; subst hn9 hr9); (try dsimp only); (try k_fold)))))
  unfold Ct
  k_fill
  intro mean mg mb dp un gd cn cs a ccd cl outer A₀ base h₀ L m s Q E B F X N T hk hdp hun hret hexc
  refine wpAny_call ?_
  k_dflt cell_enter
  k_steps
  all_goals (try (exfalso; omega))
  all_goals (refine hret _ _ _ _ (by k_asm) (by k_asm) ?_)
  all_goals (unfold pieceB nextB; first | rw [if_pos (by omega), if_pos (by omega)] | rw [if_neg (by omega), if_neg (by omega)])
  all_goals exact ⟨_, _, _, rfl, by assumption, rfl⟩
end
section
open PySem PySem.W PyProof.Rows PySem.Builtin PySem.Calls
set_option maxRecDepth 100000
/-- the signs that get a backslash ahead -/
def special (c : UInt8) : Bool := c == 91 || c == 93 || c == 92
def esc1 (c : UInt8) : List UInt8 := if special c = true then [92, c] else [c]
def escL (l : List UInt8) : List UInt8 := l.flatMap esc1
/-- neither a nought nor a line's end -/
def tame (c : UInt8) : Prop := (c.toNat : Int) ≠ 0 ∧ (c.toNat : Int) ≠ 10 ∧ (c.toNat : Int) ≠ 13
theorem escL_cons (c : UInt8) (l : List UInt8) : escL (c :: l) = esc1 c ++ escL l := by simp [escL]
theorem escL_snoc (c : UInt8) (l : List UInt8) : escL (l ++ [c]) = escL l ++ esc1 c := by simp [escL]
theorem special_iff (c : UInt8) : special c = true ↔ ((c.toNat : Int) = 91 ∨ (c.toNat : Int) = 93 ∨ (c.toNat : Int) = 92) := by
  have e : ∀ (d : UInt8), c = d ↔ (c.toNat : Int) = (d.toNat : Int) := fun d => ⟨fun q => by rw [q], fun q => UInt8.toNat_inj.mp (Int.ofNat.inj q)⟩
  unfold special
  simp only [Bool.or_eq_true, beq_iff_eq]
  rw [e 91, e 93, e 92]
  exact ⟨fun h => by rcases h with (h | h) | h; exact .inl h; exact .inr (.inl h); exact .inr (.inr h), fun h => by rcases h with h | h | h; exact .inl (.inl h); exact .inl (.inr h); exact .inr h⟩
theorem drop_head {data : Array UInt8} {i : Int} {c : UInt8} {tl : List UInt8} (h0 : 0 ≤ i) (e : data.toList.drop i.toNat = c :: tl) :
    i < data.size ∧ bAt data i = (c.toNat : Int) ∧ data.toList.drop (i + 1).toNat = tl := by
  obtain ⟨k, rfl⟩ := Int.eq_ofNat_of_zero_le h0
  rw [Int.toNat_natCast] at e
  have hk : k < data.toList.length := by
    rcases Nat.lt_or_ge k data.toList.length with h | h
    · exact h
    · rw [List.drop_of_length_le h] at e; cases e
  refine ⟨by simpa using hk, ?_, ?_⟩
  · unfold bAt
    rw [List.drop_eq_getElem_cons hk] at e
    rw [Int.toNat_natCast, List.getD_eq_getElem?_getD, List.getElem?_eq_getElem hk, Option.getD_some, (List.cons.inj e).1]
  · rw [show ((k : Int) + 1).toNat = k + 1 by omega, ← List.drop_drop, e]; rfl
theorem cut_at {data : Array UInt8} {i : Int} {c : UInt8} {tl : List UInt8} (h0 : 0 ≤ i) (e : data.toList.drop i.toNat = c :: tl) : cut data i (i + 1) = #[c] := by
  unfold cut
  rw [e, show (i + 1).toNat - i.toNat = 1 by omega]
  rfl
section
variable {prog : Program} {w : World} {A : Around} {E : Value → Shared → Prop} {s : Shared} {k k' : Int} {t u : Tok} {d : UInt8} {Q : Value → Shared → Prop}
theorem in_int_b1 (h0 : 0 ≤ k) (h1 : k < 256) (hd : (d.toNat : Int) = k') (h : Q (.bool (decide (k = k'))) s) : wpAny (model prog w) A (compareOp .In (.int k t) (.bytes #[d] u)) Q E s := by
  refine in_int_bytes h0 h1 ?_
  have e : (#[d] : Array UInt8).contains k.toNat.toUInt8 = decide (k = k') := by
    rw [Bool.eq_iff_iff]
    simp only [List.contains_toArray, List.contains_cons, List.contains_nil, Bool.or_false, beq_iff_eq, decide_eq_true_eq]
    rw [← hd]
    obtain ⟨j, rfl⟩ := Int.eq_ofNat_of_zero_le h0
    rw [Int.toNat_natCast, ← UInt8.toNat_inj]
    have hj : j < 256 := by omega
    rw [show j.toUInt8.toNat = j by simp [Nat.toUInt8, Nat.mod_eq_of_lt hj]]
    omega
  rw [e]
  exact h
end
theorem drop_more {data : Array UInt8} {i : Int} {a b : List UInt8} (h0 : 0 ≤ i) (e : data.toList.drop i.toNat = a ++ b) : data.toList.drop (i + a.length).toNat = b := by
  obtain ⟨k, rfl⟩ := Int.eq_ofNat_of_zero_le h0
  rw [show ((k : Int) + a.length).toNat = k + a.length by omega, ← List.drop_drop]
  rw [Int.toNat_natCast] at e
  rw [e, List.drop_left]
/-- where a sign's run stands within brackets -/
theorem at_esc {data : Array UInt8} {i : Int} {c : UInt8} {tl : List UInt8} (h0 : 0 ≤ i) (e : data.toList.drop i.toNat = esc1 c ++ tl) :
    ((bAt data i = 92 ∧ i + 1 < data.size ∧ bAt data (i + 1) = (c.toNat : Int)) ∨ (bAt data i = (c.toNat : Int) ∧ (c.toNat : Int) ≠ 91 ∧ (c.toNat : Int) ≠ 93 ∧ (c.toNat : Int) ≠ 92)) ∧ i < data.size ∧
    pieceB data i = #[c] ∧ nextB data i = i + (esc1 c).length := by
  unfold esc1 at e ⊢
  by_cases hs : special c = true
  · rw [if_pos hs] at e ⊢
    have a := drop_head h0 e
    have b := drop_head (i := i + 1) (by omega) a.2.2
    have a2 : bAt data i = 92 := a.2.1
    refine ⟨.inl ⟨a.2.1, b.1, b.2.1⟩, a.1, ?_, ?_⟩
    · unfold pieceB
      rw [if_pos a2, show i + 2 = i + 1 + 1 by omega]
      exact cut_at (by omega) a.2.2
    · unfold nextB
      rw [if_pos a2]; rfl
  · rw [if_neg hs] at e ⊢
    have a := drop_head h0 e
    have hn := mt (special_iff c).mpr hs
    refine ⟨.inr ⟨a.2.1, by omega, by omega, by omega⟩, a.1, ?_, ?_⟩
    · unfold pieceB
      rw [if_neg (by rw [a.2.1]; omega)]
      exact cut_at h0 e
    · unfold nextB
      rw [if_neg (by rw [a.2.1]; omega)]; rfl
theorem bvals_snoc (l : List (Array UInt8 × Tok)) (b : Array UInt8) (t : Tok) : bvals l ++ [.bytes b t] = bvals (l ++ [(b, t)]) := by simp [bvals]
structure ClS where
  done : List UInt8
  todo : List UInt8
  l : List (Array UInt8 × Tok)
  vs : List Value
  n : Nat
  a : Int
  ta : Tok
def ClS.ok (inner : List UInt8) (begun : Int) (c : ClS) : Prop := inner = c.done ++ c.todo ∧ c.vs = bvals c.l ∧ (c.l.map fun p => p.1.toList).flatten = c.done ∧ c.vs.length = c.done.length ∧ c.a = begun + 1 + (escL c.done).length
theorem cl_end {data : Array UInt8} {inner done r9 : List UInt8} {begun a9 : Int} {c9 : UInt8} {l9 : List (Array UInt8 × Tok)} {vs9 : List Value} {n9 : Nat} {ta9 t1 t2 : Tok} {g h' : Heap} {L P D : Addr} {s : Shared} {tup : Obj} {news : Led} {st : List Str} {m₀ m' : Str → Option Value} {tk : Nat}
    (F : Fr g L h' m') (N : News g L h' ((D, tup) :: (P, listOf (vs9 ++ [Value.bytes (pieceB data a9) t1]).toArray (n9 + 1)) :: news)) (hat : m' (Str.ofString "at") = some (.int (nextB data a9) t2))
    (hr : ∀ z, (∀ p ∈ [(Str.ofString "at", Value.int (nextB data a9) t2)], z ≠ p.1) → st.contains z = false → m' z = m₀ z)
    (hin9 : inner = done ++ c9 :: r9) (hvs9 : vs9 = bvals l9) (hfl9 : (l9.map fun p => p.1.toList).flatten = done) (hvl9 : vs9.length = done.length) (ha9 : a9 = begun + 1 + (escL done).length)
    (hx3 : pieceB data a9 = #[c9]) (hx4 : nextB data a9 = a9 + (esc1 c9).length) :
    KswEnd g L s (fun c : ClS => (P, listOf c.vs.toArray c.n) :: news) (fun c => [(Str.ofString "at", .int c.a c.ta)]) (fun _ => True) st m₀ (fun c => c.ok inner begun) (fun c => c.todo.length) ⟨done, c9 :: r9, l9, vs9, n9, a9, ta9⟩ { s with heap := h', toks := tk } :=
  ksw_end (ClS.mk (done ++ [c9]) r9 (l9 ++ [(pieceB data a9, t1)]) (vs9 ++ [Value.bytes (pieceB data a9) t1]) (n9 + 1) (nextB data a9) t2) F N (fun p hp => List.mem_cons_of_mem _ hp) trivial
    (fun p hp => by rw [List.mem_singleton.mp hp]; exact hat) hr
    ⟨by rw [hin9]; simp, by rw [hvs9, bvals_snoc], by simp [hfl9, hx3], by simp [hvl9], by show nextB data a9 = _; rw [hx4, ha9, escL_snoc]; simp; omega⟩ (by simp)
end
section
open PySem PySem.W PyProof.Rows PySem.Builtin PySem.Calls
set_option maxRecDepth 100000
def atomU (c : UInt8) : Bool := acode (c.toNat : Int)
theorem cut_run {data : Array UInt8} {i : Int} {a b : List UInt8} (h0 : 0 ≤ i) (e : data.toList.drop i.toNat = a ++ b) : cut data i (i + a.length) = a.toArray := by
  unfold cut
  rw [e, show (i + a.length).toNat - i.toNat = a.length by omega, List.take_left]
theorem size_run {data : Array UInt8} {i : Int} {a b : List UInt8} (h0 : 0 ≤ i) (h1 : i ≤ data.size) (e : data.toList.drop i.toNat = a ++ b) : i + a.length + b.length = data.size := by
  have := congrArg List.length e
  simp only [List.length_drop, Array.length_toList, List.length_append] at this
  omega
structure AtS where
  a : Int
  ta : Tok
def AtS.ok (at_ : Int) (n : Nat) (c : AtS) : Prop := at_ ≤ c.a ∧ c.a ≤ at_ + n
/-- at each place of an atom's run: on or at its end -/
theorem at_run {data : Array UInt8} {i a : Int} {A B : List UInt8} (h0 : 0 ≤ i) (h1 : i ≤ data.size) (e : data.toList.drop i.toNat = A ++ B) (hA : ∀ c ∈ A, atomU c = true) (hB : ∀ c ∈ B.head?, atomU c = false) (l : i ≤ a) (u : a ≤ i + A.length) :
    (a < data.size ∧ acode (bAt data a) = true ∧ a < i + A.length) ∨ (a = i + A.length ∧ (a = data.size ∨ a < data.size ∧ acode (bAt data a) = false)) := by
  have sz := size_run h0 h1 e
  rcases Int.lt_or_le a (i + A.length) with q | q
  · left
    obtain ⟨k, hk⟩ := Int.eq_ofNat_of_zero_le (show 0 ≤ a - i by omega)
    have hkl : k < A.length := by omega
    have ha : a = i + k := by omega
    have e2 : data.toList.drop i.toNat = A.take k ++ (A[k] :: (A.drop (k + 1) ++ B)) := by
      rw [e, ← List.cons_append, ← List.drop_eq_getElem_cons hkl, ← List.append_assoc, List.take_append_drop]
    have d := drop_more h0 e2
    rw [List.length_take, Nat.min_eq_left (Nat.le_of_lt hkl), ← ha] at d
    have x := drop_head (by omega) d
    refine ⟨by omega, ?_, q⟩
    rw [x.2.1]
    exact hA _ (List.getElem_mem hkl)
  · right
    have ha : a = i + A.length := by omega
    refine ⟨ha, ?_⟩
    have d := drop_more h0 e
    rw [← ha] at d
    cases B with
    | nil => left; simp at sz; omega
    | cons c r =>
      right
      have x := drop_head (by omega) d
      exact ⟨x.1, by rw [x.2.1]; exact hB c (by simp)⟩
end
section
open PySem PySem.W PyProof.Rows PySem.Builtin PySem.Calls
set_option maxRecDepth 100000
abbrev signsB : Array UInt8 := #[60, 62, 64, 44, 59, 58, 46, 92]
def isSign (k : Int) : Bool := decide (k = 60 ∨ k = 62 ∨ k = 64 ∨ k = 44 ∨ k = 59 ∨ k = 58 ∨ k = 46 ∨ k = 92)
theorem u8_all {P : UInt8 → Prop} (h : ∀ n : Nat, n < 256 → P (UInt8.ofNat n)) (c : UInt8) : P c := by
  have := h c.toNat c.toNat_lt
  rwa [UInt8.ofNat_toNat] at this
theorem find_sign (c : UInt8) : (Bytes.find? signsB #[c] 0 signsB.size).isSome = isSign (c.toNat : Int) := by
  refine u8_all (P := fun c => (Bytes.find? signsB #[c] 0 signsB.size).isSome = isSign (c.toNat : Int)) ?_ c
  decide +kernel
def notThese (k : Int) : Bool := !([34, 40, 91, 93, 32, 9, 10, 13, 0, 92, 46] : List Int).contains k && !isSign k
theorem acode_these : ∀ n : Nat, n < 256 → (!atomU (UInt8.ofNat n) || notThese ((UInt8.ofNat n).toNat : Int)) = true := by decide +kernel
theorem acode_not {c : UInt8} (h : atomU c = true) : ((c.toNat : Int) ≠ 34 ∧ (c.toNat : Int) ≠ 40 ∧ (c.toNat : Int) ≠ 91 ∧ (c.toNat : Int) ≠ 93 ∧ (c.toNat : Int) ≠ 32 ∧ (c.toNat : Int) ≠ 9 ∧ (c.toNat : Int) ≠ 10 ∧ (c.toNat : Int) ≠ 13 ∧ (c.toNat : Int) ≠ 0 ∧ (c.toNat : Int) ≠ 92 ∧ (c.toNat : Int) ≠ 46) ∧ isSign (c.toNat : Int) = false := by
  have q := u8_all (P := fun c => (!atomU c || notThese (c.toNat : Int)) = true) acode_these c
  rw [h] at q
  have q2 : notThese (c.toNat : Int) = true := by simpa using q
  unfold notThese at q2
  simp only [List.contains_cons, List.contains_nil, Bool.or_false, Bool.and_eq_true, Bool.not_eq_true', Bool.or_eq_false_iff, beq_eq_false_iff_ne, ne_eq] at q2
  obtain ⟨⟨a1, a2, a3, a4, a5, a6, a7, a8, a9, a10, a11⟩, hs⟩ := q2
  exact ⟨⟨a1, a2, a3, a4, a5, a6, a7, a8, a9, a10, a11⟩, hs⟩
section
variable {prog : Program} {w : World} {A : Around} {E : Value → Shared → Prop} {s : Shared} {b : Array UInt8} {t u : Tok} {h₀ : Heap} {L : Addr} {m : Str → Option Value} {news : Led} {i : Int} {Q : Value → Shared → Prop}
theorem in_signs (F : Fr h₀ L s.heap m) (N : News h₀ L s.heap news) (hh : A.handled = none) (h0 : 0 ≤ i) (h1 : i < b.size) (h : ∀ h' tk, Fr h₀ L h' m → News h₀ L h' news → Q (.bool (isSign (bAt b i))) { s with heap := h', toks := tk }) :
    wpAny (model prog w) A (compareOp .In (.bytes (cut b i (i + 1)) t) (.bytes signsB u)) Q E s := by
  refine in_bytes_bytes F N hh fun h' tk F' N' => ?_
  have e : cut b i (i + 1) = #[b.toList.getD i.toNat 0] := by
    have := cut_one h0 h1
    rw [← this]
  rw [e, find_sign]
  exact h h' tk F' N'
end
theorem bAt_head {data : Array UInt8} {i : Int} {c : UInt8} {tl : List UInt8} (h0 : 0 ≤ i) (e : data.toList.drop i.toNat = c :: tl) : i < data.size ∧ bAt data i = (c.toNat : Int) := ⟨(drop_head h0 e).1, (drop_head h0 e).2.1⟩
theorem drop2 {h₀ h : Heap} {L : Addr} {x y z : Addr × Obj} {l : Led} (N : News h₀ L h (x :: y :: z :: l)) : News h₀ L h (x :: y :: l) := fun p hp => by
  rcases List.mem_cons.mp hp with rfl | hp
  · exact N _ (.head _)
  · rcases List.mem_cons.mp hp with rfl | hp
    · exact N _ (.tail _ (.head _))
    · exact N _ (.tail _ (.tail _ (.tail _ hp)))
end
section
open PySem PySem.W PyProof.Rows
/-- where the first sign that is no blank stands -/
def pwf (data : Array UInt8) (i : Int) : Int := if i < data.size ∧ bAt data i = 32 then i + 1 else i

set_option maxRecDepth 100000 in
set_option maxHeartbeats 4000000 in
theorem c_past_white (w : World) (news : Led) (data : Array UInt8) (td : Tok) (hn : data.size ≤ 100) (at_ : Int) (ta : Tok) (h0 : 0 ≤ at_) (h1 : at_ ≤ data.size)
    (hn1 : data.size ≤ at_ ∨ bAt data at_ ≠ 10 ∧ bAt data at_ ≠ 13 ∧ bAt data at_ ≠ 9) (hn2 : data.size ≤ at_ ∨ bAt data at_ ≠ 32 ∨ at_ + 1 < data.size ∧ bAt data (at_ + 1) ≠ 10 ∧ bAt data (at_ + 1) ≠ 13 ∧ bAt data (at_ + 1) ≠ 9 ∧ bAt data (at_ + 1) ≠ 32) : Ct 3 w 118 news [.bytes data td, .int at_ ta] (fun r n => n = news ∧ ∃ t, r = .int (pwf data at_) t) (fun _ _ => False) := by
  k_with_none
  w_top off
  (k_with "compareOp In int bytes" => (refine in_int_bytes (by assumption) (by assumption) ?_))
  (k_with "subscriptTail Name Slice bytes ref" => (k_here; (with_reducible show wpAny _ _ (subscriptTail _ (Expr.Slice _ _ none _) (Value.bytes _ _) (Value.ref _)) _ _ _); (with_reducible rename Fr _ _ _ _ => F'); (with_reducible rename News _ _ _ _ => N'); (refine slice_b (s := ⟨_, _, _, _, _⟩) F' N' (by omega) (by omega) (by omega) ?_); intro _ _ _ F' N'))
  (k_with "subscriptTail" => (k_here; (with_reducible show wpAny _ _ (subscriptTail _ _ (Value.bytes _ _) (Value.int _ _)) _ _ _); (refine item_b (by omega) (by omega) (by omega) ?_); intro _ _ _ _))
  (k_with "compareOp Eq bytes bytes" => (first | refine eq_cut1 (k := 10) (by omega) (by omega) (by decide) ?_ | refine eq_cut1 (k := 34) (by omega) (by omega) (by decide) ?_ | refine eq_cut1 (k := 40) (by omega) (by omega) (by decide) ?_ | refine eq_cut1 (k := 91) (by omega) (by omega) (by decide) ?_ | refine eq_cut2 (k := 13) (by omega) (by omega) (by decide) (by omega) ?_))
  (k_with "compareOp In int ref" => (k_here; k_dflt (first | refine in_tup2 (News.isTup (by k_asm) (by k_mem)) ?_ | refine in_tup3 (tupK (by k_in) (by k_is)) ?_)))
  (k_with "ite" => (k_here; k_openite; first | (refine ite_pos (by (simp only [decide_eq_true_eq, Bool.and_eq_true, Bool.or_eq_true, Bool.not_eq_true', decide_eq_false_iff_not]; omega)) ?_; walk_say "PRUNED (own)") | (refine ite_neg (by (simp only [decide_eq_true_eq, Bool.and_eq_true, Bool.or_eq_true, Bool.not_eq_true', decide_eq_false_iff_not]; omega)) ?_; walk_say "PRUNED (own)")))
  (k_with "Unr" => (first | refine Unr.succ ?_ | refine Unr.zero ?_))
  (k_with "call ref" => (k_here; (with_reducible show wpAny _ _ (call (Value.ref 76) _) _ _ _); k_dflt (refine' Ct.use (c_line_end _ _ _ _ (by omega) _ _ (by omega) (by omega) (by omega) (by omega)) ?k1 ?k2 ?k3 ?k4 ?k5 ?kK ?kd ?ku ?_ ?ke; (case k1 => k_asm); (case k2 => k_asm); (case k3 => k_asm); (case k4 => k_asm); (case k5 => k_asm); (case kK => first | exact rfl | assumption); (case kd => ktr_room); (case ku => ktr_units); (case ke => (intro _ _ _ _ _ _ hF; exact hF.elim)); (intro r n h' tk' F' N' hR; (obtain ⟨hn9, t9, hr9⟩ := hR; subst hn9 hr9); (try dsimp only); (try k_fold)))))
  (k_with "exec While Compare cons nil" => (k_here; refine While_unr 2 ?_))
  unfold Ct
  k_fill
  intro mean mg mb dp un gd cn cs a ccd cl outer A₀ base h₀ L m s Q E B F X N T hk hdp hun hret hexc
  refine wpAny_call ?_
  k_dflt cell_enter
  k_steps
  all_goals (refine hret _ (news) _ _ (by k_asm) (by first | k_asm | (refine' cb_drop ?cbN ?cbS; (case cbN => k_asm); (case cbS => kcj_all))) ?_)
  all_goals (refine ⟨rfl, int_is ?_⟩; unfold pwf; first | rw [if_pos (by omega)] | rw [if_neg (by omega)])
end
section
open PySem PySem.W PyProof.Rows PySem.Builtin PySem.Calls
set_option maxRecDepth 100000
inductive Tk where
  | atom (A : List UInt8)
  | sign (c : UInt8)
  | lit (inner : List UInt8)
def Tk.kind : Tk → Str
  | .atom _ => Str.ofString "atom"
  | .sign _ => Str.ofString "sign"
  | .lit _ => Str.ofString "literal"
def Tk.worth : Tk → List UInt8
  | .atom A => A
  | .sign c => [c]
  | .lit inner => inner
def Tk.src : Tk → List UInt8
  | .atom A => A
  | .sign c => [c]
  | .lit inner => 91 :: (escL inner ++ [93])
def Tk.ok : Tk → Prop
  | .atom A => A ≠ [] ∧ ∀ c ∈ A, atomU c = true
  | .sign c => isSign (c.toNat : Int) = true
  | .lit inner => (∀ c ∈ inner, tame c) ∧ inner.length ≤ 100
def render : List (Bool × Tk) → List UInt8
  | [] => []
  | (g, t) :: r => (if g = true then [32] else []) ++ (t.src ++ render r)
def renderT : List (Bool × Tk) → List UInt8
  | [] => []
  | (_, t) :: r => t.src ++ render r
def Wf : List (Bool × Tk) → Prop
  | [] => True
  | (_, t) :: r => t.ok ∧ ((∃ A, t = .atom A) → ∀ c ∈ (render r).head?, atomU c = false) ∧ Wf r
theorem src_head {t : Tk} (h : t.ok) : ∃ c r, t.src = c :: r ∧ (c.toNat : Int) ≠ 32 ∧ (c.toNat : Int) ≠ 9 ∧ (c.toNat : Int) ≠ 10 ∧ (c.toNat : Int) ≠ 13 := by
  cases t with
  | atom A =>
    obtain ⟨c, r, e⟩ := List.exists_cons_of_ne_nil h.1
    have := (acode_not (h.2 c (by rw [e]; exact .head _))).1
    exact ⟨c, r, e, by omega, by omega, by omega, by omega⟩
  | sign c =>
    refine ⟨c, [], rfl, ?_⟩
    have h' : isSign (c.toNat : Int) = true := h
    unfold isSign at h'
    simp only [decide_eq_true_eq] at h'
    omega
  | lit inner => exact ⟨91, _, rfl, by decide, by decide, by decide, by decide⟩
/-- what the blanks' skip meets behind a token -/
theorem pw_facts {data : Array UInt8} {j : Int} {r : List (Bool × Tk)} (h0 : 0 ≤ j) (h1 : j ≤ data.size) (e : data.toList.drop j.toNat = render r) (hw : Wf r) :
    (j = data.size ∨ (j < data.size ∧ bAt data j = 32 ∧ j + 1 < data.size ∧ bAt data (j + 1) ≠ 32 ∧ bAt data (j + 1) ≠ 9 ∧ bAt data (j + 1) ≠ 10 ∧ bAt data (j + 1) ≠ 13) ∨
      (j < data.size ∧ bAt data j ≠ 32 ∧ bAt data j ≠ 9 ∧ bAt data j ≠ 10 ∧ bAt data j ≠ 13)) ∧ 0 ≤ pwf data j ∧ pwf data j ≤ data.size ∧ data.toList.drop (pwf data j).toNat = renderT r := by
  cases r with
  | nil =>
    have sz := size_run (a := []) h0 h1 (by rw [e]; rfl)
    simp only [render, List.length_nil] at sz
    have ej : j = data.size := by omega
    have ep : pwf data j = j := by unfold pwf; rw [if_neg (by omega)]
    refine ⟨.inl ej, by omega, by omega, ?_⟩
    rw [ep, e]; rfl
  | cons x r =>
    obtain ⟨g, t⟩ := x
    obtain ⟨c, q, es, n1, n2, n3, n4⟩ := src_head hw.1
    cases g with
    | true =>
      have e1 : data.toList.drop j.toNat = 32 :: (t.src ++ render r) := by rw [e]; rfl
      have a := drop_head h0 e1
      have a2 : bAt data j = 32 := a.2.1
      have e2 : data.toList.drop (j + 1).toNat = c :: (q ++ render r) := by rw [a.2.2, es]; rfl
      have b := drop_head (by omega) e2
      have ep : pwf data j = j + 1 := by unfold pwf; rw [if_pos ⟨a.1, a2⟩]
      refine ⟨.inr (.inl ⟨a.1, a2, b.1, ?_⟩), by omega, by omega, ?_⟩
      · rw [b.2.1]; exact ⟨n1, n2, n3, n4⟩
      · rw [ep]; exact a.2.2
    | false =>
      have e1 : data.toList.drop j.toNat = c :: (q ++ render r) := by rw [e]; show [] ++ (t.src ++ render r) = _; rw [es]; rfl
      have a := drop_head h0 e1
      have ep : pwf data j = j := by unfold pwf; rw [if_neg (by rw [a.2.1]; omega)]
      refine ⟨.inr (.inr ⟨a.1, ?_⟩), by omega, by omega, ?_⟩
      · rw [a.2.1]; exact ⟨n1, n2, n3, n4⟩
      · rw [ep, e]; rfl
structure TkE where
  tk : Tk
  pos : Int
  a : Addr
  t1 : Tok
  t2 : Tok
  t3 : Tok
def TkE.entry (e : TkE) : Addr × Obj := (e.a, tupOf [.str e.tk.kind e.t1, .bytes e.tk.worth.toArray e.t2, .int e.pos e.t3])
def refs (es : List TkE) : List Value := es.map fun e => .ref e.a
def ents (es : List TkE) : Led := es.map TkE.entry
theorem refs_snoc (es : List TkE) (e : TkE) : refs es ++ [.ref e.a] = refs (es ++ [e]) := by simp [refs]
theorem ents_snoc (es : List TkE) (e : TkE) : ents (es ++ [e]) = ents es ++ [e.entry] := by simp [ents]
structure TksS where
  done : List (Bool × Tk)
  todo : List (Bool × Tk)
  es : List TkE
  n : Nat
  a : Int
  ta : Tok
def TksS.ok (data : Array UInt8) (toks : List (Bool × Tk)) (P : Addr) (news : Led) (c : TksS) : Prop :=
  toks = c.done ++ c.todo ∧ c.es.map (·.tk) = c.done.map (·.2) ∧ Wf c.todo ∧ 0 ≤ c.a ∧ c.a ≤ data.size ∧ data.toList.drop c.a.toNat = renderT c.todo ∧ ∀ p ∈ ents c.es ++ news, p.1 ≠ P
theorem tks_end {data : Array UInt8} {toks done r : List (Bool × Tk)} {x : Bool × Tk} {es : List TkE} {n9 : Nat} {a9 a' : Int} {ta9 t1 t2 t3 t4 : Tok} {pos : Int} {g h' : Heap} {L P D1 D2 : Addr} {s : Shared} {tup : Obj} {news : Led} {st : List Str} {m₀ m' : Str → Option Value} {tk : Nat}
    (F : Fr g L h' m') (N : News g L h' ((D2, tup) :: (D1, tupOf [.str x.2.kind t1, .bytes x.2.worth.toArray t2, .int pos t3]) :: (P, listOf ((refs es).toArray.push (.ref D1)) (n9 + 1)) :: (ents es ++ news)))
    (hat : m' (Str.ofString "at") = some (.int a' t4)) (hr : ∀ z, (∀ p ∈ [(Str.ofString "at", Value.int a' t4)], z ≠ p.1) → st.contains z = false → m' z = m₀ z)
    (h1 : toks = done ++ x :: r) (h2 : es.map (·.tk) = done.map (·.2)) (h3 : Wf r) (h4 : 0 ≤ a') (h5 : a' ≤ data.size) (h6 : data.toList.drop a'.toNat = renderT r) (h7 : ∀ p ∈ ents es ++ news, p.1 ≠ P) (h8 : P < D1) :
    KswEnd g L s (fun c : TksS => (P, listOf (refs c.es).toArray c.n) :: (ents c.es ++ news)) (fun c => [(Str.ofString "at", .int c.a c.ta)]) (fun _ => True) st m₀ (fun c => c.ok data toks P news) (fun c => c.todo.length) ⟨done, x :: r, es, n9, a9, ta9⟩ { s with heap := h', toks := tk } := by
  refine ksw_end (TksS.mk (done ++ [x]) r (es ++ [TkE.mk x.2 pos D1 t1 t2 t3]) (n9 + 1) a' t4) F N (fun p hp => ?_) trivial (fun p hp => by rw [List.mem_singleton.mp hp]; exact hat) hr ⟨by rw [h1]; simp, by simp [h2], h3, h4, h5, h6, ?_⟩ (by simp)
  · rcases List.mem_cons.mp hp with rfl | hp
    · have e : (refs (es ++ [TkE.mk x.2 pos D1 t1 t2 t3])).toArray = (refs es).toArray.push (.ref D1) := by rw [List.push_toArray]; exact congrArg _ (refs_snoc es (TkE.mk x.2 pos D1 t1 t2 t3)).symm
      dsimp only
      rw [e]
      exact .tail _ (.tail _ (.head _))
    · dsimp only at hp
      rw [ents_snoc] at hp
      rcases List.mem_append.mp hp with hp | hp
      · rcases List.mem_append.mp hp with hp | hp
        · exact .tail _ (.tail _ (.tail _ (List.mem_append.mpr (.inl hp))))
        · rw [List.mem_singleton.mp hp]; exact .tail _ (.head _)
      · exact .tail _ (.tail _ (.tail _ (List.mem_append.mpr (.inr hp))))
  · intro p hp
    dsimp only at hp
    rw [ents_snoc] at hp
    rcases List.mem_append.mp hp with hp | hp
    · rcases List.mem_append.mp hp with hp | hp
      · exact h7 p (List.mem_append.mpr (.inl hp))
      · rw [List.mem_singleton.mp hp]; exact Ne.symm (Nat.ne_of_lt h8)
    · exact h7 p (List.mem_append.mpr (.inr hp))
end
section
open PySem PySem.W PyProof.Rows PySem.Builtin PySem.Calls
set_option maxRecDepth 100000
section
variable {prog : Program} {w : World} {A : Around} {E : Value → Shared → Prop} {s : Shared} {h₀ : Heap} {L : Addr} {m : Str → Option Value} {env : Env} {ct elt : Expr} {x : Str} {scope : Scope} {cl : List (Str × Addr)} {S : Led → Prop} {P : Nat → Value → Prop} {Fin : List Value → Led → Prop} {news : Led} {n : Nat}
/-- a comprehension with a test, by what holds of its list after each turn -/
theorem restT (R : Nat → List Value → Prop)
    (turn : ∀ i ys v I oI C oC D m₂ h tk (E' : Value → Shared → Prop), i < n → R i ys → P i v → LCg.NsObj oC m₂ → m₂ x = some v → Fr h₀ L h m → News h₀ L h ((I, oI) :: (C, oC) :: (D, LCg.lst ys) :: news) → LCg.Off3 I C D news → ((@Ne Nat I C) ∧ (@Ne Nat I D) ∧ (@Ne Nat C D)) →
      wpAny (model prog w) A (isTrue ct (compEnvC scope cl C env) (eval ct (compEnvC scope cl C env))) (fun ok s' => if ok = true then
        wpAny (model prog w) A (eval elt (compEnvC scope cl C env)) (LCg.CompEnd h₀ L m { s with heap := h, toks := tk } I oI C oC D (LCg.lst ys) S (fun y news' => news' = news ∧ R (i + 1) (ys ++ [y]))) E' s'
        else LCg.CompEnd h₀ L m { s with heap := h, toks := tk } I oI C oC D (LCg.lst ys) S (fun _ news' => news' = news ∧ R (i + 1) ys) Value.none s') E' { s with heap := h, toks := tk })
    (h0 : R 0 []) (fin : ∀ ys, R n ys → Fin ys news) : LCt.CompRestT prog w A h₀ L m env ct elt x scope cl s S P Fin n 0 [] news := by
  have key : ∀ (j i : Nat) (ys : List Value), i + j = n → R i ys → LCt.CompRestT prog w A h₀ L m env ct elt x scope cl s S P Fin j i ys news := by
    intro j
    induction j with
    | zero => intro i ys hi hr; obtain rfl : i = n := hi; exact LCt.CompRestT.zero (fin ys hr)
    | succ j ih =>
      intro i ys hi hr
      refine LCt.CompRestT.succ ?_
      intro v I oI C oC D m₂ h tk E' hv hC hx F N off ne
      refine wpAny_mono (turn i ys v I oI C oC D m₂ h tk E' (by omega) hr hv hC hx F N off ne) (fun ok s' hq => ?_) fun _ _ e => e
      cases ok with
      | true =>
        simp only [if_true] at hq ⊢
        refine wpAny_mono hq (fun y s₂ hq => ?_) fun _ _ e => e
        obtain ⟨h', tk', nw, e, F', N', off', hS, hn, hR⟩ := hq
        subst hn
        exact ⟨h', tk', nw, e, F', N', off', hS, ih (i + 1) _ (by omega) hR⟩
      | false =>
        simp only [Bool.false_eq_true, if_false] at hq ⊢
        obtain ⟨h', tk', nw, e, F', N', off', hS, hn, hR⟩ := hq
        subst hn
        exact ⟨h', tk', nw, e, F', N', off', hS, ih (i + 1) _ (by omega) hR⟩
  exact key n 0 [] (Nat.zero_add n) h0
/-- a comprehension without a test: its list and the ledger, turn by turn -/
theorem restU (R : Nat → List Value → Led → Prop)
    (turn : ∀ i ys nws v I oI C oC D m₂ h tk (E' : Value → Shared → Prop), i < n → R i ys nws → P i v → LCg.NsObj oC m₂ → m₂ x = some v → Fr h₀ L h m → News h₀ L h ((I, oI) :: (C, oC) :: (D, LCg.lst ys) :: nws) → LCg.Off3 I C D nws → ((@Ne Nat I C) ∧ (@Ne Nat I D) ∧ (@Ne Nat C D)) →
      wpAny (model prog w) A (eval elt (compEnvC scope cl C env)) (LCg.CompEnd h₀ L m { s with heap := h, toks := tk } I oI C oC D (LCg.lst ys) S (fun y news' => R (i + 1) (ys ++ [y]) news')) E' { s with heap := h, toks := tk })
    (h0 : R 0 [] news) (fin : ∀ ys nws, R n ys nws → Fin ys nws) : LCg.CompRest prog w A h₀ L m env elt x scope cl s S P Fin n 0 [] news := by
  have key : ∀ (j i : Nat) (ys : List Value) (nws : Led), i + j = n → R i ys nws → LCg.CompRest prog w A h₀ L m env elt x scope cl s S P Fin j i ys nws := by
    intro j
    induction j with
    | zero => intro i ys nws hi hr; obtain rfl : i = n := hi; exact LCg.CompRest.zero (fin ys nws hr)
    | succ j ih =>
      intro i ys nws hi hr
      refine LCg.CompRest.succ ?_
      intro v I oI C oC D m₂ h tk E' hv hC hx F N off ne
      refine wpAny_mono (turn i ys nws v I oI C oC D m₂ h tk E' (by omega) hr hv hC hx F N off ne) (fun y s₂ hq => ?_) fun _ _ e => e
      obtain ⟨h', tk', nw, e, F', N', off', hS, hR⟩ := hq
      exact ⟨h', tk', nw, e, F', N', off', hS, ih (i + 1) _ _ (by omega) hR⟩
  exact key n 0 [] news (Nat.zero_add n) h0
end
end
section
open PySem PySem.W PyProof.Rows PySem.Builtin PySem.Calls PySem.Spec
set_option maxRecDepth 100000
section
variable {prog : Program} {w : World} {A : Around} {E : Value → Shared → Prop} {s : Shared} {h₀ : Heap} {L : Addr} {m : Str → Option Value} {env : Env}
/-- what a comprehension goes over: a source with its walk -/
structure Src (prog : Program) (w : World) (A : Around) (xv : Value) (n : Nat) (P : Nat → Value → Prop) : Prop where
  fit : n ≤ sizeLine
  iter : ∀ (E : Value → Shared → Prop) (s : Shared) (Q : Value → Shared → Prop), (∀ (o : Obj) (St : Nat → Heap → Prop), Walks prog w A s.heap.objs.size [s.heap.objs.size] [s.heap.objs.size] n P St → (∀ i h, St i h → ∃ o, h.get? s.heap.objs.size = some o) → St 0 (s.heap.push o) → o.isFreed = false →
    Q (.ref s.heap.objs.size) { s with heap := s.heap.push o }) → wpAny (model prog w) A (pyIter xv) Q E s
theorem Src.str {x : Str} {t : Tok} (hh : A.handled = none) (ha : x.cps.all (· < 128) = true) (hz : x.cps.size ≤ sizeLine) : Src prog w A (.str x t) x.cps.size (SignAt x) :=
  ⟨hz, fun E s Q hQ => wpAny_pyIter_ascii ha (hQ _ _ (Walks.strAscii hh _ x t) (fun i h st => by obtain ⟨o, e, _⟩ := st; exact ⟨o, e⟩) ⟨_, Heap.get?_push_size _ rfl, rfl, rfl⟩ rfl)⟩
theorem Src.bytes {b : Array UInt8} {t : Tok} (hh : A.handled = none) (hz : b.size ≤ sizeLine) : Src prog w A (.bytes b t) b.size (fun i v => ∃ c u, b[i]? = some c ∧ v = .int (c.toNat : Int) u) :=
  ⟨hz, fun E s Q hQ => KBw.pyIter_bytes (hQ _ _ (KBw.walks hh _ b t) (fun i h st => by obtain ⟨o, e, _⟩ := st; exact ⟨o, e⟩) ⟨_, Heap.get?_push_size _ rfl, rfl, rfl⟩ rfl)⟩
theorem comp_U {elt iter : Expr} {x : Str} {px : Pos} {scope : Scope} {cl : List (Str × Addr)} {pos : Pos} {Q : Value → Shared → Prop} (_F₀ : Fr h₀ L s.heap m)
    (hclos : closureFor scope env = pure cl) (hcell : ∀ y ∈ scope.names, y.2 ≠ .cell) (hkind : scope.kind = .function)
    (hnames : ∀ y ∈ scope.names, y.2 = .local → scope.names.lookup y.1 = some .local) (hx : scope.names.lookup x = some .local)
    (h : wpAny (model prog w) A (eval iter env) (fun xv s₁ => ∃ n P news, Src prog w A xv n P ∧ Fr h₀ L s₁.heap m ∧ News h₀ L s₁.heap news ∧
      ∀ g, LCg.CompRest prog w A h₀ L m env elt x scope cl { s₁ with heap := g } (fun _ => True) P (LCg.FinE h₀ L m { s₁ with heap := g } Q) n 0 [] news) E s)
    (hs : ∀ x, foldedSetIterable iter env x = pure x := by intro _; rfl) :
    wpAny (model prog w) A (eval (.ListComp elt [⟨.Name x px, iter, [], 0⟩] scope pos) env) Q E s := by
  rw [eval_ListComp]
  refine wpAny_comprehension_free (use := none) rfl hs hclos hkind hnames (wpAny_mono h (fun xv s₁ h₁ => ?_) fun _ _ e => e)
  obtain ⟨n, P, news, src, F, N, R⟩ := h₁
  refine src.iter _ _ _ fun o St W hIo st0 hfr => ?_
  have up : ∀ b o', s₁.heap.get? b = some o' → (s₁.heap.push o).get? b = some o' := fun b o' e => Heap.get?_push_of_some _ e
  refine LCg.block_U W src.fit hIo (fun i h h' o nw st e e' _ _ _ => W.frame i h h' st fun b hb o' e2 => by rw [List.mem_singleton.mp hb] at e2 ⊢; rw [e] at e2; rw [e']; exact e2) hcell hkind hx st0 (fun b hb => ?_)
    (F.keeps up) (N.grown up) (Nat.ne_of_lt F.ns.lt) (next_is_new F) (fun p hp => Nat.ne_of_lt (Heap.lt_size (N p hp).1)) trivial (R _) ?_
  · rw [List.mem_singleton.mp hb]
    show s₁.heap.objs.size < (s₁.heap.push _).objs.size
    rw [Heap.size_push]; exact Nat.lt_succ_self _
  · intro D C h tk m' ys news' F' N' o1 hn hC₀ hD₀ hCL hDL hCD offC fin
    refine ⟨m', hn, fun h'' hs'' => fin D h'' tk (F'.change hs'' hCL hC₀) (fun p hp => ?_) o1⟩
    refine ⟨hs''.extBut _ _ ?_ (N' p hp).1, (N' p hp).2⟩
    rcases List.mem_cons.mp hp with rfl | hp
    · exact Ne.symm hCD
    · exact offC p hp
theorem comp_T {ct elt iter : Expr} {x : Str} {px : Pos} {scope : Scope} {cl : List (Str × Addr)} {pos : Pos} {Q : Value → Shared → Prop} (_F₀ : Fr h₀ L s.heap m)
    (hclos : closureFor scope env = pure cl) (hcell : ∀ y ∈ scope.names, y.2 ≠ .cell) (hkind : scope.kind = .function)
    (hnames : ∀ y ∈ scope.names, y.2 = .local → scope.names.lookup y.1 = some .local) (hx : scope.names.lookup x = some .local)
    (h : wpAny (model prog w) A (eval iter env) (fun xv s₁ => ∃ n P news, Src prog w A xv n P ∧ Fr h₀ L s₁.heap m ∧ News h₀ L s₁.heap news ∧
      ∀ g, LCt.CompRestT prog w A h₀ L m env ct elt x scope cl { s₁ with heap := g } (fun _ => True) P (LCg.FinE h₀ L m { s₁ with heap := g } Q) n 0 [] news) E s)
    (hs : ∀ x, foldedSetIterable iter env x = pure x := by intro _; rfl) :
    wpAny (model prog w) A (eval (.ListComp elt [⟨.Name x px, iter, [ct], 0⟩] scope pos) env) Q E s := by
  rw [eval_ListComp]
  refine wpAny_comprehension_free (use := none) rfl hs hclos hkind hnames (wpAny_mono h (fun xv s₁ h₁ => ?_) fun _ _ e => e)
  obtain ⟨n, P, news, src, F, N, R⟩ := h₁
  refine src.iter _ _ _ fun o St W hIo st0 hfr => ?_
  have up : ∀ b o', s₁.heap.get? b = some o' → (s₁.heap.push o).get? b = some o' := fun b o' e => Heap.get?_push_of_some _ e
  refine LCt.block_T W src.fit hIo (fun i h h' o nw st e e' _ _ _ => W.frame i h h' st fun b hb o' e2 => by rw [List.mem_singleton.mp hb] at e2 ⊢; rw [e] at e2; rw [e']; exact e2) hcell hkind hx st0 (fun b hb => ?_)
    (F.keeps up) (N.grown up) (Nat.ne_of_lt F.ns.lt) (next_is_new F) (fun p hp => Nat.ne_of_lt (Heap.lt_size (N p hp).1)) trivial (R _) ?_
  · rw [List.mem_singleton.mp hb]
    show s₁.heap.objs.size < (s₁.heap.push _).objs.size
    rw [Heap.size_push]; exact Nat.lt_succ_self _
  · intro D C h tk m' ys news' F' N' o1 hn hC₀ hD₀ hCL hDL hCD offC fin
    refine ⟨m', hn, fun h'' hs'' => fin D h'' tk (F'.change hs'' hCL hC₀) (fun p hp => ?_) o1⟩
    refine ⟨hs''.extBut _ _ ?_ (N' p hp).1, (N' p hp).2⟩
    rcases List.mem_cons.mp hp with rfl | hp
    · exact Ne.symm hCD
    · exact offC p hp
end
/-- bytes as a text, sign by sign -/
def strOf (l : List UInt8) : Str := ⟨(l.map (·.toNat)).toArray⟩
theorem strOf_length (l : List UInt8) : (strOf l).length = l.length := by simp [strOf, Str.length]
theorem glued_nil (ws : List Str) : Txt.join (Str.ofString "") ws = ⟨(ws.map (·.cps.toList)).flatten.toArray⟩ := by
  have e0 : Str.ofString "" = ⟨#[]⟩ := by decide
  rw [e0]
  cases ws with
  | nil => rfl
  | cons x r =>
    show Builtin.Str.glued ⟨#[]⟩ (x :: r) = _
    have key : ∀ (r : List Str) (a : Array Nat), r.foldl (fun acc p => acc ++ (#[] : Array Nat) ++ p.cps) a = a ++ (r.map (·.cps.toList)).flatten.toArray := by
      intro r
      induction r with
      | nil => intro a; simp
      | cons y r ih => intro a; rw [List.foldl_cons, ih]; apply Array.ext'; simp
    have e := StrLaws.glued_cons ⟨#[]⟩ r x
    rw [StrLaws.glued_eq_join, ← e]
    show Str.mk (r.foldl (fun acc p => acc ++ (#[] : Array Nat) ++ p.cps) x.cps) = _
    rw [key]
    congr 1
    apply Array.ext'
    simp
theorem strValues_snoc (l : List (Str × Tok)) (x : Str) (t : Tok) : strValues l ++ [.str x t] = strValues (l ++ [(x, t)]) := by simp [strValues]
theorem joinOk_nil {ws : List Str} {B : Nat} (hB : ∀ y ∈ ws, y.length ≤ B) (h : ws.length * B ≤ 16777216) : JoinOk (Str.ofString "") ws = true := by
  have e0 : (Str.ofString "").length = 0 := by decide
  have := StrLaws.joinFits (sep := Str.ofString "") hB (by rw [e0, Nat.mul_zero]; exact h)
  unfold JoinOk
  rw [this]; rfl
theorem sign_str (l : List UInt8) : (⟨((l.map fun c => (⟨#[c.toNat]⟩ : Str)).map (·.cps.toList)).flatten.toArray⟩ : Str) = strOf l := by
  unfold strOf
  congr 2
  induction l with
  | nil => rfl
  | cons c r ih => simp only [List.map_cons, List.flatten_cons, ih]; rfl
end
section
open PySem PySem.W PyProof.Rows PySem.Builtin PySem.Calls PySem.Spec
set_option maxRecDepth 100000
/-- the token at a place -/
def At (es : List TkE) (p : Int) (t : Tk) : Prop := 0 ≤ p ∧ p < es.length ∧ ∃ e, es[p.toNat]? = some e ∧ e.tk = t
def End (es : List TkE) (p : Int) : Prop := p = es.length
def Tk.isS : Tk → UInt8 → Bool
  | .sign d, c => d == c
  | _, _ => false
theorem refs_at {es : List TkE} {p : Int} {e : TkE} (h : es[p.toNat]? = some e) : (refs es)[p.toNat]? = some (.ref e.a) := by
  unfold refs
  rw [List.getElem?_map, h]; rfl
theorem ent_at {es : List TkE} {p : Int} {e : TkE} (h : es[p.toNat]? = some e) : e.entry ∈ ents es := List.mem_map.mpr ⟨e, List.mem_of_getElem? h, rfl⟩
theorem refs_len (es : List TkE) : (refs es).length = es.length := by simp [refs]
section
variable {prog : Program} {w : World} {A : Around} {E : Value → Shared → Prop} {s : Shared} {h₀ : Heap} {L P : Addr} {news : Led} {es : List TkE} {p : Int} {e : TkE} {u : Tok} {n : Nat} {value slice : Expr} {Q : Value → Shared → Prop}
theorem len_refs (N : News h₀ L s.heap news) (hm : (P, listOf (refs es).toArray n) ∈ news) (hl : es.length ≤ 100)
    (h : ∀ t k, Q (.int es.length t) { s with toks := k }) : wpAny (model prog w) A (call (.builtin "len") [.ref P]) Q E s := by
  have e2 : (refs es).toArray.size = es.length := by rw [List.size_toArray, refs_len]
  exact len_list (News.isList N hm) (by rw [e2]; omega) (by rw [e2]; exact h _ _)
theorem item_refs (N : News h₀ L s.heap news) (hm : (P, listOf (refs es).toArray n) ∈ news) (hl : es.length ≤ 100) (h0 : 0 ≤ p) (h1 : p < es.length) (he : es[p.toNat]? = some e)
    (h : Q (.ref e.a) s)
    (hs : subscripted slice false (.ref P) (.int p u) = operate [.ref P, .int p u] (getItem (.ref P) (.int p u)) := by with_unfolding_all rfl) (hg : ∀ r, letTemporaryGo value (.ref P) r = pure () := by intro _; with_unfolding_all rfl) :
    wpAny (model prog w) A (subscriptTail value slice (.ref P) (.int p u)) Q E s :=
  item_listL (News.isList N hm) h0 (by omega) (refs_at he) h hs hg
end
theorem perm1 {h₀ h : Heap} {L : Addr} {x a b c : Addr × Obj} {l : Led} (N : News h₀ L h (x :: a :: b :: c :: l)) : News h₀ L h (a :: b :: c :: x :: l) :=
  N.perm fun p hp => by simp only [List.mem_cons] at hp ⊢; rcases hp with h | h | h | h | h <;> simp [h]
theorem perm2 {h₀ h : Heap} {L : Addr} {x y a b c : Addr × Obj} {l : Led} (N : News h₀ L h (x :: y :: a :: b :: c :: l)) : News h₀ L h (a :: b :: c :: x :: y :: l) :=
  N.perm fun p hp => by simp only [List.mem_cons] at hp ⊢; rcases hp with h | h | h | h | h | h <;> simp [h]
theorem perm3 {h₀ h : Heap} {L : Addr} {x y z a b c : Addr × Obj} {l : Led} (N : News h₀ L h (x :: y :: z :: a :: b :: c :: l)) : News h₀ L h (a :: b :: c :: x :: y :: z :: l) :=
  N.perm fun p hp => by simp only [List.mem_cons] at hp ⊢; rcases hp with h | h | h | h | h | h | h <;> simp [h]
theorem apart_cons {x : Addr × Obj} {l : Led} {d : Addr} (h : x.1 ≠ d) (t : ∀ p ∈ l, p.1 ≠ d) : ∀ p ∈ x :: l, p.1 ≠ d := fun p hp => by
  rcases List.mem_cons.mp hp with rfl | hp
  · exact h
  · exact t p hp
theorem ent_mem {es : List TkE} : ∀ e ∈ es, e.entry ∈ ents es := fun e he => List.mem_map.mpr ⟨e, he, rfl⟩
theorem ent_mem0 {es : List TkE} {l : Led} : ∀ e ∈ es, e.entry ∈ ents es ++ l := fun e he => List.mem_append_left _ (ent_mem e he)
theorem ent_tail {es : List TkE} {x : Addr × Obj} {l : Led} (h : ∀ e ∈ es, e.entry ∈ l) : ∀ e ∈ es, e.entry ∈ x :: l := fun e he => .tail _ (h e he)
end
section
open PySem PySem.W PyProof.Rows PySem.Builtin PySem.Calls PySem.Spec
set_option maxRecDepth 100000
section
variable {prog : Program} {w : World} {A : Around} {E : Value → Shared → Prop} {s : Shared} {h₀ : Heap} {L W : Addr} {news : Led} {x : Value} {u : Tok} {n : Nat} {value slice : Expr} {Q : Value → Shared → Prop}
theorem len_one (N : News h₀ L s.heap news) (hm : (W, listOf #[x] n) ∈ news) (h : ∀ t k, Q (.int 1 t) { s with toks := k }) : wpAny (model prog w) A (call (.builtin "len") [.ref W]) Q E s :=
  len_list (News.isList N hm) (by show (1 : Int) < _; decide) (h _ _)
theorem item_one (N : News h₀ L s.heap news) (hm : (W, listOf #[x] n) ∈ news) (h : Q x s)
    (hs : subscripted slice false (.ref W) (.int 0 u) = operate [.ref W, .int 0 u] (getItem (.ref W) (.int 0 u)) := by with_unfolding_all rfl) (hg : ∀ r, letTemporaryGo value (.ref W) r = pure () := by intro _; with_unfolding_all rfl) :
    wpAny (model prog w) A (subscriptTail value slice (.ref W) (.int 0 u)) Q E s :=
  item_list (News.isList N hm) (by decide) (by decide) rfl h hs hg
end
theorem off2 {l i : Addr} {o : Obj} {news : Led} (h : l < i ∧ AllLt i news) : ∀ p ∈ (l, o) :: news, p.1 ≠ i := apart_cons (Nat.ne_of_lt h.1) (ne_allLt2 h)
theorem unrEnd1 {h₀ : Heap} {L I : Addr} {it : Obj} {rest : (Str → Option Value) → List (Addr × Obj) → Prop} {s₁ : Shared} {h' : Heap} {tk : Nat} {m' : Str → Option Value} {news' : List (Addr × Obj)} (F : Fr h₀ L h' m') (N : News h₀ L h' ((I, it) :: news'))
    (off : ∀ p ∈ news', p.1 ≠ I) (r : rest m' news') : UnrEnd h₀ L s₁ I it rest { s₁ with heap := h', toks := tk } := UnrEnd.intro F N news' (fun _ hp => hp) off r
theorem tup_tail {a b : Addr} {l : List Value} {i : Array Value} {n : Nat} {rest : Led} (h : (a, tupOf l) ∈ (b, listOf i n) :: rest) : (a, tupOf l) ∈ rest := by
  rcases List.mem_cons.mp h with e | h
  · have q : (Value.type "tuple") = .type "list" := congrArg (fun z : Addr × Obj => z.2.cls) e
    exact absurd (Value.type.inj q) (by decide)
  · exact h
end
section
open PySem PySem.W PyProof.Rows PySem.Builtin PySem.Calls PySem.Spec
set_option maxRecDepth 100000
/-- atoms with points between, from a place on -/
def Dots (es : List TkE) : Int → List (List UInt8) → Prop
  | _, [] => False
  | p, [A] => At es p (.atom A) ∧ ((∃ t, At es (p + 1) t ∧ t.isS 46 = false) ∨ End es (p + 1))
  | p, A :: B :: r => At es p (.atom A) ∧ At es (p + 1) (.sign 46) ∧ Dots es (p + 1 + 1) (B :: r)
theorem Dots.first {es : List TkE} {p : Int} {A : List UInt8} {r : List (List UInt8)} (h : Dots es p (A :: r)) : At es p (.atom A) := by
  cases r with
  | nil => exact h.1
  | cons _ _ => exact h.1
structure DoS where
  done : List (List UInt8)
  todo : List (List UInt8)
  l : List (Str × Tok)
  n : Nat
  a : Int
  t : Tok
def DoS.ok (es : List TkE) (p : Int) (atoms : List (List UInt8)) (c : DoS) : Prop :=
  atoms = c.done ++ c.todo ∧ c.l.map (·.1) = c.done.map strOf ∧ Dots es c.a c.todo ∧ c.a = p + 2 * c.done.length ∧ c.done.length = c.l.length
theorem strApp_len (x y : Str) : (x ++ y).length = x.length + y.length := by
  show (x.cps ++ y.cps).size = _
  rw [Array.size_append]; rfl
theorem br1 : (Str.ofString "[").length = 1 := by decide
theorem br2 : (Str.ofString "]").length = 1 := by decide
theorem joinOk_dot {ws : List Str} (hB : ∀ y ∈ ws, y.length ≤ 100) (h : ws.length ≤ 100) : JoinOk (Str.ofString ".") ws = true := by
  have e0 : (Str.ofString ".").length = 1 := by decide
  have := StrLaws.joinFits (sep := Str.ofString ".") hB (by rw [e0]; omega)
  unfold JoinOk
  rw [this]; rfl
theorem drop3 {h₀ h : Heap} {L : Addr} {a b c x : Addr × Obj} {l : Led} (N : News h₀ L h (a :: b :: c :: x :: l)) : News h₀ L h (a :: b :: c :: l) :=
  N.perm fun p hp => by simp only [List.mem_cons] at hp ⊢; rcases hp with h | h | h | h <;> simp [h]
/-- a domain's tokens from p to q, and what they tell -/
def Dom (es : List TkE) (p q : Int) (x : Str) : Prop :=
  (∃ inner, At es p (.lit inner) ∧ inner.length ≤ 100 ∧ q = p + 1 ∧ x = Str.ofString "[" ++ strOf inner ++ Str.ofString "]") ∨
  (∃ A r, Dots es p (A :: r) ∧ q = p + 2 * (r.length : Int) + 1 ∧ (∀ B ∈ A :: r, B.length ≤ 100) ∧ r.length ≤ 99 ∧ x = Txt.join (Str.ofString ".") ((A :: r).map strOf))
end
section
open PySem PySem.W PyProof.Rows PySem.Builtin PySem.Calls PySem.Spec
set_option maxRecDepth 100000
/-- the tokens of atoms with points between -/
def dotL : List (List UInt8) → List Tk
  | [] => []
  | [A] => [.atom A]
  | A :: B :: r => .atom A :: .sign 46 :: dotL (B :: r)
theorem dotL_len : ∀ (A : List UInt8) (r : List (List UInt8)), (dotL (A :: r)).length = 2 * r.length + 1
  | A, [] => rfl
  | A, B :: r => by
    have := dotL_len B r
    show (dotL (B :: r)).length + 1 + 1 = _
    rw [this, List.length_cons]; omega
theorem at_of {es : List TkE} {pre post : List Tk} {t : Tk} {p : Int} (h : es.map (·.tk) = pre ++ t :: post) (hp : p = pre.length) : At es p t := by
  have hl := congrArg List.length h
  simp only [List.length_map, List.length_append, List.length_cons] at hl
  refine ⟨by omega, by omega, ?_⟩
  have hk : pre.length < es.length := by omega
  refine ⟨es[pre.length], ?_, ?_⟩
  · rw [hp, Int.toNat_natCast, List.getElem?_eq_getElem hk]
  · have e : (es.map (·.tk))[pre.length]? = some t := by rw [h]; simp
    rw [List.getElem?_map, List.getElem?_eq_getElem hk] at e
    exact Option.some.inj e
theorem end_of {es : List TkE} {l : List Tk} {p : Int} (h : es.map (·.tk) = l) (hp : p = l.length) : End es p := by
  have hl := congrArg List.length h
  rw [List.length_map] at hl
  unfold End; omega
theorem dots_of {es : List TkE} {post : List Tk} (hpost : ∀ t ∈ post.head?, t.isS 46 = false) : ∀ (r : List (List UInt8)) (A : List UInt8) (pre : List Tk) (p : Int), es.map (·.tk) = pre ++ (dotL (A :: r) ++ post) → p = pre.length → Dots es p (A :: r)
  | [], A, pre, p, h, hp => by
    refine ⟨at_of (post := post) h hp, ?_⟩
    cases post with
    | nil => exact .inr (end_of h (by simp [dotL]; omega))
    | cons t q => exact .inl ⟨t, at_of (pre := pre ++ [.atom A]) (post := q) (by rw [h]; simp [dotL]) (by simp; omega), hpost t (by simp)⟩
  | B :: r, A, pre, p, h, hp => by
    refine ⟨at_of (post := .sign 46 :: (dotL (B :: r) ++ post)) (by rw [h]; simp [dotL]) hp, at_of (pre := pre ++ [.atom A]) (post := dotL (B :: r) ++ post) (by rw [h]; simp [dotL]) (by simp; omega), ?_⟩
    exact dots_of hpost r B (pre ++ [.atom A, .sign 46]) _ (by rw [h]; simp [dotL]) (by simp; omega)
/-- a domain's tokens, and what they tell -/
def DomL (D : List Tk) (x : Str) : Prop :=
  (∃ inner, D = [.lit inner] ∧ inner.length ≤ 100 ∧ x = Str.ofString "[" ++ strOf inner ++ Str.ofString "]") ∨
  (∃ A r, D = dotL (A :: r) ∧ (∀ B ∈ A :: r, B.length ≤ 100) ∧ r.length ≤ 99 ∧ x = Txt.join (Str.ofString ".") ((A :: r).map strOf))
theorem dom_of {es : List TkE} {D pre post : List Tk} {x : Str} {p q : Int} (hD : DomL D x) (hpost : ∀ t ∈ post.head?, t.isS 46 = false) (h : es.map (·.tk) = pre ++ (D ++ post)) (hp : p = pre.length) (hq : q = p + D.length) : Dom es p q x := by
  rcases hD with ⟨inner, rfl, h1, h2⟩ | ⟨A, r, rfl, h1, h2, h3⟩
  · exact .inl ⟨inner, at_of h hp, h1, by rw [hq]; rfl, h2⟩
  · exact .inr ⟨A, r, dots_of hpost r A pre p h hp, by rw [hq, dotL_len]; omega, h1, h2, h3⟩
theorem addr_facts {es : List TkE} {toks : List (Bool × Tk)} {D : List Tk} {A Bb C : List UInt8} {x : Str} (h : es.map (·.tk) = toks.map (·.2))
    (ht : toks.map (·.2) = .atom A :: .sign 64 :: (D ++ [.sign 44, .atom Bb, .sign 64, .atom C])) (hD : DomL D x) (hC : C.length ≤ 100) (hl : toks.length ≤ 100) :
    es.length ≤ 100 ∧ At es 0 (.atom A) ∧ At es (0 + 1) (.sign 64) ∧ Dom es (0 + 1 + 1) (2 + (D.length : Int)) x ∧ At es (2 + (D.length : Int)) (.sign 44) ∧ At es (2 + (D.length : Int) + 1) (.atom Bb) ∧ At es (2 + (D.length : Int) + 1 + 1) (.sign 64) ∧
      Dom es (2 + (D.length : Int) + 1 + 1 + 1) (2 + (D.length : Int) + 4) (strOf C) ∧ End es (2 + (D.length : Int) + 4) := by
  rw [ht] at h
  have e := congrArg List.length ht
  have e2 := congrArg List.length h
  simp only [List.length_map, List.length_append, List.length_cons, List.length_nil] at e e2
  refine ⟨by omega, at_of (pre := []) h rfl, at_of (pre := [.atom A]) h rfl, dom_of (pre := [.atom A, .sign 64]) (D := D) hD (by intro t; simp; rintro rfl; rfl) h (by rfl) (by omega), at_of (pre := .atom A :: .sign 64 :: D) (post := [.atom Bb, .sign 64, .atom C]) (by rw [h]; simp) (by simp; omega),
    at_of (pre := .atom A :: .sign 64 :: (D ++ [.sign 44])) (post := [.sign 64, .atom C]) (by rw [h]; simp) (by simp; omega), at_of (pre := .atom A :: .sign 64 :: (D ++ [.sign 44, .atom Bb])) (post := [.atom C]) (by rw [h]; simp) (by simp; omega),
    dom_of (pre := .atom A :: .sign 64 :: (D ++ [.sign 44, .atom Bb, .sign 64])) (D := [.atom C]) (post := []) (.inr ⟨C, [], rfl, by simpa using hC, by simp, rfl⟩) (by simp) (by rw [h]; simp) (by simp; omega) (by simp; omega), end_of h (by simp; omega)⟩
theorem drop_reader {h₀ h : Heap} {L : Addr} {a b c x1 x2 x3 x4 x5 : Addr × Obj} {l1 l2 : Led} (N : News h₀ L h (a :: b :: c :: x1 :: x2 :: x3 :: x4 :: x5 :: (l1 ++ l2))) : News h₀ L h (x1 :: x2 :: x3 :: x4 :: x5 :: l2) :=
  N.perm fun p hp => by simp only [List.mem_cons, List.mem_append] at hp ⊢; rcases hp with h | h | h | h | h | h <;> simp [h]
end
section
open PySem PySem.W PyProof.Rows PySem.Builtin PySem.Calls PySem.Spec
set_option maxRecDepth 100000
/-- is a run of bytes an atom -/
def isAtomL (l : List UInt8) : Bool := !l.isEmpty && l.all atomU
theorem span_facts (l : List UInt8) : l = l.takeWhile atomU ++ l.dropWhile atomU ∧ (∀ c ∈ l.takeWhile atomU, atomU c = true) ∧ (∀ c ∈ (l.dropWhile atomU).head?, atomU c = false) := by
  refine ⟨List.takeWhile_append_dropWhile.symm, ?_, ?_⟩
  · induction l with
    | nil => intro c hc; simp at hc
    | cons x r ih =>
      intro c hc
      rw [List.takeWhile_cons] at hc
      split at hc
      · rename_i hx
        rcases List.mem_cons.mp hc with rfl | hc
        · exact hx
        · exact ih c hc
      · simp at hc
  · induction l with
    | nil => intro c hc; simp at hc
    | cons x r ih =>
      intro c hc
      rw [List.dropWhile_cons] at hc
      split at hc
      · exact ih c hc
      · rename_i hx
        simp only [List.head?_cons, Option.mem_def, Option.some.injEq] at hc
        subst hc
        simpa using hx
theorem all_take (l : List UInt8) : (l.all atomU) = decide ((l.takeWhile atomU).length = l.length) := by
  induction l with
  | nil => rfl
  | cons x r ih =>
    rw [List.all_cons, List.takeWhile_cons]
    cases hx : atomU x with
    | true => simp only [Bool.true_and, if_true, ih, List.length_cons, Nat.add_right_cancel_iff]
    | false => simp
theorem isAtom_eq {data : Array UInt8} (h0 : 0 < (data.size : Int)) : (((data.toList.takeWhile atomU).length : Int) == (data.size : Int)) = isAtomL data.toList := by
  unfold isAtomL
  rw [all_take]
  have e : data.toList.isEmpty = false := by
    rw [List.isEmpty_eq_false_iff]
    intro q
    have := congrArg List.length q
    rw [Array.length_toList, List.length_nil] at this
    omega
  rw [e, Bool.not_false, Bool.true_and, Array.length_toList (xs := data), Bool.eq_iff_iff, beq_iff_eq, decide_eq_true_eq]
  omega
theorem isAtom_no {data : Array UInt8} (h0 : ¬ 0 < (data.size : Int)) : decide (0 < (data.size : Int)) = isAtomL data.toList := by
  have e : data.toList = [] := List.eq_nil_of_length_eq_zero (by rw [Array.length_toList]; omega)
  unfold isAtomL
  rw [e, decide_eq_false h0]
  rfl
end
section
open PySem PySem.W PyProof.Rows PySem.Builtin PySem.Calls PySem.Spec
set_option maxRecDepth 100000
section
variable {prog : Program} {w : World} {A : Around} {E : Value → Shared → Prop} {s : Shared} {l b : Addr} {ys : List Value} {Q : Value → Shared → Prop}
theorem eq_nil (hl : s.heap.IsList l ys.toArray) (hb : s.heap.IsList b #[]) (hu : A.units < cLine) (h : Q (.bool ys.isEmpty) s) : wpAny (model prog w) A (compareOp .Eq (.ref l) (.ref b)) Q E s := by
  cases ys with
  | nil => exact PySem.SeqAt.eq_listAt (e := fun _ => true) hl hb rfl hu (fun j h1 _ => absurd h1 (Nat.not_lt_zero j)) h
  | cons y r => exact PySem.SeqAt.eq_list_lengthsAt hl hb (by simp) hu h
end
def allAtoms (b : Array UInt8) : Bool := (bsplit b).all fun p => isAtomL p.toList
theorem dropF3 {h₀ h : Heap} {L : Addr} {a b c : Addr × Obj} {l : Led} (N : News h₀ L h (a :: b :: c :: l)) : News h₀ L h l := drop0 (drop0 (drop0 N))
theorem dropF2 {h₀ h : Heap} {L : Addr} {a b : Addr × Obj} {l : Led} (N : News h₀ L h (a :: b :: l)) : News h₀ L h l := drop0 (drop0 N)
end
section
open PySem PySem.W PyProof.Rows PySem.Builtin PySem.Calls PySem.Spec
set_option maxRecDepth 100000
section
variable {prog : Program} {w : World} {A : Around} {E : Value → Shared → Prop} {s : Shared} {k : Int} {t u : Tok} {Q : Value → Shared → Prop}
theorem in_int_b3 (h0 : 0 ≤ k) (h1 : k < 256) (h : Q (.bool (decide (k = 91 ∨ k = 93 ∨ k = 92))) s) : wpAny (model prog w) A (compareOp .In (.int k t) (.bytes #[91, 93, 92] u)) Q E s := by
  refine in_int_bytes h0 h1 ?_
  have e : (#[91, 93, 92] : Array UInt8).contains k.toNat.toUInt8 = decide (k = 91 ∨ k = 93 ∨ k = 92) := by
    rw [Bool.eq_iff_iff]
    simp only [List.contains_toArray, List.contains_cons, List.contains_nil, Bool.or_false, Bool.or_eq_true, beq_iff_eq, decide_eq_true_eq]
    obtain ⟨j, rfl⟩ := Int.eq_ofNat_of_zero_le h0
    rw [Int.toNat_natCast, ← UInt8.toNat_inj, ← UInt8.toNat_inj, ← UInt8.toNat_inj]
    have hj : j < 256 := by omega
    rw [show j.toUInt8.toNat = j by simp [Nat.toUInt8, Nat.mod_eq_of_lt hj]]
    show (j = 91 ∨ j = 93 ∨ j = 92) ↔ _
    omega
  rw [e]
  exact h
end
structure EsS where
  l : List (Array UInt8 × Tok)
  vs : List Value
  n : Nat
def EsS.ok (data : Array UInt8) (k : Nat) (c : EsS) : Prop := c.vs = bvals c.l ∧ (c.l.map fun p => p.1.toList).flatten = escL (data.toList.take k) ∧ c.vs.length ≤ 2 * k
theorem allne_app {l1 l2 : Led} {d : Addr} (h1 : ∀ p ∈ l1, p.1 ≠ d) (h2 : ∀ p ∈ l2, p.1 ≠ d) : ∀ p ∈ l1 ++ l2, p.1 ≠ d := fun p hp => (List.mem_append.mp hp).elim (h1 p) (h2 p)
theorem at_head {data : Array UInt8} {i : Nat} (h : i < data.size) : ∃ c tl, data.toList.drop i = c :: tl ∧ data.toList.take (i + 1) = data.toList.take i ++ [c] := by
  have h' : i < data.toList.length := by simpa using h
  refine ⟨data.toList[i], _, List.drop_eq_getElem_cons h', ?_⟩
  rw [List.take_add_one, List.getElem?_eq_getElem h']
  rfl
theorem escL_len (l : List UInt8) : (escL l).length ≤ 2 * l.length := by
  induction l with
  | nil => exact Nat.le_refl _
  | cons c r ih =>
    rw [escL_cons, List.length_append, List.length_cons]
    unfold esc1
    split <;> simp <;> omega
theorem es_end {data : Array UInt8} {l9 x : List (Array UInt8 × Tok)} {n' : Nat} {pre9 : List Int} {k9 : Int} {c9 : UInt8} {g h' : Heap} {L P : Addr} {news own : Led} {o0 : Obj} {m₀ m' : Str → Option Value} {tk : Nat} {s₁ : Shared}
    (F : Fr g L h' m') (N : News g L h' ((P, listOf (bvals (l9 ++ x)).toArray n') :: List.append news own)) (hr : ∀ z, z ≠ Str.ofString "at" → (∀ p ∈ ([] : List (Str × Value)), z ≠ p.1) → ([] : List Str).contains z = false → m' z = m₀ z)
    (hf9 : (l9.map fun p => p.1.toList).flatten = escL (data.toList.take pre9.length)) (ht9 : data.toList.take (pre9.length + 1) = data.toList.take pre9.length ++ [c9]) (hs9 : (bvals l9).length ≤ 2 * pre9.length)
    (hx : (x.map fun p => p.1.toList).flatten = esc1 c9) (hxl : x.length ≤ 2) :
    InvEndN g L (KstS (fun c : EsS => (P, listOf c.vs.toArray c.n) :: news) (fun _ => []) (fun _ => True) (Str.ofString "at") [] m₀ (fun pre c => c.ok data pre.length) (pre9 ++ [k9])) own (List.map (fun x => x.1) ((P, o0) :: news)) s₁ { s₁ with heap := h', toks := tk } := by
  refine kst_end (EsS.mk (l9 ++ x) (bvals (l9 ++ x)) n') F N (fun p hp => ?_) (fun p hp => .tail _ (List.mem_append.mpr (.inr hp))) rfl trivial (List.forall_mem_nil _) hr ⟨rfl, ?_, ?_⟩
  · rcases List.mem_cons.mp hp with rfl | hp
    · exact .head _
    · exact .tail _ (List.mem_append.mpr (.inl hp))
  · show (List.map (fun p => p.1.toList) (l9 ++ x)).flatten = _
    rw [List.map_append, List.flatten_append, hf9, hx, List.length_append, List.length_singleton, ht9, escL_snoc]
  · show (bvals (l9 ++ x)).length ≤ 2 * (pre9 ++ [k9]).length
    simp only [bvals, List.map_append, List.length_append, List.length_map, List.length_singleton] at hs9 ⊢
    omega
end
section
open PySem PySem.W PyProof.Rows PySem.Builtin PySem.Calls PySem.Spec
set_option maxRecDepth 100000
theorem strOf_get (l : List UInt8) (i : Nat) : (strOf l).cps[i]? = (l[i]?).map (·.toNat) := by
  unfold strOf
  rw [List.getElem?_toArray, List.getElem?_map]
theorem item_small (l : List UInt8) (k : Int) : (Txt.item (strOf l) k).cps.getD 0 0 < 256 := by
  show (Txt.charAt (strOf l) k).getD 0 < 256
  unfold Txt.charAt
  cases seqIndex? k (strOf l).length with
  | none => exact Nat.zero_lt_of_lt (Nat.lt_succ_self 255)
  | some j =>
    show ((strOf l).cps[j]?).getD 0 < 256
    rw [strOf_get]
    cases l[j]? with
    | none => exact Nat.zero_lt_of_lt (Nat.lt_succ_self 255)
    | some c => exact c.toNat_lt
def codesI (l : List UInt8) : List Int := l.map fun c => (c.toNat : Int)
theorem codesI_bytes (l : List UInt8) : byteArr (codesI l) = l.toArray := by
  unfold byteArr codesI
  rw [List.map_map]
  congr 1
  conv => rhs; rw [← List.map_id l]
  refine List.map_congr_left fun c _ => ?_
  show ((c.toNat : Int)).toNat.toUInt8 = c
  rw [Int.toNat_natCast]
  exact UInt8.ofNat_toNat
theorem codesI_in (l : List UInt8) : ∀ n ∈ codesI l, 0 ≤ n ∧ n < 256 := fun n hn => by
  obtain ⟨c, _, rfl⟩ := List.mem_map.mp hn
  have := c.toNat_lt
  omega
theorem ints_snoc {vs : List Value} {ns : List Int} (h : IntsAre vs ns) (n : Int) (t : Tok) : IntsAre (vs ++ [.int n t]) (ns ++ [n]) := h.append (.cons n t .nil)
theorem codesI_take {l : List UInt8} {i : Nat} {c : UInt8} (h : l[i]? = some c) : codesI (l.take (i + 1)) = codesI (l.take i) ++ [(c.toNat : Int)] := by
  unfold codesI
  rw [List.take_add_one, h, List.map_append]; rfl
theorem ascii_all {l : List UInt8} (ha : ∀ c ∈ l, c.toNat < 128) : (strOf l).cps.all (· < 128) = true := by
  unfold strOf
  rw [List.all_toArray, List.all_map]
  exact List.all_eq_true.mpr fun c hc => decide_eq_true (ha c hc)
end
section
open PySem PySem.W PyProof.Rows PySem.Builtin PySem.Calls PySem.Spec
set_option maxRecDepth 100000
/-- an exception class of one's own, by the written part: where it stands in its line -/
def excIn2 (K : Frag) (C : Addr) (bm : List Value) : Bool := match K.lookup C with
  | some ⟨.type "type", _, .cls cd, sl⟩ => (match sl.toList with
    | [_, _, _, _, some (.builtin n), _] => cd.mro == (.ref C :: bm) && n == "Exception.__new__" && !cd.hasDel
    | _ => false)
  | _ => false
abbrev wordBm : List Value := [.ref 46, .type "Exception", .type "BaseException", .type "object"]
def IsExc (h : Heap) (C : Addr) (bm : List Value) : Prop :=
  ∃ nm q N bs hdct sn sub ab col dd k0 k1 k2 k3 k5, h.get? C = some (excClassObj nm q C N bs bm hdct sn sub ab col dd k0 k1 k2 k3 k5 "Exception.__new__")
theorem exc_of {K : Frag} {h : Heap} {C : Addr} {bm : List Value} (X : K.In h) (e : excIn2 K C bm = true) : IsExc h C bm := by
  unfold excIn2 at e
  split at e
  · rename_i dd cd sl ho
    split at e
    · rename_i k0 k1 k2 k3 n k5 hs
      simp only [Bool.and_eq_true, beq_iff_eq, Bool.not_eq_true'] at e
      obtain ⟨⟨hm, hn⟩, hdel⟩ := e
      obtain ⟨nm, bs, mro, ns, qn, hd, sn, sub, ab, col, del⟩ := cd
      dsimp only at hm hdel
      subst hm hdel hn
      have hsl : sl = #[k0, k1, k2, k3, some (.builtin "Exception.__new__"), k5] := by
        obtain ⟨l⟩ := sl
        simp only at hs
        rw [hs]
      subst hsl
      exact ⟨_, _, _, _, _, _, _, _, _, _, _, _, _, _, _, X _ _ ho⟩
    · cases e
  · cases e
abbrev excO (C t : Addr) (d : Option Addr) : Obj := { cls := .ref C, dict := d, data := .fields #[.ref t, .none, .none, .none, .bool false, .none] }
section
variable {M : Model} {A : Around} {E : Value → Shared → Prop} {h : Heap} {g : Array GenState} {d : Drawn} {t : Nat} {os : OsState}
variable {nm q : Str} {C N : Addr} {bs : List Value} {hdct : Bool} {sn : List Str} {sub : List Value} {ab : Bool} {col : Option Bool} {dd : Option Addr} {k0 k1 k2 k3 k5 : Option Value}
theorem check_new2 {rest : List Value} {Q : Unit → Shared → Prop} (hC : h.get? C = some (excClassObj nm q C N bs wordBm hdct sn sub ab col dd k0 k1 k2 k3 k5 "Exception.__new__"))
    (hq : Q () ⟨h, g, d, t, os⟩) : wpAny M A (checkBuiltinCall "Exception.__new__" ⟨.ref C :: rest, []⟩) Q E ⟨h, g, d, t, os⟩ := by
  have F := PySem.F.excBase_Exception
  have hcont : (Value.ref C :: wordBm).contains (.type "Exception") = true := by simp
  have hstar := F.noStar
  simp only [checkBuiltinCall, F.newKind, F.newSplit, F.newRow]
  repeat (first | refine wpAny_loadPart_at hC ?_ | (refine wpAny_isSubtype_exc hC ?_; rw [hcont]) | refine wpAny_staticBase_exc hC ?_ | refine wpAny_madeBy_exc hC ?_ | simp only [bne_self_eq_false, Bool.false_eq_true, if_false] | wp_step)
  exact hq
end
section
variable {prog : Program} {w : World} {A : Around} {R : Result → Shared → Prop} {h : Heap} {g : Array GenState} {d : Drawn} {t : Nat} {os : OsState}
variable {nm q : Str} {C N : Addr} {bs : List Value} {hdct : Bool} {sn : List Str} {sub : List Value} {ab : Bool} {col : Option Bool} {dd : Option Addr} {k0 k1 k2 k3 k5 : Option Value}
theorem new_exc2 {rest : List Value} (hC : h.get? C = some (excClassObj nm q C N bs wordBm hdct sn sub ab col dd k0 k1 k2 k3 k5 "Exception.__new__"))
    (hq : R (.ok (.ret (.ref (h.objs.size + 1)))) ⟨(h.push { cls := .type "tuple", data := .seq rest.toArray }).push (excO C h.objs.size none), g, d, t, os⟩) (hrest : rest.length ≤ sizeLine) :
    codeAny (model prog w) A (.builtin "Exception.__new__" ⟨.ref C :: rest, []⟩) R ⟨h, g, d, t, os⟩ := by
  have F := PySem.F.excBase_Exception
  have hends := F.ends
  have hcB : (Value.ref C :: wordBm).contains (.type "Exception") = true := by simp
  have hcA : (Value.ref C :: wordBm).contains (.type "AttributeError") = false := by simp
  have hcN : (Value.ref C :: wordBm).contains (.type "NameError") = false := by simp
  refine codeAny_builtinAt F.entry ?_
  unfold Builtin.«BaseException.__new__»
  refine PySem.wpAt_bind ?_
  show PySem.wpAt _ _ _ (stack >>= _) _ _ _
  refine PySem.wpAt_bind (PySem.wpAt_stack fun p below => PySem.wpAt_of_wpAny ?_)
  wp_walk
  refine PySem.wpAt_of_wpAny ?_
  rw [F.owner]
  repeat (first | with_reducible refine wpAny_madeHere_exc F.canon hC ?_ | with_reducible refine wpAny_loadPart_at hC ?_ | (with_reducible refine wpAny_isSubtype_exc hC ?_; first | rw [hcB] | rw [hcA] | rw [hcN]) | wp_step)
  show R _ _
  rw [Heap.size_push]
  exact hq
theorem call_exc2 {K : Frag} {rest : List Value} {fI : Addr} (hC : h.get? C = some (excClassObj nm q C N bs wordBm hdct sn sub ab col dd k0 k1 k2 k3 k5 "Exception.__new__")) (X : K.In h) (hrest : rest.length ≤ sizeLine)
    (hm : mroIn K C (.ref C) = some true) (hi : findIn K (.ref C) "__init__" = some (some (.ref fI))) (hf : typeIn K (.ref fI) = some (.type "function"))
    (hq : codeAny (model prog w) (A.under (.builtin "type.__call__" ⟨.ref C :: rest, []⟩)) (.call (.ref fI) ⟨.ref (h.objs.size + 1) :: rest, []⟩) (InitBack (h.objs.size + 1) R)
      ⟨(h.push { cls := .type "tuple", data := .seq rest.toArray }).push (excO C h.objs.size none), g, d, t, os⟩) :
    codeAny (model prog w) A (.call (.ref C) ⟨rest, []⟩) R ⟨h, g, d, t, os⟩ := by
  have F := PySem.F.excBase_Exception
  have f1 := tc_lookup
  have f2 := tc_bind (.ref C)
  have hT : (⟨h, g, d, t, os⟩ : Shared).TypeIs (.ref C) "type" := ⟨_, hC, rfl⟩
  refine codeAny_of_tree ?_
  show wpAny _ _ (callAny (.ref C) _) _ _ _
  repeat (any_goals (first | assumption | with_reducible refine wpAny_loadPart_at hC ?_ | wp_step))
  refine ⟨rfl, ?_⟩
  refine codeAny_call_builtin_at (Code.quiet_builtin _ (by decide +kernel)) entry_typeCall (wpAny_check_type_call_sub hC ?_)
  unfold Builtin.«type.__call__»
  repeat (first | with_reducible refine wpAny_loadPart_at hC ?_ | with_reducible refine wpAny_madeBy_exc hC ?_ | wp_step)
  refine codeAny_call_builtin_code (Code.quiet_builtin _ F.quiet) (check_new2 hC ?_)
  refine new_exc2 (rest := rest) hC ?_ hrest
  show wpAny _ _ _ _ _ _
  have kk : ∀ b o, h.get? b = some o → ((h.push { cls := .type "tuple", data := .seq rest.toArray }).push (excO C h.objs.size none)).get? b = some o := fun b o e => Heap.get?_push_of_some _ (Heap.get?_push_of_some _ e)
  have hC₁ := kk _ _ hC
  have X₁ : K.In ((h.push { cls := .type "tuple", data := .seq rest.toArray }).push (excO C h.objs.size none)) := fun b o e => kk _ _ (X b o e)
  have hget : ((h.push { cls := .type "tuple", data := .seq rest.toArray }).push (excO C h.objs.size none)).get? (h.objs.size + 1) = some (excO C h.objs.size none) := by heap_get
  have t1 : Looks (model prog w) ((h.push { cls := .type "tuple", data := .seq rest.toArray }).push (excO C h.objs.size none)) (typeOf (.ref (h.objs.size + 1))) (.ref C) := (Looks.ld hget).andThen .now
  have s1 := looks_mroIn (M := model prog w) X₁ hm
  have i1 := looks_findIn (M := model prog w) X₁ hi
  have b1 := bind_fn (M := model prog w) X₁ (.ref (h.objs.size + 1)) hf
  unfold isInstance callSpecial? specialOf
  repeat (first | with_reducible refine wpAny_call ?_ | lk)
  refine codeAny_mono hq fun r s' z => ?_
  rcases r with e | (v | _ | _ | _) <;> first | exact z | exact z.elim | skip
  obtain ⟨rfl, z⟩ := z
  exact wpAny_pure (wpAny_pure z)
theorem call_word {K : Frag} {C L : Addr} {s : Shared} {h₀ : Heap} {m : Str → Option Value} {news : Led} {E : Value → Shared → Prop} {Q : Value → Shared → Prop} {rest : List Value} {fI : Addr} (F : Fr h₀ L s.heap m) (X₀ : K.In h₀) (N : News h₀ L s.heap news)
    (hx : excIn2 K C wordBm = true) (hrest : rest.length ≤ sizeLine) (hm : mroIn K C (.ref C) = some true)
    (hi : findIn K (.ref C) "__init__" = some (some (.ref fI))) (hf : typeIn K (.ref fI) = some (.type "function"))
    (h : ∀ e t h', Fr h₀ L h' m → News h₀ L h' ((e, excO C t none) :: news) → (∀ p ∈ news, p.1 < e) →
      codeAny (model prog w) (A.under (.builtin "type.__call__" ⟨.ref C :: rest, []⟩)) (.call (.ref fI) ⟨.ref e :: rest, []⟩) (InitBack e fun r s' => match r with | .ok (.ret v) => Q v s' | .ok _ => False | .error e => E e s') { s with heap := h' }) :
    wpAny (model prog w) A (call (.ref C) rest) Q E s := by
  obtain ⟨hh, g, d, t, os⟩ := s
  obtain ⟨nm, q, Na, bs, hdct, sn, sub, ab, col, dd, k0, k1, k2, k3, k5, hC⟩ := exc_of (X₀.keeps F.keep) hx
  refine wpAny_call (call_exc2 hC (X₀.keeps F.keep) hrest hm hi hf (h _ hh.objs.size _ ((F.push _).push _) ?_ fun p hp => Nat.lt_succ_of_lt (Heap.lt_size (N p hp).1)))
  have N1 := (N.push F { cls := .type "tuple", data := .seq rest.toArray }).push (F.push _) (excO C hh.objs.size none)
  rw [Heap.size_push] at N1
  exact drop1 N1
end
end
section
open PySem PySem.W PyProof.Rows PySem.Builtin PySem.Calls PySem.Spec PySem.Builtin.ObjectAttr
set_option maxRecDepth 100000
theorem refuse_word (self : Value) (C : Addr) : refuseLoop self "__setattr__" (.ref C :: wordBm) = pure () := by
  rw [refuseLoop_ref, refuseLoop_ref]
  exact PySem.F.store_Exception.passes self
def lineIs (K : Frag) (C : Addr) : Bool := (clsIn K C).any fun cd => cd.mro == .ref C :: wordBm
section
variable {prog : Program} {w : World} {A : Around} {R : Result → Shared → Prop} {s : Shared} {K : Frag} {C x : Addr} {h₀ : Heap} {L : Addr} {m : Str → Option Value}
theorem osa_word {ox : Obj} {od : Option Obj} {name : Str} {tk : Tok} {v : Value} (X : K.In s.heap) (I : InstAt s.heap x ox C od) (hp : lineIs K C = true) (ht : takerIn K C name = some none)
    (h : ∀ b, wpAny (model prog w) A.in1 (storeInOwnDict (.ref x) (.ref C) (.str name tk) name v b)
      (fun fin s' => match fin with | .done f => R (.ok f) s' | .again c' => c'.quiet = true ∧ codeAny (model prog w) A c' R s') (fun e s' => R (.error e) s') s) :
    codeAny (model prog w) A (.call (.builtin "object.__setattr__") ⟨[.ref x, .str name tk, v], []⟩) R s := by
  have SF := PySem.F.store_object
  obtain ⟨cd, hc, ho⟩ := any_some hp
  have ho := beq_iff_eq.mp ho
  have sub : Looks (model prog w) s.heap (isInstance (.ref x) (.type "object")) true := I.type.andThen (looks_mroIn X (by unfold mroIn; rw [hc, Option.bind_some, ho]; simp))
  refine codeAny_call_builtin SF.slot.plain SF.entry (@check_slot (model prog w) _ _ s "object.__setattr__" "object" "__setattr__" (.ref x) [.str name tk, v] [] _ SF.kind SF.split sub (SF.args (.ref x) (.str name tk) v) ?_)
  obtain ⟨attr, ha, hr⟩ := Option.bind_eq_some_iff.mp ht
  have hm : Looks (model prog w) s.heap (mroOf (.ref C)) cd.mro := (looks_clsIn X hc).andThen .now
  have L3 : Looks (model prog w) s.heap (storeTaker? attr) none := by
    cases attr with
    | none => exact .now
    | some a =>
      obtain ⟨b, hb, hb'⟩ := Option.map_eq_some_iff.mp hr
      refine (looks_takesIn X hb).andThen ?_
      cases b
      · exact .now
      · cases hb'
  rw [osa_eq, refuse_eq]
  refine wpAny_bind (wpAny_bind (I.type.here (wpAny_bind (hm.here ?_))))
  rw [ho, refuse_word]
  refine wpAny_pure (wpAny_bind (I.type.here (wpAny_bind ((looks_findIn X ha).here (wpAny_bind (L3.here ?_))))))
  exact h _
theorem store_in {E : Value → Shared → Prop} {Q : PySem.Fin → Shared → Prop} {od od' : Obj} {dx : Addr} {name : Str} {tk : Tok} {v : Value} {pre post : Led} {es : List DictEntry} {n : Nat} (F : Fr h₀ L s.heap m) (N : News h₀ L s.heap (pre ++ (dx, od) :: post))
    (hl : (lookIn name od).isSome = true) (h1 : ∀ p ∈ pre, p.1 ≠ dx) (h2 : ∀ p ∈ post, p.1 ≠ dx)
    (e : Obj.putName name (PyData.keyHash w.params name) (.str name s.toks) v od = od') (e' : od'.data = .dict es.toArray n) (hz : es.length ≤ 1000)
    (h : ∀ h', Fr h₀ L h' m → News h₀ L h' (pre ++ (dx, od') :: post) → Q (.done (.ret .none)) { s with heap := h', toks := s.toks + 1 }) :
    wpAny (model prog w) A (storeInDict dx (.str name tk) name v) Q E s := by
  obtain ⟨U1, U2⟩ := news_upd (f := Obj.putName name (PyData.keyHash w.params name) (.str name s.toks) v) F N h1 h2 e (by obtain ⟨_, _, dd, _⟩ := od'; cases e'; rfl)
  have D := (N (dx, od) (by simp)).1
  have D' := (U2 (dx, od') (by simp)).1
  unfold storeInDict newKeyGuard
  refine wpAny_bind (wpAny_pure (wpAny_bind ?_))
  unfold nsSet
  refine wpAny_bind (wpAny_bind (wpAny_askSetting (wpAny_pure (wpAny_bind (wpAny_mkText (wpAny_bind (wpAny_loadPart D ?_)))))))
  unfold lookIn at hl
  split at hl
  · rename_i es₀ n₀ q
    rw [q]
    dsimp only
    have c : (!es₀.any (·.key.isStr name) && es₀.any (·.refKey)) = false := by
      rw [← Array.any_toList, ← Array.any_toList]
      split at hl
      · rename_i en he
        rw [List.any_eq_true.mpr ⟨en, List.mem_of_find?_eq_some he, List.find?_some he⟩]; rfl
      · split at hl
        · cases hl
        · rename_i z; rw [Bool.not_eq_true] at z; rw [z, Bool.and_false]
    rw [aRefKeyMayBeTheName_at, c]
    refine wpAny_updatePart D ?_
    refine wpAny_bind (wpAny_lookBehind D' (by rw [e']; exact pastItsLine_dict (by rw [List.size_toArray, sizeLine_eq]; omega)) ?_)
    exact wpAny_pure (h _ U1 U2)
  · cases hl
theorem set_word1 {E : Value → Shared → Prop} {Q : Unit → Shared → Prop} {t : Addr} {name : Str} {v : Value} {news : Led} (F : Fr h₀ L s.heap m) (X₀ : K.In h₀) (N : News h₀ L s.heap ((x, excO C t none) :: news)) (hN : ∀ p ∈ news, p.1 ≠ x)
    (hs : findIn K (.ref C) "__setattr__" = some (some (.builtin "object.__setattr__"))) (hp : lineIs K C = true) (ht : takerIn K C name = some none) (hh : hasDictIn K C = true)
    (h : ∀ h' dx tk o, Fr h₀ L h' m → News h₀ L h' ((x, excO C t (some dx)) :: (dx, o) :: news) → o = dictOf [⟨PyData.keyHash w.params name, .str name (s.toks + 1), v⟩] 1 → (@Ne Nat dx x) → (∀ p ∈ news, p.1 ≠ dx) → Q () { s with heap := h', toks := tk }) :
    wpAny (model prog w) A (setAttr (.ref x) name v) Q E s := by
  have X := X₀.keeps F.keep
  have hx := (N _ (.head _)).1
  have I : InstAt s.heap x (excO C t none) C none := ⟨hx, rfl, rfl, trivial⟩
  refine set_plain X I hs (osa_word (s := { s with toks := s.toks + 1 }) X I hp ht fun b => ?_)
  obtain ⟨cd, hc, hd'⟩ := any_some hh
  obtain ⟨hp0, g, d, tk0, os⟩ := s
  dsimp only at F N X I hx
  have N1 := (N.push F emptyDict)
  have F1 := F.push emptyDict
  have hx1 := (N1 _ (.tail _ (.head _))).1
  have hxs : x ≠ hp0.objs.size := Nat.ne_of_lt (Heap.lt_size hx)
  obtain ⟨F2, N2⟩ := news_upd (pre := [(hp0.objs.size, emptyDict)]) (f := fun o => { o with dict := some hp0.objs.size }) F1 N1 (fun p hp => by rw [List.mem_singleton.mp hp]; exact hxs.symm) hN rfl rfl
  have N3 : News h₀ L ((hp0.push emptyDict).update x fun o => { o with dict := some hp0.objs.size }) ([] ++ (hp0.objs.size, emptyDict) :: ((x, excO C t (some hp0.objs.size)) :: news)) := N2
  unfold storeInOwnDict
  refine wpAny_bind (wpAny_pure ?_)
  refine wpAny_bind (wpAny_bind (wpAny_loadPart hx (wpAny_bind ((looks_clsIn X hc).here ?_))))
  rw [hd']
  refine wpAny_bind (wpAny_alloc' ?_)
  refine wpAny_bind (wpAny_update' hx1 ?_)
  refine wpAny_pure (a := some hp0.objs.size) ?_
  refine store_in (s := ⟨_, _, _, _, _⟩) (od' := dictOf [⟨PyData.keyHash w.params name, .str name (tk0 + 1), v⟩] 1) F2 N3 rfl (fun p hp => nomatch hp) ?_ rfl rfl (by simp) fun h' F' N' => ?_
  · intro p hp
    rcases List.mem_cons.mp hp with rfl | hp
    · exact hxs
    · exact Nat.ne_of_lt (Heap.lt_size (N p (.tail _ hp)).1)
  · refine h h' _ _ _ F' (N'.perm fun p hp => ?_) rfl hxs.symm fun p hp => Nat.ne_of_lt (Heap.lt_size (N p (.tail _ hp)).1)
    rcases List.mem_cons.mp hp with rfl | hp
    · exact .tail _ (.head _)
    · rcases List.mem_cons.mp hp with rfl | hp
      · exact .head _
      · exact .tail _ (.tail _ hp)
theorem set_word2 {E : Value → Shared → Prop} {Q : Unit → Shared → Prop} {t dx : Addr} {v v0 : Value} {k0 : Tok} {news : Led} (F : Fr h₀ L s.heap m) (X₀ : K.In h₀) (N : News h₀ L s.heap ((x, excO C t (some dx)) :: (dx, dictOf [⟨PyData.keyHash w.params (Str.ofString "what"), .str (Str.ofString "what") k0, v0⟩] 1) :: news))
    (hxd : @Ne Nat dx x) (hN : ∀ p ∈ news, p.1 ≠ dx)
    (hs : findIn K (.ref C) "__setattr__" = some (some (.builtin "object.__setattr__"))) (hp : lineIs K C = true) (ht : takerIn K C "at" = some none) (hh : hasDictIn K C = true)
    (h : ∀ h' tk o, Fr h₀ L h' m → News h₀ L h' ((x, excO C t (some dx)) :: (dx, o) :: news) → Q () { s with heap := h', toks := tk }) :
    wpAny (model prog w) A (setAttr (.ref x) (Str.ofString "at") v) Q E s := by
  have X := X₀.keeps F.keep
  have hx := (N _ (.head _)).1
  have hd := (N _ (.tail _ (.head _))).1
  have I : InstAt s.heap x (excO C t (some dx)) C (some (dictOf [⟨PyData.keyHash w.params (Str.ofString "what"), .str (Str.ofString "what") k0, v0⟩] 1)) := ⟨hx, rfl, rfl, hd⟩
  refine set_plain X I hs (osa_word (s := { s with toks := s.toks + 1 }) X I hp ht fun b => ?_)
  obtain ⟨cd, hc, hd'⟩ := any_some hh
  obtain ⟨hp0, g, d, tk0, os⟩ := s
  dsimp only at F N X I hx
  have N3 : News h₀ L hp0 ([(x, excO C t (some dx))] ++ (dx, dictOf [⟨PyData.keyHash w.params (Str.ofString "what"), .str (Str.ofString "what") k0, v0⟩] 1) :: news) := N
  unfold storeInOwnDict
  refine wpAny_bind (wpAny_pure ?_)
  refine wpAny_bind (wpAny_bind (wpAny_loadPart hx (wpAny_bind ((looks_clsIn X hc).here ?_))))
  rw [hd']
  refine wpAny_pure (a := some dx) ?_
  refine store_in (s := ⟨_, _, _, _, _⟩) (od' := dictOf [⟨PyData.keyHash w.params (Str.ofString "what"), .str (Str.ofString "what") k0, v0⟩, ⟨PyData.keyHash w.params (Str.ofString "at"), .str (Str.ofString "at") (tk0 + 1), v⟩] 2) F N3 rfl (fun p hp => by rw [List.mem_singleton.mp hp]; exact Ne.symm hxd) hN rfl rfl (by simp) fun h' F' N' => ?_
  exact h h' _ _ F' N'
end
end
section
open PySem PySem.W PyProof.Rows PySem.Builtin PySem.Calls PySem.Spec
set_option maxRecDepth 100000
theorem meta_Exc : typeOf (.type "Exception") = pure (.type "type") := by kernel_rfl
section
variable {prog : Program} {w : World} {A : Around} {E : Value → Shared → Prop} {h : Heap} {g : Array GenState} {d : Drawn} {t : Nat} {os : OsState}
variable {nm q : Str} {C N : Addr} {bs : List Value} {hdct : Bool} {sn : List Str} {sub : List Value} {ab : Bool} {col : Option Bool} {dd : Option Addr} {k0 k1 k2 k3 k5 : Option Value}
theorem check_init2 {M : Model} {e : Addr} {oe : Obj} {rest : List Value} {Q : Unit → Shared → Prop} (hC : h.get? C = some (excClassObj nm q C N bs wordBm hdct sn sub ab col dd k0 k1 k2 k3 k5 "Exception.__new__")) (he : h.get? e = some oe) (hcls : oe.cls = .ref C)
    (hq : Q () ⟨h, g, d, t, os⟩) : wpAny M A (checkBuiltinCall "Exception.__init__" ⟨.ref e :: rest, []⟩) Q E ⟨h, g, d, t, os⟩ := by
  have F := PySem.F.excBase_Exception
  have hcB : (Value.ref C :: wordBm).contains (.type "Exception") = true := by simp
  have hshort := F.noStar
  simp only [checkBuiltinCall, F.initKind, F.initSplit, F.initRow]
  repeat (first | (with_reducible refine wpAny_loadPart_at he ?_; rw [hcls]) | with_reducible refine wpAny_loadPart_at hC ?_ | (with_reducible refine wpAny_isSubtype_exc hC ?_; rw [hcB]) | wp_step)
  refine wpAny_onRaise ?_
  rw [show ∀ (a b : String) (n : Nat), Bind.check ⟨.positional, "*", "Exception", .self, [⟨"args", .varPos, false⟩]⟩ a b n (List.map (fun x => x.fst) ({ pos := Value.ref e :: rest } : Args).kw) = pure () from
    fun a b n => check_star_args _ _ _ _ _ _]
  exact wpAny_pure hq
theorem init_raw {e t0 : Addr} {v : Value} {Q : Value → Shared → Prop} (hC : h.get? C = some (excClassObj nm q C N bs wordBm hdct sn sub ab col dd k0 k1 k2 k3 k5 "Exception.__new__")) (he : h.get? e = some (excO C t0 none))
    (hq : ∀ h', (∀ b o, b ≠ e → h.get? b = some o → h'.get? b = some o) → h'.get? e = some (excO C h.objs.size none) → Q .none ⟨h', g, d, t, os⟩) :
    wpAny (model prog w) A (call (.builtin "Exception.__init__") [.ref e, v]) Q E ⟨h, g, d, t, os⟩ := by
  have F := PySem.F.excBase_Exception
  refine wpAny_call (codeAny_call_builtin F.init.plain F.initEntry (check_init2 hC he rfl ?_))
  wp_walk
  refine hq _ (fun b o hb ho => ?_) ?_
  · rw [Heap.get?_update_other _ _ (Ne.symm hb)]
    exact Heap.get?_push_of_some _ ho
  · rw [Heap.get?_update_self _ (Heap.get?_push_of_some _ he) rfl]
    rfl
theorem init_word {K : Frag} {s : Shared} {h₀ : Heap} {L e t0 : Addr} {m : Str → Option Value} {v : Value} {news : Led} {Q : Value → Shared → Prop} (F : Fr h₀ L s.heap m) (X₀ : K.In h₀) (N : News h₀ L s.heap ((e, excO C t0 none) :: news)) (hN : ∀ p ∈ news, p.1 ≠ e) (hx : excIn2 K C wordBm = true)
    (h : ∀ h' t', Fr h₀ L h' m → News h₀ L h' ((e, excO C t' none) :: news) → Q .none { s with heap := h' }) : wpAny (model prog w) A (call (.builtin "Exception.__init__") [.ref e, v]) Q E s := by
  obtain ⟨hh, g, d, t, os⟩ := s
  obtain ⟨nm, q, Na, bs, hdct, sn, sub, ab, col, dd, k0, k1, k2, k3, k5, hC⟩ := exc_of (X₀.keeps F.keep) hx
  have D := N _ (.head _)
  refine init_raw hC D.1 fun h' hk he => ?_
  obtain ⟨oL, es, ep, hL, r⟩ := F.ns
  refine h h' hh.objs.size ⟨⟨oL, es, ep, hk _ _ (Ne.symm D.2.1) hL, r⟩, fun b o ho => hk b o (fun z => ?_) (F.keep b o ho), F.above⟩ (fun p hp => ?_)
  · have := D.2.2; rw [← z, ho] at this; cases this
  · rcases List.mem_cons.mp hp with rfl | hp
    · exact ⟨he, D.2⟩
    · exact ⟨hk _ _ (hN p hp) (N p (.tail _ hp)).1, (N p (.tail _ hp)).2⟩
end
section
variable {prog : Program} {w : World} {A : Around} {E : Value → Shared → Prop} {env : Env}
theorem raise_made2 {M : Model} {C : Addr} {s : Shared} {x : Sem Value} {Q : Flow → Shared → Prop} (hh : A.handled = none)
    (h : wpAny M A x (fun v s₁ => ∃ e t od, v = .ref e ∧ IsExc s₁.heap C wordBm ∧ s₁.heap.get? e = some (excO C t od) ∧ E (.ref e) s₁) E s) : wpAny M A (raiseStmt env (some x) none) Q E s := by
  have hcB : (Value.ref C :: wordBm).contains (.type "BaseException") = true := by simp
  unfold raiseStmt
  refine wpAny_bind (wpAny_mono h (fun v s₁ h₁ => ?_) fun _ _ x => x)
  obtain ⟨e, t, od, rfl, ⟨nm, q, Na, bs, hdct, sn, sub, ab, col, dd, k0, k1, k2, k3, k5, hC⟩, he, hE⟩ := h₁
  obtain ⟨hp, g, d, tk, os⟩ := s₁
  repeat (first | with_reducible refine wpAny_loadPart_at he ?_ | with_reducible refine wpAny_loadPart_at hC ?_ | (with_reducible refine wpAny_isSubtype_exc hC ?_; rw [hcB]) | wp_step)
  exact wpAny_raiseNew_none hh hE
theorem Raise_word {C : Addr} {s : Shared} {x : Str} {np cpos pos : Pos} {args : List Expr} {Q : Flow → Shared → Prop} (hh : A.handled = none)
    (h : wpAny (model prog w) A (eval (.Call (.Name x np) args [] cpos) env) (fun v s₁ => ∃ e t od, v = .ref e ∧ IsExc s₁.heap C wordBm ∧ s₁.heap.get? e = some (excO C t od) ∧ E (.ref e) s₁) E s) :
    wpAny (model prog w) A (exec (.Raise (some (.Call (.Name x np) args [] cpos)) none pos) env) Q E s := by
  rw [arm_exec_Raise]
  first
    | exact wpAny_bind (wpAny_standAt (raise_made2 (C := C) hh (wpAny_bind (wpAny_mono h (fun v s₃ h₃ => wpAny_bind (wpAny_standAt (wpAny_pure h₃))) fun _ _ x => x))))
    | (simp only [evalOpt, Option.map]; exact wpAny_bind (wpAny_standAt (raise_made2 (C := C) hh (wpAny_bind (wpAny_mono h (fun v s₃ h₃ => wpAny_bind (wpAny_standAt (wpAny_pure h₃))) fun _ _ x => x)))))
    | (refine wpAny_bind (wpAny_standAt (raise_made2 (C := C) hh ?_)); exact wpAny_bind (wpAny_mono h (fun v s₃ h₃ => wpAny_bind (wpAny_standAt (wpAny_pure h₃))) fun _ _ x => x))
end
end
section
open PySem PySem.W PyProof.Rows PySem.Builtin PySem.Calls PySem.Spec
set_option maxRecDepth 100000
/-- an exception of one's own on its way -/
def RaisedX (base : Heap) (l : List Env) (e : Addr) (cls : Value) (news : Led) (h : Heap) : Prop :=
  ∃ B a0, base.StaysIn B ∧ (∀ q ∈ news, B.get? q.1 = some q.2 ∧ base.get? q.1 = none) ∧ Heap.FlyingW B l e cls a0 h
section
variable {M : Model} {A : Around} {E : Value → Shared → Prop} {s' : Shared} {base g : Heap} {outer : List Env} {L a e t C : Addr} {od : Option Addr} {m : Str → Option Value} {name : Str} {scope : Scope} {cd : Value} {Q : Unit → Shared → Prop} {news : Led}
theorem leave_word (K : Below A base outer g) (F : Fr g L s'.heap m) (N : News g L s'.heap ((e, excO C t od) :: news)) (hN : ∀ p ∈ news, p.1 ≠ e)
    (hQ : ∀ h', RaisedX base outer e (.ref C) news h' → g.UpToSlots h' → Q () { s' with heap := h' }) (hk : scope.kind = .function) :
    wpAny M (A.deeper (envOf name scope L a cd)) (leaving (envOf name scope L a cd) (.ref e)) Q E s' := by
  have K' := K.push (name := name) (a := a) (cd := cd) F hk
  have he := N _ (.head _)
  have hbe : base.get? e = none := fresh_of_stays K.stays he.2.2
  have hin : ∀ env ∈ (envOf name scope L a cd :: outer), ∀ b, env.frame = some b → b ∈ e :: (envOf name scope L a cd :: outer).filterMap (·.frame) := fun env he b hb => .tail _ (List.mem_filterMap.mpr ⟨env, he, hb⟩)
  have st : base.StaysIn (hideAll s'.heap (e :: (envOf name scope L a cd :: outer).filterMap (·.frame))) := fun b o q => hideAll_get _ (K'.stays b o q) fun hm => by
    rcases List.mem_cons.mp hm with rfl | hm
    · rw [hbe] at q; cases q
    · rw [(K'.frames.mem hm).1] at q; cases q
  have hl : ∀ q ∈ news, (hideAll s'.heap (e :: (envOf name scope L a cd :: outer).filterMap (·.frame))).get? q.1 = some q.2 ∧ base.get? q.1 = none := fun q hq => by
    have hq' := N q (.tail _ hq)
    refine ⟨hideAll_get _ hq'.1 fun hm => ?_, fresh_of_stays K.stays hq'.2.2⟩
    rcases List.mem_cons.mp hm with hm | hm
    · exact hN q hq hm
    · obtain ⟨env, he, hf⟩ := List.mem_filterMap.mp hm
      rcases List.mem_cons.mp he with rfl | he
      · exact hq'.2.1 (Option.some.inj hf).symm
      · obtain ⟨o, ho, _⟩ := (K.frames.mem (List.mem_filterMap.mpr ⟨env, he, hf⟩)).2
        rw [hq'.2.2] at ho; cases ho
  have hen : (hideAll s'.heap (e :: (envOf name scope L a cd :: outer).filterMap (·.frame))).get? e = none := hideAll_none _ (.head _)
  refine wpAny_leaving_firstW (a0 := .ref t) K'.stack (funFrames_hide K'.frames hin) rfl he.1 (fun b o q => of_hideAll _ q) hen rfl rfl rfl fun h' hL => ?_
  obtain ⟨k1, ⟨_, _, k2⟩, k3, k4⟩ := hL
  exact hQ h' ⟨_, _, st, hl, ⟨k1, hen, k2, k3⟩⟩ ((Heap.UpToSlots.of_keeps F.keep).trans k4)
end
end
section
open PySem PySem.W PyProof.Rows PySem.Builtin PySem.Calls PySem.Spec
set_option maxRecDepth 100000
section
variable {prog : Program} {w : World} {A : Around} {E : Value → Shared → Prop} {s : Shared} {value slice : PySem.Expr} {l : List UInt8} {t : Tok} {h₀ : Heap} {L : Addr} {m : PySem.Str → Option Value} {news : Led} {Q : Value → Shared → Prop} {tl tu : Tok}
theorem slice_first (hF : Fr h₀ L s.heap m) (hN : News h₀ L s.heap news) (hz : l.length ≤ 100)
    (h : ∀ h' t' k, Fr h₀ L h' m → News h₀ L h' news → Q (.bytes (l.take 1).toArray t') { s with heap := h', toks := k })
    (hs : subscripted slice false (.bytes l.toArray t) (.ref s.heap.objs.size) = operate [.ref s.heap.objs.size, .bytes l.toArray t] (getItem (.bytes l.toArray t) (.ref s.heap.objs.size)) := by with_unfolding_all rfl)
    (ht : ∀ r, letTemporaryGo value (.bytes l.toArray t) r = pure () := by intro _; with_unfolding_all rfl) :
    wpAny (model prog w) A (subscriptTail value slice (.bytes l.toArray t) (.ref s.heap.objs.size)) Q E { s with heap := s.heap.push { cls := .type "slice", data := .fields #[.none, .int 1 tu, .none] } } :=
  KBc.slice_K (lo := none) (hi := some 1) hF hN rfl .none (.int _ _) (by rw [KBw.ints_length, List.size_toArray]; omega) (fun h' t' k F' N' _ => by
    have e : KBy.picked l.toArray none (some 1) = (l.take 1).toArray := by
      rw [KBc.picked_eq]
      simp only [Option.elim, show (1 : Int) = ((1 : Nat) : Int) from rfl, clipAt_nat, List.drop_zero, Nat.sub_zero, List.size_toArray]
      congr 1
      cases l with
      | nil => rfl
      | cons c r => simp
    rw [e]; exact h h' t' k F' N') hs ht
theorem slice_last (hF : Fr h₀ L s.heap m) (hN : News h₀ L s.heap news) (hz : l.length ≤ 100)
    (h : ∀ h' t' k, Fr h₀ L h' m → News h₀ L h' news → Q (.bytes (l.drop (l.length - 1)).toArray t') { s with heap := h', toks := k })
    (hs : subscripted slice false (.bytes l.toArray t) (.ref s.heap.objs.size) = operate [.ref s.heap.objs.size, .bytes l.toArray t] (getItem (.bytes l.toArray t) (.ref s.heap.objs.size)) := by with_unfolding_all rfl)
    (ht : ∀ r, letTemporaryGo value (.bytes l.toArray t) r = pure () := by intro _; with_unfolding_all rfl) :
    wpAny (model prog w) A (subscriptTail value slice (.bytes l.toArray t) (.ref s.heap.objs.size)) Q E { s with heap := s.heap.push { cls := .type "slice", data := .fields #[.int (-1) tl, .none, .none] } } :=
  KBc.slice_K (lo := some (-1)) (hi := none) hF hN rfl (.int _ _) .none (by rw [KBw.ints_length, List.size_toArray]; omega) (fun h' t' k F' N' _ => by
    have e : KBy.picked l.toArray (some (-1)) none = (l.drop (l.length - 1)).toArray := by
      rw [KBc.picked_eq]
      simp only [Option.elim, List.size_toArray]
      have c : clipAt l.length (-1) = l.length - 1 := by unfold clipAt; simp; omega
      rw [c]
      congr 1
      exact List.take_of_length_le (by simp)
    rw [e]; exact h h' t' k F' N') hs ht
theorem slice_mid (hF : Fr h₀ L s.heap m) (hN : News h₀ L s.heap news) (hz : l.length ≤ 100)
    (h : ∀ h' t' k, Fr h₀ L h' m → News h₀ L h' news → Q (.bytes ((l.drop 1).take (l.length - 2)).toArray t') { s with heap := h', toks := k })
    (hs : subscripted slice false (.bytes l.toArray t) (.ref s.heap.objs.size) = operate [.ref s.heap.objs.size, .bytes l.toArray t] (getItem (.bytes l.toArray t) (.ref s.heap.objs.size)) := by with_unfolding_all rfl)
    (ht : ∀ r, letTemporaryGo value (.bytes l.toArray t) r = pure () := by intro _; with_unfolding_all rfl) :
    wpAny (model prog w) A (subscriptTail value slice (.bytes l.toArray t) (.ref s.heap.objs.size)) Q E { s with heap := s.heap.push { cls := .type "slice", data := .fields #[.int 1 tl, .int (-1) tu, .none] } } :=
  KBc.slice_K (lo := some 1) (hi := some (-1)) hF hN rfl (.int _ _) (.int _ _) (by rw [KBw.ints_length, List.size_toArray]; omega) (fun h' t' k F' N' _ => by
    have e : KBy.picked l.toArray (some 1) (some (-1)) = ((l.drop 1).take (l.length - 2)).toArray := by
      rw [KBc.picked_eq]
      simp only [Option.elim, List.size_toArray]
      have c : clipAt l.length (-1) = l.length - 1 := by unfold clipAt; simp; omega
      rw [c, show (1 : Int) = ((1 : Nat) : Int) from rfl, clipAt_nat]
      congr 1
      cases l with
      | nil => rfl
      | cons x r => simp only [List.length_cons, Nat.min_eq_left (Nat.succ_le_succ (Nat.zero_le r.length))]; rfl
    rw [e]; exact h h' t' k F' N') hs ht
theorem eq_lits {a b : List UInt8} {u v : Tok} {r : Bool} (hb : (a == b) = r) (h : Q (.bool r) s) : wpAny (model prog w) A (compareOp .Eq (.bytes a.toArray u) (.bytes b.toArray v)) Q E s := by
  refine eq_bytes ?_
  rw [show (a.toArray.toList == b.toArray.toList) = (a == b) from rfl, hb]
  exact h
end
theorem bytes_eq {x y : Array UInt8} {t : Tok} (e : x = y) : Value.bytes x t = Value.bytes y t := by rw [e]
def isLit (l : List UInt8) : Bool := (l.take 1 == [91]) && (l.drop (l.length - 1) == [93]) && decide (1 < l.length)
def midL (l : List UInt8) : List UInt8 := (l.drop 1).take (l.length - 2)
/-- what domain_octets tells of a text, if it tells -/
def domO (l : List UInt8) : Option (List UInt8) := if isLit l = true then some (91 :: (escL (midL l) ++ [93])) else if allAtoms l.toArray = true then some l else none
def CtX (k : Nat) (w : World) (f : Addr) (news : Led) (vs : List Value) (Ret : Value → Led → Prop) (Bad : Prop) : Prop :=
  ∀ (mean : ExcName → Option Value) (mg mb : Str → Option Value) (dp un : Nat) (gd : Option (List Code)) (cn : Str) (cs : Scope) (a : Addr) (ccd : Value) (cl : List (Str × Addr)) (outer : List Env) (A₀ : Around) (base h₀ : Heap) (L : Addr)
    (m : Str → Option Value) (s : Shared) (Q E : Value → Shared → Prop),
    Below A₀ base outer h₀ → Fr h₀ L s.heap m → (hd.heap_39 w.params).In h₀ → News h₀ L s.heap news → Top hd.view_39 (looseW hd.view_39 [Str.ofString "PostError"]) mean mg mb h₀ → cs.kind = .function →
    dp + k < recursionLimit → un + 8 * k < cLine →
    (∀ r news' h' tk', Fr h₀ L h' m → News h₀ L h' news' → Ret r news' → Q r { s with heap := h', toks := tk' }) →
    (Bad → ∀ g e h' tk', Fr h₀ L g m → RaisedX base (envX cn cs L a ccd cl :: outer) e (.ref 59) news h' → g.UpToSlots h' → E (.ref e) { s with heap := h', toks := tk' }) →
    wpAny (model PySem.Challenge.rw_nz0310_01.row.prog w) (ktrTop dp un gd cn cs L a ccd cl outer) (call (.ref f) vs) Q E s
end
section
open PySem PySem.W PyProof.Rows PySem.Builtin PySem.Calls PySem.Spec
set_option maxRecDepth 100000
section
variable {prog : Program} {w : World} {A : Around} {E : Value → Shared → Prop} {s : Shared} {h₀ : Heap} {L P : Addr} {news : Led} {vs : List Value} {ns : List Int} {i : Int} {u : Tok} {n : Nat} {value slice : Expr} {Q : Value → Shared → Prop}
theorem len_vals (N : News h₀ L s.heap news) (hm : (P, listOf vs.toArray n) ∈ news) (hl : vs.length ≤ 100)
    (h : ∀ t k, Q (.int vs.length t) { s with toks := k }) : wpAny (model prog w) A (call (.builtin "len") [.ref P]) Q E s := by
  have e2 : vs.toArray.size = vs.length := List.size_toArray
  exact len_list (News.isList N hm) (by rw [e2]; omega) (by rw [e2]; exact h _ _)
theorem item_vals (N : News h₀ L s.heap news) (hm : (P, listOf vs.toArray n) ∈ news) (hv : IntsAre vs ns) (hl : vs.length ≤ 100) (h0 : 0 ≤ i) (h1 : i < vs.length)
    (h : ∀ x t, Q (.int x t) s)
    (hs : subscripted slice false (.ref P) (.int i u) = operate [.ref P, .int i u] (getItem (.ref P) (.int i u)) := by with_unfolding_all rfl) (hg : ∀ r, letTemporaryGo value (.ref P) r = pure () := by intro _; with_unfolding_all rfl) :
    wpAny (model prog w) A (subscriptTail value slice (.ref P) (.int i u)) Q E s := by
  have key : ∀ {vs : List Value} {ns : List Int}, IntsAre vs ns → ∀ k, k < vs.length → ∃ x t, vs[k]? = some (.int x t) := by
    intro vs ns hv
    induction hv with
    | nil => intro k hk; simp at hk
    | cons x t r ih =>
      intro k hk
      cases k with
      | zero => exact ⟨x, t, rfl⟩
      | succ k => exact ih k (by simpa using hk)
  obtain ⟨x, t, e⟩ := key hv i.toNat (by omega)
  exact item_listL (News.isList N hm) h0 (by omega) e (h x t) hs hg
end
theorem fmod_in {a b : Int} (hb : 2 ≤ b) : 0 ≤ a.fmod b ∧ a.fmod b < b := ⟨Int.fmod_nonneg_of_pos a (by omega), Int.fmod_lt_of_pos a (by omega)⟩
theorem fdiv_in {a b : Int} (ha : 0 ≤ a) (hb : 2 ≤ b) : 0 ≤ a.fdiv b := Int.fdiv_nonneg ha (by omega)
end
section
open PySem PySem.W PyProof.Rows PySem.Builtin PySem.Calls PySem.Spec
set_option maxRecDepth 100000
def CtH (P : Heap → Prop) (k : Nat) (w : World) (f : Addr) (news : Led) (vs : List Value) (Ret : Value → Led → Prop) : Prop :=
  ∀ (mean : ExcName → Option Value) (mg mb : Str → Option Value) (dp un : Nat) (gd : Option (List Code)) (cn : Str) (cs : Scope) (a : Addr) (ccd : Value) (cl : List (Str × Addr)) (outer : List Env) (A₀ : Around) (base h₀ : Heap) (L : Addr)
    (m : Str → Option Value) (s : Shared) (Q E : Value → Shared → Prop),
    Below A₀ base outer h₀ → Fr h₀ L s.heap m → (hd.heap_39 w.params).In h₀ → News h₀ L s.heap news → Top hd.view_39 (looseW hd.view_39 [Str.ofString "PostError"]) mean mg mb h₀ → cs.kind = .function →
    dp + k < recursionLimit → un + 8 * k < cLine → P h₀ →
    (∀ r news' h' tk', Fr h₀ L h' m → News h₀ L h' news' → Ret r news' → Q r { s with heap := h', toks := tk' }) →
    wpAny (model PySem.Challenge.rw_nz0310_01.row.prog w) (ktrTop dp un gd cn cs L a ccd cl outer) (call (.ref f) vs) Q E s
section
variable {prog : Program} {w : World} {A : Around} {E : Value → Shared → Prop} {s : Shared} {h₀ : Heap} {L P : Addr} {m : Str → Option Value} {news : Led} {vs : List Value} {ns : List Int} {n : Nat} {x : Value} {u : Tok} {value slice : Expr}
theorem item_head {Q : Value → Shared → Prop} (N : News h₀ L s.heap news) (hm : (P, listOf (x :: vs).toArray n) ∈ news) (h : Q x s)
    (hs : subscripted slice false (.ref P) (.int 0 u) = operate [.ref P, .int 0 u] (getItem (.ref P) (.int 0 u)) := by with_unfolding_all rfl) (hg : ∀ r, letTemporaryGo value (.ref P) r = pure () := by intro _; with_unfolding_all rfl) :
    wpAny (model prog w) A (subscriptTail value slice (.ref P) (.int 0 u)) Q E s :=
  item_listL (News.isList N hm) (by decide) (by decide) rfl h hs hg
theorem truthy_cons {Q : Bool → Shared → Prop} (N : News h₀ L s.heap news) (hm : (P, listOf (x :: vs).toArray n) ∈ news) (hl : vs.length ≤ 100) (h : ∀ k, Q true { s with toks := k }) : wpAny (model prog w) A (truthy (.ref P)) Q E s := by
  have e2 : (x :: vs).toArray.size = vs.length + 1 := List.size_toArray
  refine wpAny_truthy_list (News.isList N hm) (by rw [e2]; omega) ?_
  exact h _
end
theorem ints_at {vs : List Value} {ns : List Int} (h : IntsAre vs ns) : ∀ (k : Nat) (v : Value), vs.toArray[k]? = some v → ∃ x t, v = .int x t ∧ ns.take (k + 1) = ns.take k ++ [x] := by
  induction h with
  | nil => intro k v hk; simp at hk
  | cons x t r ih =>
    intro k v hk
    cases k with
    | zero => simp at hk; exact ⟨x, t, hk.symm, rfl⟩
    | succ k =>
      obtain ⟨y, u, e1, e2⟩ := ih k v (by simpa using hk)
      exact ⟨y, u, e1, by rw [List.take_succ_cons, e2]; rfl⟩
structure BxS where
  st : Int
  t : Tok
theorem off3 {l d i : Addr} {o : Obj} {news : Led} (h : l < i ∧ d < i ∧ AllLt i news) : ∀ p ∈ (l, o) :: news, p.1 ≠ i := apart_cons (Nat.ne_of_lt h.1) (ne_allLt h.2.2)
end
section
open PySem PySem.W PyProof.Rows PySem.Builtin PySem.Calls PySem.Spec
set_option maxRecDepth 100000
abbrev atomTxt : Str := Str.ofString "abcdefghijklmnopqrstuvwxyzABCDEFGHIJKLMNOPQRSTUVWXYZ0123456789!#$%&'*+-/=?^_`{|}~"
theorem mem_atom (c : UInt8) : (!decide (c.toNat < 128) || (decide (c.toNat ∈ atomTxt.cps.toList) == atomU c)) = true := by
  refine u8_all (P := fun c => (!decide (c.toNat < 128) || (decide (c.toNat ∈ atomTxt.cps.toList) == atomU c)) = true) ?_ c
  decide +kernel
theorem occ_eq {c : UInt8} (h : c.toNat < 128) : (Builtin.Str.occurrences (Str.ofString "abcdefghijklmnopqrstuvwxyzABCDEFGHIJKLMNOPQRSTUVWXYZ0123456789!#$%&'*+-/=?^_`{|}~") ⟨#[c.toNat]⟩ 0 (Str.ofString "abcdefghijklmnopqrstuvwxyzABCDEFGHIJKLMNOPQRSTUVWXYZ0123456789!#$%&'*+-/=?^_`{|}~").length 1).isEmpty = !atomU c := by
  rw [empty_one]
  have q := mem_atom c
  rw [decide_eq_true h] at q
  simp only [Bool.not_true, Bool.false_or, beq_iff_eq] at q
  rw [← q]
theorem strOf_ne (o : List UInt8) : (strOf o != Str.ofString "") = !o.isEmpty := by
  have e0 : Str.ofString "" = strOf [] := by decide
  rw [e0]
  cases o with
  | nil => decide
  | cons c r =>
    rw [bne_iff_ne.mpr]
    · rfl
    · intro q
      have := congrArg Str.length q
      rw [strOf_length, strOf_length] at this
      simp at this
theorem take_all {o : List UInt8} {i : Nat} {c : UInt8} (h : o[i]? = some c) : (o.take (i + 1)).all atomU = ((o.take i).all atomU && atomU c) := by
  rw [List.take_add_one, h, List.all_append]; simp
end
section
open PySem PySem.W PyProof.Rows PySem.Builtin PySem.Calls PySem.Spec
set_option maxRecDepth 100000
/-- the words between points -/
def cutP : List UInt8 → List (List UInt8)
  | [] => [[]]
  | c :: r => if c = 46 then [] :: cutP r else match cutP r with
    | [] => [[c]]
    | w :: ws => (c :: w) :: ws
def gluF (seg : List UInt8) : List (List UInt8) → List (List UInt8)
  | [] => [seg]
  | w :: ws => (seg ++ w) :: ws
theorem cutP_ne : ∀ l, ∃ w ws, cutP l = w :: ws
  | [] => ⟨_, _, rfl⟩
  | c :: r => by
    unfold cutP
    split
    · exact ⟨_, _, rfl⟩
    · obtain ⟨w, ws, e⟩ := cutP_ne r
      rw [e]; exact ⟨_, _, rfl⟩
theorem gluF_nil (l : List UInt8) : gluF [] (cutP l) = cutP l := by
  obtain ⟨w, ws, e⟩ := cutP_ne l
  rw [e]; rfl
theorem gluF_cons {seg : List UInt8} {c : UInt8} {r : List UInt8} (hc : c ≠ 46) : gluF seg (cutP (c :: r)) = gluF (seg ++ [c]) (cutP r) := by
  obtain ⟨w, ws, e⟩ := cutP_ne r
  rw [cutP, if_neg hc, e]
  simp [gluF]
theorem gluF_dot (seg r : List UInt8) : gluF seg (cutP (46 :: r)) = seg :: cutP r := by
  rw [cutP, if_pos rfl]
  simp [gluF]
def posOf : List UInt8 → Nat → List Nat
  | [], _ => []
  | c :: r, k => if c = 46 then k :: posOf r (k + 1) else posOf r (k + 1)
theorem drop_cons {b : List UInt8} {k : Nat} {c : UInt8} {r : List UInt8} (h : b.drop k = c :: r) : k < b.length ∧ b.drop (k + 1) = r ∧ b[k]? = some c := by
  have hk : k < b.length := by
    rcases Nat.lt_or_ge k b.length with q | q
    · exact q
    · rw [List.drop_of_length_le q] at h; cases h
  refine ⟨hk, ?_, ?_⟩
  · rw [← List.drop_drop, h]; rfl
  · rw [List.drop_eq_getElem_cons hk] at h
    rw [List.getElem?_eq_getElem hk, (List.cons.inj h).1]
theorem ext_list (b : Array UInt8) (i j : Nat) : (b.extract i j).toList = (b.toList.drop i).take (j - i) := by
  rw [Array.toList_extract, List.extract_eq_take_drop]
theorem ext_one {b : Array UInt8} {k : Nat} {c : UInt8} {r : List UInt8} (h : b.toList.drop k = c :: r) : (b.extract k (k + 1) == #[46]) = decide (c = 46) := by
  have e : b.extract k (k + 1) = #[c] := by
    apply Array.ext'
    rw [ext_list, h, show k + 1 - k = 1 by omega]; rfl
  rw [e, Bool.eq_iff_iff, beq_iff_eq, decide_eq_true_eq]
  constructor
  · intro q
    have := congrArg Array.toList q
    exact (List.cons.inj this).1
  · rintro rfl; rfl
theorem fold_pos (b : Array UInt8) : ∀ (l : List UInt8) (k : Nat) (a : List Nat) (f : Nat), b.toList.drop k = l → f ≤ k →
    ((List.range' k l.length).foldl (fun (acc : List Nat × Nat) i => if (decide (i ≥ acc.2) && b.extract i (i + 1) == #[46]) = true then (i :: acc.1, i + 1) else acc) (a, f)).1 = (posOf l k).reverse ++ a
  | [], k, a, f, _, _ => rfl
  | c :: r, k, a, f, h, hf => by
    obtain ⟨h1, h2, h3⟩ := drop_cons h
    rw [List.length_cons, List.range'_succ, List.foldl_cons]
    dsimp only
    rw [ext_one h, decide_eq_true (show k ≥ f from hf), Bool.true_and]
    unfold posOf
    by_cases hc : c = 46
    · rw [if_pos (decide_eq_true hc), if_pos hc, fold_pos b r (k + 1) _ _ h2 (Nat.le_refl _)]
      simp
    · rw [if_neg (by simpa using hc), if_neg hc, fold_pos b r (k + 1) _ _ h2 (by omega)]
theorem places_eq (b : Array UInt8) : places b = posOf b.toList 0 := by
  have hlen : ∀ (l : List UInt8) (k : Nat), (posOf l k).length ≤ l.length := by
    intro l
    induction l with
    | nil => intro k; exact Nat.le_refl 0
    | cons c r ih =>
      intro k
      unfold posOf
      split
      · exact Nat.succ_le_succ (ih _)
      · exact Nat.le_succ_of_le (ih _)
  have e : Bytes.occurrences b #[46] 0 b.size = posOf b.toList 0 := by
    have := fold_pos b b.toList 0 [] 0 rfl (Nat.le_refl 0)
    rw [List.append_nil] at this
    unfold Bytes.occurrences
    show (((List.range (b.size + 1 - (0 + 1))).map (· + 0)).foldl _ ([], 0)).1.reverse = _
    rw [show b.size + 1 - (0 + 1) = b.toList.length by simp, List.range_eq_range']
    rw [show (fun x : Nat => x + 0) = (fun x => x) from rfl, List.map_id']
    rw [← List.reverse_reverse (posOf b.toList 0), ← this]
    rfl
  unfold places
  rw [e]
  have := hlen b.toList 0
  rw [Array.length_toList (xs := b)] at this
  exact List.take_of_length_le (by omega)
theorem fold_bet (b : Array UInt8) : ∀ (l : List UInt8) (k last : Nat) (P : Array (Array UInt8)), b.toList.drop k = l → k ≤ b.size → last ≤ k →
    (let q := (posOf l k).foldl (fun (x : Array (Array UInt8) × Nat) p => (x.1.push (b.extract x.2 p), p + 1)) (P, last); (q.1.push (b.extract q.2 b.size)).toList) = P.toList ++ (gluF ((b.toList.drop last).take (k - last)) (cutP l)).map List.toArray
  | [], k, last, P, h, hk, hl => by
    have hk2 : b.size ≤ k := by
      have := congrArg List.length h
      rw [List.length_drop, Array.length_toList, List.length_nil] at this
      omega
    have hkk : k = b.size := by omega
    subst hkk
    show (P.push (b.extract last b.size)).toList = _
    rw [Array.toList_push]
    congr 1
    show [b.extract last b.size] = [((b.toList.drop last).take (b.size - last) ++ []).toArray]
    rw [List.append_nil]
    congr 1
    apply Array.ext'
    rw [ext_list]
  | c :: r, k, last, P, h, hk, hl => by
    obtain ⟨h1, h2, h3⟩ := drop_cons h
    rw [Array.length_toList] at h1
    unfold posOf
    by_cases hc : c = 46
    · subst hc
      rw [if_pos rfl, List.foldl_cons]
      have := fold_bet b r (k + 1) (k + 1) (P.push (b.extract last k)) h2 (by omega) (Nat.le_refl _)
      dsimp only at this ⊢
      rw [this, gluF_dot, Nat.sub_self, List.take_zero, gluF_nil, Array.toList_push, List.append_assoc]
      congr 1
      rw [List.map_cons, List.singleton_append]
      congr 1
      apply Array.ext'
      rw [ext_list]
    · rw [if_neg hc]
      have := fold_bet b r (k + 1) last P h2 (by omega) (by omega)
      dsimp only at this ⊢
      rw [this, gluF_cons hc]
      congr 3
      rw [show k + 1 - last = (k - last) + 1 by omega, List.take_add_one, List.getElem?_drop, show last + (k - last) = k by omega, h3]
      rfl
theorem bsplit_eq (b : Array UInt8) : bsplit b = (cutP b.toList).map List.toArray := by
  have key := fold_bet b b.toList 0 0 #[] rfl (Nat.zero_le _) (Nat.le_refl 0)
  rw [Nat.sub_self, List.take_zero, gluF_nil] at key
  unfold bsplit
  rw [places_eq]
  by_cases hp : (posOf b.toList 0).isEmpty = true
  · rw [if_pos hp]
    have hp' : posOf b.toList 0 = [] := List.isEmpty_iff.mp hp
    rw [hp'] at key
    have e : b.extract 0 b.size = b := by
      apply Array.ext'
      rw [ext_list, List.drop_zero, Nat.sub_zero]
      exact List.take_of_length_le (by simp)
    have k2 : [b.extract 0 b.size] = (cutP b.toList).map List.toArray := by simpa using key
    rw [← k2, e]
  · rw [if_neg hp]
    unfold Bytes.between
    simpa using key
end
section
open PySem PySem.W PyProof.Rows PySem.Builtin PySem.Calls PySem.Spec
set_option maxRecDepth 100000
theorem apart_swap {x : Addr × Obj} {c d : Addr} {o o' : Obj} {l : Led} (h : ∀ p ∈ x :: (c, o) :: l, p.1 ≠ d) : ∀ p ∈ x :: (c, o') :: l, p.1 ≠ d :=
  apart_cons (h _ (.head _)) (apart_cons (x := (c, o')) (show c ≠ d from h (c, o) (.tail _ (.head _))) fun p hp => h p (.tail _ (.tail _ hp)))
theorem CtH.use {P : Heap → Prop} {k : Nat} {w : World} {f : Addr} {news : Led} {vs : List Value} {Ret : Value → Led → Prop} (C : CtH P k w f news vs Ret) {mean : ExcName → Option Value} {mg mb : Str → Option Value} {dp un : Nat} {gd : Option (List Code)} {cn : Str} {cs : Scope} {a : Addr} {ccd : Value} {cl : List (Str × Addr)} {outer : List Env} {A₀ : Around} {base h₀ : Heap} {L : Addr}
    {m : Str → Option Value} {s : Shared} {Q E : Value → Shared → Prop}
    (B : Below A₀ base outer h₀) (F : Fr h₀ L s.heap m) (X : (hd.heap_39 w.params).In h₀) (N : News h₀ L s.heap news) (T : Top hd.view_39 (looseW hd.view_39 [Str.ofString "PostError"]) mean mg mb h₀) (hk : cs.kind = .function)
    (hd : dp + k < recursionLimit) (hu : un + 8 * k < cLine) (hP : P h₀)
    (hret : ∀ r news' h' tk', Fr h₀ L h' m → News h₀ L h' news' → Ret r news' → Q r { s with heap := h', toks := tk' }) :
    wpAny (model PySem.Challenge.rw_nz0310_01.row.prog w) (ktrTop dp un gd cn cs L a ccd cl outer) (call (.ref f) vs) Q E s := C mean mg mb dp un gd cn cs a ccd cl outer A₀ base h₀ L m s Q E B F X N T hk hd hu hP hret
theorem CtX.use {k : Nat} {w : World} {f : Addr} {news : Led} {vs : List Value} {Ret : Value → Led → Prop} {Bad : Prop} (C : CtX k w f news vs Ret Bad) {mean : ExcName → Option Value} {mg mb : Str → Option Value} {dp un : Nat} {gd : Option (List Code)} {cn : Str} {cs : Scope} {a : Addr} {ccd : Value} {cl : List (Str × Addr)} {outer : List Env} {A₀ : Around} {base h₀ : Heap} {L : Addr}
    {m : Str → Option Value} {s : Shared} {Q E : Value → Shared → Prop}
    (B : Below A₀ base outer h₀) (F : Fr h₀ L s.heap m) (X : (hd.heap_39 w.params).In h₀) (N : News h₀ L s.heap news) (T : Top hd.view_39 (looseW hd.view_39 [Str.ofString "PostError"]) mean mg mb h₀) (hk : cs.kind = .function)
    (hd : dp + k < recursionLimit) (hu : un + 8 * k < cLine)
    (hret : ∀ r news' h' tk', Fr h₀ L h' m → News h₀ L h' news' → Ret r news' → Q r { s with heap := h', toks := tk' })
    (hexc : Bad → ∀ g e h' tk', Fr h₀ L g m → RaisedX base (envX cn cs L a ccd cl :: outer) e (.ref 59) news h' → g.UpToSlots h' → E (.ref e) { s with heap := h', toks := tk' }) :
    wpAny (model PySem.Challenge.rw_nz0310_01.row.prog w) (ktrTop dp un gd cn cs L a ccd cl outer) (call (.ref f) vs) Q E s := C mean mg mb dp un gd cn cs a ccd cl outer A₀ base h₀ L m s Q E B F X N T hk hd hu hret hexc
def menu : List (List UInt8) := [[97], [46], [98, 45, 49], [91], [93], [92], [32], [46, 46]]
end
section
open PySem PySem.W PyProof.Rows PySem.Builtin PySem.Calls PySem.Spec
set_option maxRecDepth 100000
def alpha (c : UInt8) : Bool := ([97, 46, 98, 45, 49, 91, 93, 92, 32] : List UInt8).contains c
theorem alpha_low {c : UInt8} (h : alpha c = true) : c.toNat < 128 := by
  have k := u8_all (P := fun c => (!alpha c || decide (c.toNat < 128)) = true) (by decide +kernel) c
  rw [h] at k; simpa using k
theorem alpha_tame {c : UInt8} (h : alpha c = true) : tame c := by
  have k := u8_all (P := fun c => (!alpha c || (!decide (c.toNat = 0) && !decide (c.toNat = 10) && !decide (c.toNat = 13))) = true) (by decide +kernel) c
  rw [h] at k
  simp only [Bool.not_true, Bool.false_or, Bool.and_eq_true, Bool.not_eq_true', decide_eq_false_iff_not] at k
  unfold tame; omega
theorem menu_alpha : ∀ x ∈ menu, x.length ≤ 3 ∧ ∀ c ∈ x, alpha c = true := by decide +kernel
theorem flat_menu {ws : List (List UInt8)} (h : ∀ x ∈ ws, x ∈ menu) : ws.flatten.length ≤ 3 * ws.length ∧ ∀ c ∈ ws.flatten, alpha c = true := by
  constructor
  · induction ws with
    | nil => exact Nat.le_refl 0
    | cons x r ih =>
      have := ih fun y hy => h y (.tail _ hy)
      have := (menu_alpha x (h x (.head _))).1
      simp only [List.flatten_cons, List.length_append, List.length_cons]; omega
  · intro c hc
    obtain ⟨x, hx, hcx⟩ := List.mem_flatten.mp hc
    exact (menu_alpha x (h x hx)).2 c hcx
theorem strOf_list (l : List UInt8) : (strOf l).cps.toList = l.map (·.toNat) := by simp [strOf]
theorem join_menu (ws : List (List UInt8)) : Txt.join (Str.ofString "") (ws.map strOf) = strOf ws.flatten := by
  rw [glued_nil]
  show (⟨((ws.map strOf).map (·.cps.toList)).flatten.toArray⟩ : Str) = ⟨(ws.flatten.map (·.toNat)).toArray⟩
  congr 2
  rw [List.map_map, List.map_flatten]
  exact congrArg List.flatten (List.map_congr_left fun x _ => strOf_list x)
theorem join_fits {ws : List (List UInt8)} (h : ∀ x ∈ ws, x ∈ menu) (hn : ws.length ≤ 1000) : JoinOk (Str.ofString "") (ws.map strOf) = true :=
  joinOk_nil (B := 3) (fun y hy => by obtain ⟨x, hx, rfl⟩ := List.mem_map.mp hy; rw [strOf_length]; exact (menu_alpha x (h x hx)).1) (by rw [List.length_map]; omega)
theorem strOf_inj {a b : List UInt8} (h : strOf a = strOf b) : a = b := by
  have e := congrArg (fun s : Str => s.cps.toList) h
  simp only [strOf_list] at e
  exact (List.map_inj_right fun x y q => UInt8.toNat_inj.mp q).mp e
theorem strOf_app (a b : List UInt8) : strOf a ++ strOf b = strOf (a ++ b) := by
  show (⟨(strOf a).cps ++ (strOf b).cps⟩ : Str) = _
  unfold strOf
  simp
theorem lit_open : Str.ofString "[" = strOf [91] := by decide
theorem lit_close : Str.ofString "]" = strOf [93] := by decide
theorem lit_dot : Str.ofString "." = strOf [46] := by decide
theorem lit_back : Str.ofString "\\" = strOf [92] := by decide
theorem beq_strOf (a b : List UInt8) : (strOf a == strOf b) = (a == b) := by
  rw [Bool.eq_iff_iff, beq_iff_eq, beq_iff_eq]
  exact ⟨strOf_inj, fun e => by rw [e]⟩
/-! ### the words between points -/
theorem cutP_free {l : List UInt8} (h : ∀ c ∈ l, c ≠ 46) : cutP l = [l] := by
  induction l with
  | nil => rfl
  | cons c r ih => rw [cutP, if_neg (h c (.head _)), ih fun d hd => h d (.tail _ hd)]
theorem cutP_dot {a b : List UInt8} (h : ∀ c ∈ a, c ≠ 46) : cutP (a ++ 46 :: b) = a :: cutP b := by
  induction a with
  | nil => rw [List.nil_append, cutP, if_pos rfl]
  | cons c r ih => rw [List.cons_append, cutP, if_neg (h c (.head _)), ih fun d hd => h d (.tail _ hd)]
theorem free_of {l : List UInt8} {p : Str} (e : p.cps.toList = l.map (·.toNat)) (h : 46 ∉ p.cps.toList) : ∀ c ∈ l, c ≠ 46 := fun c hc q => h (by rw [e]; exact List.mem_map.mpr ⟨c, hc, by rw [q]; rfl⟩)
theorem words_cut : ∀ (ws : List Str) (l : List UInt8), ws ≠ [] → (∀ p ∈ ws, 46 ∉ p.cps.toList) → (Str.join (Str.ofString ".") ws).cps.toList = l.map (·.toNat) → ws = (cutP l).map strOf
  | [], l, h, _, _ => absurd rfl h
  | [p], l, _, hf, e => by
    have e : p.cps.toList = l.map (·.toNat) := e
    rw [cutP_free (free_of e (hf p (.head _)))]
    show [p] = [strOf l]
    congr 1
    obtain ⟨a⟩ := p
    unfold strOf
    congr 1
    apply Array.ext'
    simpa using e
  | p :: q :: r, l, _, hf, e => by
    have e2 : (Str.join (Str.ofString ".") (p :: q :: r)).cps.toList = p.cps.toList ++ 46 :: (Str.join (Str.ofString ".") (q :: r)).cps.toList := by
      show (p ++ Str.ofString "." ++ Str.join (Str.ofString ".") (q :: r)).cps.toList = _
      rw [lit_dot]
      show ((p.cps ++ (strOf [46]).cps) ++ (Str.join (strOf [46]) (q :: r)).cps).toList = _
      rw [Array.toList_append, Array.toList_append, strOf_list]
      simp
    rw [e2] at e
    obtain ⟨l1, l2, rfl, h1, h2⟩ := List.map_eq_append_iff.mp e.symm
    obtain ⟨d, l3, rfl, h3, h4⟩ := List.map_eq_cons_iff.mp h2
    have hd : d = 46 := UInt8.toNat_inj.mp h3
    subst hd
    rw [cutP_dot (free_of h1.symm (hf p (.head _))), List.map_cons, ← words_cut (q :: r) l3 (by simp) (fun y hy => hf y (.tail _ hy)) h4.symm]
    congr 1
    obtain ⟨a⟩ := p
    unfold strOf
    congr 1
    apply Array.ext'
    simpa using h1.symm
theorem split_cut (l : List UInt8) : Txt.split (strOf l) (Str.ofString ".") = (cutP l).map strOf := by
  have ed : Str.ofString "." = ⟨#[46]⟩ := by decide
  refine words_cut _ l ?_ ?_ ?_
  · intro q
    have := split_pos (strOf l) (Str.ofString ".")
    rw [q] at this
    exact absurd this (by decide)
  · rw [ed]; exact StrLaws.split_free (strOf l) 46
  · rw [StrLaws.join_split, strOf_list]
theorem join_dots (l : List UInt8) : Txt.join (Str.ofString ".") ((cutP l).map strOf) = strOf l := by
  rw [← split_cut]
  show Builtin.Str.glued _ _ = _
  rw [StrLaws.glued_eq_join, StrLaws.join_split]
theorem cutP_len (l : List UInt8) : (cutP l).length ≤ l.length + 1 ∧ ∀ w ∈ cutP l, w.length ≤ l.length ∧ ∀ c ∈ w, c ∈ l := by
  induction l with
  | nil => exact ⟨Nat.le_refl _, fun w hw => by rw [List.mem_singleton.mp hw]; exact ⟨Nat.le_refl _, fun c hc => hc⟩⟩
  | cons c r ih =>
    unfold cutP
    split
    · refine ⟨by simp only [List.length_cons]; omega, fun w hw => ?_⟩
      rcases List.mem_cons.mp hw with rfl | hw
      · exact ⟨Nat.zero_le _, fun c hc => (List.not_mem_nil hc).elim⟩
      · have := ih.2 w hw
        exact ⟨Nat.le_succ_of_le this.1, fun d hd => .tail _ (this.2 d hd)⟩
    · obtain ⟨w, ws, e⟩ := cutP_ne r
      rw [e] at ih ⊢
      simp only [List.length_cons] at ih ⊢
      refine ⟨by omega, fun v hv => ?_⟩
      rcases List.mem_cons.mp hv with rfl | hv
      · have := ih.2 w (.head _)
        refine ⟨by rw [List.length_cons]; omega, fun d hd => ?_⟩
        rcases List.mem_cons.mp hd with rfl | hd
        · exact .head _
        · exact .tail _ (this.2 d hd)
      · have := ih.2 v (.tail _ hv)
        exact ⟨by omega, fun d hd => .tail _ (this.2 d hd)⟩
theorem allAtoms_cut (l : List UInt8) : allAtoms l.toArray = (cutP l).all isAtomL := by
  unfold allAtoms
  rw [bsplit_eq, List.all_map]
  rfl
theorem apart_turn {P I C D : Addr} {oI oC oD o : Obj} {a b : Addr × Obj} {l : Led} (h : ∀ p ∈ [a, b], p.1 ≠ P) (off : LCg.Off3 I C D ((P, o) :: l)) : ∀ p ∈ [a, b, (I, oI), (C, oC), (D, oD)], p.1 ≠ P := fun p hp => by
  simp only [List.mem_cons, List.not_mem_nil, or_false] at hp
  rcases hp with rfl | rfl | rfl | rfl | rfl
  · exact h _ (.head _)
  · exact h _ (.tail _ (.head _))
  · exact Ne.symm off.1.1
  · exact Ne.symm off.1.2.1
  · exact Ne.symm off.1.2.2
theorem perm3b {h₀ h : Heap} {L : Addr} {x y z a b c : Addr × Obj} (N : News h₀ L h [a, b, c, x, y, z]) : News h₀ L h [x, y, z, a, b, c] :=
  N.perm fun p hp => by simp only [List.mem_cons] at hp ⊢; rcases hp with h | h | h | h | h | h | h <;> simp [h]
theorem add_open {prog : Program} {w : World} {A : Around} {E : Value → Shared → Prop} {s : Shared} {l : List UInt8} {t u : Tok} {Q : Value → Shared → Prop} (hl : l.length ≤ 200) (h : ∀ t' tk, Q (.str (strOf (91 :: l)) t') { s with toks := tk }) : wpAny (model prog w) A (binaryOp .Add (.str (Str.ofString "[") t) (.str (strOf l) u)) Q E s := by
  rw [lit_open]
  refine PyProof.Rows.add_str (fun t' tk => ?_) (by rw [strOf_length, strOf_length, PySem.sizeLine_eq]; simp only [List.length_cons, List.length_nil]; omega)
  rw [strOf_app]; exact h t' tk
theorem add_close {prog : Program} {w : World} {A : Around} {E : Value → Shared → Prop} {s : Shared} {l : List UInt8} {t u : Tok} {Q : Value → Shared → Prop} (hl : l.length ≤ 200) (h : ∀ t' tk, Q (.str (strOf (l ++ [93])) t') { s with toks := tk }) : wpAny (model prog w) A (binaryOp .Add (.str (strOf l) t) (.str (Str.ofString "]") u)) Q E s := by
  rw [lit_close]
  refine PyProof.Rows.add_str (fun t' tk => ?_) (by rw [strOf_length, strOf_length, PySem.sizeLine_eq]; simp only [List.length_cons, List.length_nil]; omega)
  rw [strOf_app]; exact h t' tk
def RT (Pl Cl : Addr) (rest : Led) (i : Nat) (ys : List Value) (nws : Led) : Prop :=
  ∃ (g s : Int) (t1 t2 t3 : Tok) (n : Nat) (l : List (Str × Tok)) (ws : List (List UInt8)), nws = (Pl, listOf #[.ref Cl, .int g t1, .int s t2, .int (0 + 1 + 1 + (i : Int)) t3] n) :: rest ∧ 0 ≤ g ∧ 0 ≤ s ∧ s < 2147483647 ∧ ys = strValues l ∧ l.map (·.1) = ws.map strOf ∧ ws.length = i ∧ ∀ x ∈ ws, x ∈ menu
theorem turn_end {h₀ h' : Heap} {L I C D Pl Cl : Addr} {m : Str → Option Value} {s₁ : Shared} {oI oC oD : Obj} {tk i n : Nat} {l9 : List (Str × Tok)} {ws9 : List (List UInt8)} {x : Str} {t t1 t2 t3 : Tok} {g s : Int} {rest : Led}
    (F : Fr h₀ L h' m) (N : News h₀ L h' ((I, oI) :: (C, oC) :: (D, oD) :: (Pl, listOf #[.ref Cl, .int g t1, .int s t2, .int (0 + 1 + 1 + (i : Int) + 1) t3] n) :: rest))
    (off : LCg.Off3 I C D ((Pl, listOf #[.ref Cl, .int g t1, .int s t2, .int (0 + 1 + 1 + (i : Int) + 1) t3] n) :: rest)) (hg : 0 ≤ g) (hs : 0 ≤ s) (hs' : s < 2147483647) (hl9 : l9.map (·.1) = ws9.map strOf) (hw9 : ws9.length = i) (hm9 : ∀ x ∈ ws9, x ∈ menu) (hx : ∃ w ∈ menu, x = strOf w) :
    LCg.CompEnd h₀ L m s₁ I oI C oC D oD (fun _ => True) (fun y news' => RT Pl Cl rest (i + 1) (strValues l9 ++ [y]) news') (.str x t) { s₁ with heap := h', toks := tk } := by
  obtain ⟨w, hw, rfl⟩ := hx
  refine ⟨_, _, _, rfl, F, N, off, trivial, g, s, t1, t2, t3, n, l9 ++ [(strOf w, t)], ws9 ++ [w], ?_, hg, hs, hs', strValues_snoc _ _ _, ?_, ?_, ?_⟩
  · rw [show (0 + 1 + 1 + ((i + 1 : Nat) : Int)) = 0 + 1 + 1 + (i : Int) + 1 by omega]
  · rw [List.map_append, hl9, List.map_append]; rfl
  · rw [List.length_append, hw9]; rfl
  · intro y hy
    rcases List.mem_append.mp hy with hy | hy
    · exact hm9 y hy
    · rw [List.mem_singleton.mp hy]; exact hw
theorem off3_swap {I C D P : Addr} {o o' : Obj} {l : Led} (off : LCg.Off3 I C D ((P, o) :: l)) : LCg.Off3 I C D ((P, o') :: l) := off
end
section
open PySem PySem.W PyProof.Rows PySem.Builtin PySem.Calls PySem.Spec
set_option maxRecDepth 100000
/-- a test's end: the bool told, all else as it stood -/
def CutB (h₀ : Heap) (L : Addr) (m : Str → Option Value) (news : Led) (s : Shared) (b c : Bool) (s' : Shared) : Prop :=
  c = b ∧ ∃ h' tk', s' = { s with heap := h', toks := tk' } ∧ Fr h₀ L h' m ∧ News h₀ L h' news
theorem CutB.mk {h₀ h' : Heap} {L : Addr} {m : Str → Option Value} {news : Led} {s : Shared} {b c : Bool} {tk' : Nat} (e : c = b) (F : Fr h₀ L h' m) (N : News h₀ L h' news) : CutB h₀ L m news s b c { s with heap := h', toks := tk' } := ⟨e, h', tk', rfl, F, N⟩
theorem test_cut {M : Model} {A : Around} {t : Sem Bool} {E : Value → Shared → Prop} {s : Shared} {h₀ : Heap} {L : Addr} {m : Str → Option Value} {news : Led} {R : Bool → Shared → Prop} {hh : Heap} (_F : Fr h₀ L hh m) (_N : News h₀ L hh news) (b : Bool)
    (h : wpAny M A t (fun c s' => CutB h₀ L m news s b c s') E s) (k : ∀ h' tk', Fr h₀ L h' m → News h₀ L h' news → R b { s with heap := h', toks := tk' }) : wpAny M A t R E s := by
  refine wpAny_mono h (fun c s' hc => ?_) fun _ _ e => e
  obtain ⟨rfl, h', tk', rfl, F, N⟩ := hc
  exact k h' tk' F N
theorem fr_over {h₀ h : Heap} {L : Addr} {a : Str} {v w : Option Value} {m : Str → Option Value} (F : Fr h₀ L h (fun y => if y = a then v else if y = a then w else m y)) : Fr h₀ L h (fun y => if y = a then v else m y) := by
  have e : (fun y => if y = a then v else if y = a then w else m y) = (fun y => if y = a then v else m y) := by
    funext y
    by_cases q : y = a
    · rw [if_pos q, if_pos q]
    · rw [if_neg q, if_neg q, if_neg q]
  rw [← e]; exact F
/-- a statement's end that leaves the text: letters of the menu's alphabet -/
def CutT (h₀ : Heap) (L : Addr) (m : Str → Option Value) (news : Led) (s : Shared) (s' : Shared) : Prop :=
  ∃ (X : List UInt8) (u : Tok) (h' : Heap) (tk' : Nat), s' = { s with heap := h', toks := tk' } ∧ X.length ≤ 26 ∧ (∀ c ∈ X, alpha c = true) ∧ Fr h₀ L h' (fun y => if y = Str.ofString "text" then some (.str (strOf X) u) else m y) ∧ News h₀ L h' news
theorem CutT.mk {h₀ h' : Heap} {L : Addr} {m : Str → Option Value} {news : Led} {s : Shared} {X : List UInt8} {u : Tok} {tk' : Nat} (hl : X.length ≤ 26) (ha : ∀ c ∈ X, alpha c = true) (F : Fr h₀ L h' (fun y => if y = Str.ofString "text" then some (.str (strOf X) u) else m y)) (N : News h₀ L h' news) :
    Flow.next = Flow.next ∧ CutT h₀ L m news s { s with heap := h', toks := tk' } := ⟨rfl, X, u, h', tk', rfl, hl, ha, F, N⟩
theorem text_cut {M : Model} {A : Around} {t : Sem Flow} {E : Value → Shared → Prop} {s : Shared} {h₀ hh : Heap} {L : Addr} {v : Option Value} {m : Str → Option Value} {news : Led} {R : Flow → Shared → Prop} (_F : Fr h₀ L hh (fun y => if y = Str.ofString "text" then v else m y)) (_N : News h₀ L hh news)
    (h : wpAny M A t (fun f s' => f = .next ∧ CutT h₀ L m news s s') E s)
    (k : ∀ (X : List UInt8) (u : Tok) (h' : Heap) (tk' : Nat), X.length ≤ 26 → (∀ c ∈ X, alpha c = true) → Fr h₀ L h' (fun y => if y = Str.ofString "text" then some (.str (strOf X) u) else m y) → News h₀ L h' news → R .next { s with heap := h', toks := tk' }) : wpAny M A t R E s := by
  refine wpAny_mono h (fun f s' hc => ?_) fun _ _ e => e
  obtain ⟨rfl, X, u, h', tk', rfl, hl, ha, F, N⟩ := hc
  exact k X u h' tk' hl ha F N
theorem first_eq {X : List UInt8} (h : 1 < X.length) : (Txt.item (strOf X) 0 == Str.ofString "[") = (X.take 1 == [91]) := by
  rw [item_meets ⟨Int.le_refl 0, by rw [strOf_length]; omega⟩, lit_open]
  cases X with
  | nil => simp at h
  | cons c r =>
    have e : (⟨#[(strOf (c :: r)).cps.getD (0 : Int).toNat 0]⟩ : Str) = strOf [c] := by simp [strOf]
    rw [e, beq_strOf]; rfl
theorem item_last {X : List UInt8} (h : 1 < X.length) : Txt.item (strOf X) (-1) = strOf (X.drop (X.length - 1)) := by
  have e : seqIndex? (-1) (strOf X).length = some (X.length - 1) := by
    rw [strOf_length]
    unfold seqIndex?
    rw [if_pos (show (-1 : Int) < 0 by decide)]
    dsimp only
    rw [if_pos (by simp only [Bool.and_eq_true, decide_eq_true_eq]; omega)]
    congr 1; omega
  unfold Txt.item Txt.charAt
  rw [e]
  show (⟨#[((strOf X).cps[X.length - 1]?).getD 0]⟩ : Str) = _
  rw [strOf_get, List.getElem?_eq_getElem (by omega), List.drop_eq_getElem_cons (by omega), List.drop_of_length_le (by omega)]
  simp [strOf]
theorem last_eq {X : List UInt8} (h : 1 < X.length) : (Txt.item (strOf X) (-1) == Str.ofString "]") = (X.drop (X.length - 1) == [93]) := by
  rw [item_last h, lit_close, beq_strOf]
theorem lit_t {X : List UInt8} (h : (1 : Int) < ((strOf X).length : Int)) (a : (Txt.item (strOf X) 0 == Str.ofString "[") = true) (b : (Txt.item (strOf X) (-1) == Str.ofString "]") = true) : true = isLit X := by
  rw [strOf_length] at h
  have h' : 1 < X.length := by omega
  rw [first_eq h'] at a; rw [last_eq h'] at b
  unfold isLit; rw [a, b, decide_eq_true h']; rfl
theorem lit_l {X : List UInt8} (h : (1 : Int) < ((strOf X).length : Int)) (b : (Txt.item (strOf X) (-1) == Str.ofString "]") = false) : false = isLit X := by
  rw [strOf_length] at h
  have h' : 1 < X.length := by omega
  rw [last_eq h'] at b
  unfold isLit; rw [b, Bool.and_false, Bool.false_and]
theorem lit_f {X : List UInt8} (h : (1 : Int) < ((strOf X).length : Int)) (b : (Txt.item (strOf X) 0 == Str.ofString "[") = false) : false = isLit X := by
  rw [strOf_length] at h
  have h' : 1 < X.length := by omega
  rw [first_eq h'] at b
  unfold isLit; rw [b, Bool.false_and, Bool.false_and]
theorem lit_s {X : List UInt8} (h : ¬ (1 : Int) < ((strOf X).length : Int)) : false = isLit X := by
  rw [strOf_length] at h
  unfold isLit; rw [decide_eq_false (show ¬ 1 < X.length by omega), Bool.and_false]
theorem slice_midL {X : List UInt8} (h : 1 < X.length) : Txt.slice (strOf X) (some 1) (some (-1)) = strOf (midL X) := by
  show StrLaws.sliceText (strOf X) (some 1) (some (-1)) = _
  rw [StrLaws.sliceText_neg_hi _ _ (by decide) (by rw [strOf_length]; omega), StrLaws.sliceText_plain ⟨by decide, by rw [strOf_length]; omega, by rw [strOf_list, List.length_map, strOf_length]; omega⟩, strOf_list, strOf_length]
  unfold midL strOf
  rw [show (1 : Int).toNat = 1 from rfl, show ((-1 : Int) + (X.length : Int) - 1).toNat = X.length - 2 by omega, List.map_take, List.map_drop]
theorem occ_special (c : UInt8) : ((Builtin.Str.occurrences (Str.ofString "[]\\") ⟨#[c.toNat]⟩ 0 (Str.ofString "[]\\").length 1).isEmpty == !special c) = true := by
  refine u8_all (P := fun c => ((Builtin.Str.occurrences (Str.ofString "[]\\") ⟨#[c.toNat]⟩ 0 (Str.ofString "[]\\").length 1).isEmpty == !special c) = true) ?_ c
  decide +kernel
theorem occs_eq (c : UInt8) : (Builtin.Str.occurrences (Str.ofString "[]\\") ⟨#[c.toNat]⟩ 0 (Str.ofString "[]\\").length 1).isEmpty = !special c := by
  simpa using occ_special c
theorem one_strOf (c : UInt8) : (⟨#[c.toNat]⟩ : Str) = strOf [c] := rfl
theorem add_back {prog : Program} {w : World} {A : Around} {E : Value → Shared → Prop} {s : Shared} {c : UInt8} {t u : Tok} {Q : Value → Shared → Prop} (h : ∀ t' tk, Q (.str (strOf [92, c]) t') { s with toks := tk }) : wpAny (model prog w) A (binaryOp .Add (.str (Str.ofString "\\") t) (.str ⟨#[c.toNat]⟩ u)) Q E s := by
  rw [lit_back, one_strOf]
  refine PyProof.Rows.add_str (fun t' tk => ?_) (by rw [strOf_length, strOf_length, PySem.sizeLine_eq]; simp only [List.length_cons, List.length_nil]; omega)
  rw [strOf_app]; exact h t' tk
theorem midL_len (X : List UInt8) : (midL X).length ≤ X.length := by unfold midL; rw [List.length_take, List.length_drop]; omega
theorem midL_mem {X : List UInt8} {c : UInt8} (h : c ∈ midL X) : c ∈ X := List.mem_of_mem_drop (List.mem_of_mem_take h)
theorem esc1_len (c : UInt8) : (esc1 c).length ≤ 2 := by unfold esc1; split <;> simp
theorem join_esc (l : List UInt8) : Txt.join (Str.ofString "") (l.map fun c => strOf (esc1 c)) = strOf (escL l) := by
  have := join_menu (l.map esc1)
  rw [List.map_map] at this
  rw [show escL l = (l.map esc1).flatten from (List.flatMap_def ..)]
  exact this
theorem esc_fits {l : List UInt8} (h : l.length ≤ 1000) : JoinOk (Str.ofString "") (l.map fun c => strOf (esc1 c)) = true :=
  joinOk_nil (B := 2) (fun y hy => by obtain ⟨c, _, rfl⟩ := List.mem_map.mp hy; rw [strOf_length]; exact esc1_len c) (by rw [List.length_map]; omega)
def RE (l : List UInt8) (news : Led) (i : Nat) (ys : List Value) (nws : Led) : Prop := nws = news ∧ ∃ q : List (Str × Tok), ys = strValues q ∧ q.map (·.1) = (l.take i).map fun c => strOf (esc1 c)
theorem esc_end {h₀ h' : Heap} {L I C D : Addr} {m : Str → Option Value} {s₁ : Shared} {oI oC oD : Obj} {tk i : Nat} {l : List UInt8} {q : List (Str × Tok)} {c : UInt8} {x : Str} {t : Tok} {news : Led}
    (F : Fr h₀ L h' m) (N : News h₀ L h' ((I, oI) :: (C, oC) :: (D, oD) :: news)) (off : LCg.Off3 I C D news) (hq : q.map (·.1) = (l.take i).map fun c => strOf (esc1 c)) (hc : l[i]? = some c) (hx : x = strOf (esc1 c)) :
    LCg.CompEnd h₀ L m s₁ I oI C oC D oD (fun _ => True) (fun y news' => RE l news (i + 1) (strValues q ++ [y]) news') (.str x t) { s₁ with heap := h', toks := tk } := by
  subst hx
  refine ⟨_, _, _, rfl, F, N, off, trivial, rfl, q ++ [(strOf (esc1 c), t)], strValues_snoc _ _ _, ?_⟩
  rw [List.take_add_one, hc, List.map_append, List.map_append, hq]; rfl
theorem esc_yes {c : UInt8} (h : (Builtin.Str.occurrences (Str.ofString "[]\\") ⟨#[c.toNat]⟩ 0 (Str.ofString "[]\\").length 1).isEmpty = false) : strOf [92, c] = strOf (esc1 c) := by
  rw [occs_eq] at h
  unfold esc1; rw [if_pos (by simpa using h)]
theorem esc_no {c : UInt8} (h : (Builtin.Str.occurrences (Str.ofString "[]\\") ⟨#[c.toNat]⟩ 0 (Str.ofString "[]\\").length 1).isEmpty = true) : (⟨#[c.toNat]⟩ : Str) = strOf (esc1 c) := by
  rw [occs_eq] at h
  unfold esc1; rw [if_neg (by simpa using h)]; rfl
end
section
open PySem PySem.W PyProof.Rows PySem.Builtin PySem.Calls PySem.Spec
set_option maxRecDepth 100000
theorem domO_lit {X : List UInt8} (h : isLit X = true) : domO X = some ((91 :: escL (midL X)) ++ [93]) := by
  unfold domO; rw [if_pos h]; rfl
theorem domO_at {X : List UInt8} (h : ¬ isLit X = true) (a : (cutP X).all isAtomL = true) : domO X = some X := by
  unfold domO; rw [if_neg h, allAtoms_cut, if_pos a]
theorem domO_no {X : List UInt8} (h : ¬ isLit X = true) (a : ¬ (cutP X).all isAtomL = true) : domO X = none := by
  unfold domO; rw [if_neg h, allAtoms_cut, if_neg a]
theorem bs_size {X : List UInt8} (h : X.length ≤ 26) : ∀ p ∈ bsplit X.toArray, p.size ≤ 100 := fun p hp => by
  rw [bsplit_eq] at hp
  obtain ⟨w, hw, rfl⟩ := List.mem_map.mp hp
  have := ((cutP_len X).2 w hw).1
  rw [List.size_toArray]; omega
theorem bs_len {X : List UInt8} (h : X.length ≤ 26) : (bsplit X.toArray).length ≤ 200 := by
  rw [bsplit_eq, List.length_map]
  have := (cutP_len X).1
  show (cutP X).length ≤ 200
  omega
theorem isLit_shape {X : List UInt8} (h : isLit X = true) : X = 91 :: (midL X ++ [93]) := by
  unfold isLit at h
  simp only [Bool.and_eq_true, beq_iff_eq, decide_eq_true_eq] at h
  obtain ⟨⟨h1, h2⟩, h3⟩ := h
  unfold midL
  cases X with
  | nil => simp at h3
  | cons c r =>
    obtain rfl : c = 91 := by simpa using h1
    congr 1
    simp only [List.length_cons] at h2 h3 ⊢
    rw [show r.length + 1 - 1 = (r.length - 1) + 1 by omega, List.drop_succ_cons] at h2
    rw [List.drop_succ_cons, List.drop_zero, ← h2, show r.length + 1 - 2 = r.length - 1 by omega, List.take_append_drop]
/-! ### the tokens of the address -/
def fl (D : List Tk) : List (Bool × Tk) := D.map fun t => (false, t)
def tailT : List (Bool × Tk) := [(false, .sign 44), (true, .atom [98]), (false, .sign 64), (false, .atom [99])]
theorem render_fl (D : List Tk) (r : List (Bool × Tk)) : render (fl D ++ r) = (D.map Tk.src).flatten ++ render r := by
  induction D with
  | nil => rfl
  | cons t D ih =>
    show (if false = true then [32] else []) ++ (t.src ++ render (fl D ++ r)) = _
    rw [ih]; simp
theorem src_dots : ∀ (A : List UInt8) (r : List (List UInt8)) (l : List UInt8), cutP l = A :: r → ((dotL (A :: r)).map Tk.src).flatten = l
  | A, r, [], h => by
    obtain ⟨rfl, rfl⟩ := List.cons.inj (show [[]] = A :: r from h); rfl
  | A, r, c :: l, h => by
    unfold cutP at h
    split at h
    · rename_i hc
      obtain ⟨h1, h2⟩ := List.cons.inj h
      obtain ⟨w, ws, e⟩ := cutP_ne l
      have := src_dots w ws l e
      rw [e] at h2
      subst h1 h2
      show [] ++ ([46] ++ ((dotL (w :: ws)).map Tk.src).flatten) = _
      rw [this, hc]; rfl
    · obtain ⟨w, ws, e⟩ := cutP_ne l
      rw [e] at h
      obtain ⟨rfl, rfl⟩ := List.cons.inj h
      have ih := src_dots w ws l e
      cases ws with
      | nil =>
        show (c :: w) ++ [] = _
        have ih : w ++ [] = l := ih
        rw [List.append_nil] at ih ⊢; rw [ih]
      | cons v vs =>
        show (c :: w) ++ ([46] ++ ((dotL (v :: vs)).map Tk.src).flatten) = _
        have ih : w ++ ([46] ++ ((dotL (v :: vs)).map Tk.src).flatten) = l := ih
        rw [List.cons_append, ih]
theorem hd_none {l : List UInt8} {d : UInt8} (h : atomU d = false) : ∀ c ∈ (d :: l).head?, atomU c = false := fun c hc => by
  simp only [List.head?_cons, Option.mem_def, Option.some.injEq] at hc
  rw [← hc]; exact h
theorem at44 : atomU 44 = false := by decide +kernel
theorem at46 : atomU 46 = false := by decide +kernel
theorem at64 : atomU 64 = false := by decide +kernel
theorem wf_tail : Wf tailT := by
  refine ⟨by show isSign _ = true; decide, fun ⟨A, q⟩ => (by cases q), ⟨by simp, by decide +kernel⟩, fun _ => hd_none at64, by show isSign _ = true; decide, fun ⟨A, q⟩ => (by cases q), ⟨by simp, by decide +kernel⟩, fun _ => (by intro c hc; cases hc), trivial⟩
theorem atom_ok {A : List UInt8} (h : isAtomL A = true) : (Tk.atom A).ok := by
  unfold isAtomL at h
  simp only [Bool.and_eq_true, List.all_eq_true, Bool.not_eq_true'] at h
  exact ⟨fun q => by rw [q] at h; exact absurd h.1 (by decide), h.2⟩
theorem wf_dots : ∀ (r : List (List UInt8)) (A : List UInt8), (∀ w ∈ A :: r, isAtomL w = true) → Wf (fl (dotL (A :: r)) ++ tailT)
  | [], A, h => ⟨atom_ok (h A (.head _)), fun _ => hd_none at44, wf_tail⟩
  | B :: r, A, h => ⟨atom_ok (h A (.head _)), fun _ => hd_none at46, (by show isSign _ = true; decide), fun ⟨A, q⟩ => (by cases q), wf_dots r B fun w hw => h w (.tail _ hw)⟩
theorem addr_data {X d : List UInt8} (hd : domO X = some d) (hl : X.length ≤ 26) (ha : ∀ c ∈ X, alpha c = true) :
    ∃ toks D, (#[97, 64] ++ d.toArray ++ #[44, 32, 98, 64, 99] : Array UInt8).toList = render toks ∧ Wf toks ∧ toks.length ≤ 100 ∧ toks.map (·.2) = .atom [97] :: .sign 64 :: (D ++ [.sign 44, .atom [98], .sign 64, .atom [99]]) ∧ DomL D (strOf X) ∧ d.length ≤ 60 ∧ ∀ c ∈ d, c.toNat < 128 := by
  have main : ∀ D : List Tk, (D.map Tk.src).flatten = d → Wf (fl D ++ tailT) → D.length ≤ 80 → DomL D (strOf X) → d.length ≤ 60 → (∀ c ∈ d, c.toNat < 128) → _ := fun D h1 h2 h3 h4 h5 h6 =>
    (⟨(false, .atom [97]) :: (false, .sign 64) :: (fl D ++ tailT), D, by
      show _ = [97] ++ ([64] ++ render (fl D ++ tailT))
      rw [render_fl, h1]
      simp [tailT, render, Tk.src], ⟨⟨by simp, by decide +kernel⟩, fun _ => hd_none at64, by show isSign _ = true; decide, fun ⟨A, q⟩ => (by cases q), h2⟩, by
      simp only [fl, tailT, List.length_cons, List.length_append, List.length_map, List.length_nil]; omega, by
      simp [fl, tailT, Function.comp_def], h4, h5, h6⟩ : ∃ toks D, (#[97, 64] ++ d.toArray ++ #[44, 32, 98, 64, 99] : Array UInt8).toList = render toks ∧ Wf toks ∧ toks.length ≤ 100 ∧ toks.map (·.2) = .atom [97] :: .sign 64 :: (D ++ [.sign 44, .atom [98], .sign 64, .atom [99]]) ∧ DomL D (strOf X) ∧ d.length ≤ 60 ∧ ∀ c ∈ d, c.toNat < 128)
  by_cases q : isLit X = true
  · rw [domO_lit q] at hd
    obtain rfl := Option.some.inj hd
    have hm := midL_len X
    have he := escL_len (midL X)
    have hma : ∀ c ∈ midL X, alpha c = true := fun c hc => ha c (midL_mem hc)
    refine main [.lit (midL X)] (by simp [Tk.src]) ⟨⟨fun c hc => alpha_tame (hma c hc), by omega⟩, fun ⟨A, q⟩ => (by cases q), wf_tail⟩ (by simp) (.inl ⟨midL X, rfl, by omega, ?_⟩) (by simp only [List.length_append, List.length_cons, List.length_nil]; omega) ?_
    · rw [lit_open, lit_close, strOf_app, strOf_app]
      conv => lhs; rw [isLit_shape q]
      rfl
    · intro c hc
      rcases List.mem_append.mp hc with hc | hc
      · rcases List.mem_cons.mp hc with rfl | hc
        · decide
        · obtain ⟨x, hx, hcx⟩ := List.mem_flatMap.mp hc
          unfold esc1 at hcx
          split at hcx
          · rcases List.mem_cons.mp hcx with rfl | hcx
            · decide
            · rw [List.mem_singleton.mp hcx]; exact alpha_low (hma x hx)
          · rw [List.mem_singleton.mp hcx]; exact alpha_low (hma x hx)
      · rw [List.mem_singleton.mp hc]; decide
  · by_cases a : (cutP X).all isAtomL = true
    · rw [domO_at q a] at hd
      obtain rfl := Option.some.inj hd
      obtain ⟨A, r, e⟩ := cutP_ne X
      have hc := cutP_len X
      have hj := join_dots X
      rw [e] at a hc hj
      simp only [List.length_cons] at hc
      refine main (dotL (A :: r)) (src_dots A r X e) (wf_dots r A fun w hw => List.all_eq_true.mp a w hw) (by rw [dotL_len]; omega) (.inr ⟨A, r, rfl, fun B hB => by have := (hc.2 B hB).1; omega, by omega, hj.symm⟩) (by omega) fun c hc => alpha_low (ha c hc)
    · rw [domO_no q a] at hd; cases hd
def RI (d : List UInt8) (news : Led) (i : Nat) (ys : List Value) (nws : Led) : Prop := nws = news ∧ IntsAre ys (codesI (d.take i))
theorem tup_end {h₀ h' : Heap} {L I C D T : Addr} {m : Str → Option Value} {s₁ : Shared} {o oI oC oD : Obj} {tk : Nat} {nws : Led} {P : Prop} {S : Led → Prop} {rest : Value → Led → Prop} (F : Fr h₀ L h' m) (N : News h₀ L h' ((T, o) :: (I, oI) :: (C, oC) :: (D, oD) :: nws))
    (l : @LT.lt Nat _ I T ∧ @LT.lt Nat _ C T ∧ @LT.lt Nat _ D T ∧ P) (off : LCg.Off3 I C D nws) (hS : S ((T, o) :: nws)) (r : rest (.ref T) ((T, o) :: nws)) : LCg.CompEnd h₀ L m s₁ I oI C oC D oD S rest (.ref T) { s₁ with heap := h', toks := tk } :=
  ⟨_, _, _, rfl, F, N.perm fun p hp => by simp only [List.mem_cons] at hp ⊢; rcases hp with h | h | h | h | h <;> simp [h], (show LCg.Off3 I C D ((T, o) :: nws) from ⟨⟨Nat.ne_of_gt l.1, Nat.ne_of_gt l.2.1, Nat.ne_of_gt l.2.2.1⟩, off⟩), hS, r⟩
def RW (X : List UInt8) (i : Nat) (ys : List Value) : Prop := ys.isEmpty = ((cutP X).take i).all isAtomL
theorem word_at {X : List UInt8} {l8 : List (Str × Tok)} {i : Nat} {v : Value} {ys : List Value} (hl8 : l8.map (·.1) = (cutP X).map strOf) (hi : i < (strValues l8).toArray.size) (hv : (strValues l8).toArray[i]? = some v) (ha : ∀ c ∈ X, alpha c = true) :
    ∃ (w : List UInt8) (t : Tok), v = .str (strOf w) t ∧ w.length ≤ X.length ∧ (∀ c ∈ w, c.toNat < 128) ∧ ((isAtomL w = true → RW X i ys → RW X (i + 1) ys) ∧ (isAtomL w = false → ∀ y, RW X (i + 1) (ys ++ [y]))) := by
  have hi9 : i < l8.length := by simpa [strValues] using hi
  have hl : l8.length = (cutP X).length := by have e := congrArg List.length hl8; simpa using e
  have hic : i < (cutP X).length := by omega
  have e1 : v = .str (l8[i]).1 (l8[i]).2 := by
    have e : (strValues l8).toArray[i]? = some (.str (l8[i]).1 (l8[i]).2) := by simp [strValues, hi9]
    exact (Option.some.inj (e.symm.trans hv)).symm
  have e2 : (l8[i]).1 = strOf ((cutP X)[i]) := by
    have e : (l8.map (·.1))[i]? = ((cutP X).map strOf)[i]? := by rw [hl8]
    rw [List.getElem?_map, List.getElem?_map, List.getElem?_eq_getElem hi9, List.getElem?_eq_getElem hic] at e
    exact Option.some.inj e
  have hw := (cutP_len X).2 _ (List.getElem_mem hic)
  have ht : ((cutP X).take (i + 1)).all isAtomL = (((cutP X).take i).all isAtomL && isAtomL ((cutP X)[i])) := by
    rw [List.take_add_one, List.getElem?_eq_getElem hic, List.all_append]; simp
  refine ⟨(cutP X)[i], _, by rw [e1, e2], hw.1, fun c hc => alpha_low (ha c (hw.2 c hc)), fun q r => ?_, fun q y => ?_⟩
  · unfold RW at r ⊢; rw [ht, q, Bool.and_true]; exact r
  · unfold RW; rw [ht, q, Bool.and_false]; simp
theorem rw_end {X : List UInt8} {l8 : List (Str × Tok)} {ys : List Value} (hl8 : l8.map (·.1) = (cutP X).map strOf) (h : RW X (strValues l8).toArray.size ys) : ys.isEmpty = (cutP X).all isAtomL := by
  have hl : l8.length = (cutP X).length := by have e := congrArg List.length hl8; simpa using e
  unfold RW at h
  rw [List.take_of_length_le (by rw [← hl]; simp [strValues])] at h
  exact h
theorem eq_pairs {prog : Program} {w : World} {A : Around} {E : Value → Shared → Prop} {s : Shared} {l b T1 T2 U1 U2 : Addr} {a x a' x' c y c' y' : Str} {k1 k2 k3 k4 k5 k6 k7 k8 : Tok} {Q : Value → Shared → Prop}
    (hl : s.heap.IsList l #[.ref T1, .ref T2]) (hb : s.heap.IsList b #[.ref U1, .ref U2]) (t1 : s.heap.IsTuple T1 #[.str a k1, .str x k2]) (t2 : s.heap.IsTuple T2 #[.str c k3, .str y k4]) (u1 : s.heap.IsTuple U1 #[.str a' k5, .str x' k6]) (u2 : s.heap.IsTuple U2 #[.str c' k7, .str y' k8])
    (n1 : @Ne Nat T1 U1) (n2 : @Ne Nat T2 U2) (e1 : a = a') (e2 : x = x') (e3 : c = c') (e4 : y = y') (hu : A.units + 1 < cLine) (h : Q (.bool true) s) : wpAny (model prog w) A (compareOp .Eq (.ref l) (.ref b)) Q E s := by
  subst e1 e2 e3 e4
  have st : ∀ (B : Around) (a : Str) (t u : Tok), PySem.SeqAt.EqAt B s (.str a t) (.str a u) true := fun B a t u => by
    have := (eqGives_str a a t u).at B s
    rwa [beq_self_eq_true] at this
  have one : ∀ {T U : Addr} {a x : Str} {k1 k2 k3 k4 : Tok}, s.heap.IsTuple T #[.str a k1, .str x k2] → s.heap.IsTuple U #[.str a k3, .str x k4] → @Ne Nat T U → PySem.SeqAt.EqAt A.in1 s (.ref T) (.ref U) true := fun {T U a x k1 k2 k3 k4} hT hU hne =>
    PySem.SeqAt.EqAt.of_refs hne (PySem.SeqAt.RcAt.tuples (e := fun _ => true) hT hU hu fun j h1 h2 => match j, h1, h2 with
      | 0, _, _ => st _ _ _ _
      | 1, _, _ => st _ _ _ _
      | j + 2, h1, _ => absurd h1 (by simp))
  exact PySem.SeqAt.eq_listAt (e := fun _ => true) hl hb rfl (by omega) (fun j h1 h2 => match j, h1, h2 with
      | 0, _, _ => one t1 u1 n1
      | 1, _, _ => one t2 u2 n2
      | j + 2, h1, _ => absurd h1 (by simp)) h
section
variable {prog : Program} {w : World} {A₀ : Around} {E : Value → Shared → Prop} {s' : Shared} {h₀ h : Heap} {outer : List Env} {L a e : Addr} {m : Str → Option Value} {cn : Str} {cs : Scope} {ccd : Value} {cl : List (Str × Addr)}
  {b₀ : Stmt} {suite : List Stmt} {pos np : Pos} {rest : List ExceptHandler} {Q : Flow → Shared → Prop} {news : Led} {KF : Frag} {C : Addr} {p : Program} {loose : List Str} {mg mb : Str → Option Value} {x : Str}
/-- the frame's own clause takes an exception of one's own that a called def let go -/
theorem caught_word (K : Below A₀ h₀ outer h₀) (F : Fr h₀ L h m) (R : RaisedX h₀ (envX cn cs L a ccd cl :: outer) e (.ref C) news s'.heap) (hsm : h.UpToSlots s'.heap)
    (X : KF.In h₀) (T : TopRead p loose mg mb h₀) (ex : nsIn KF mainGlobals x = some (some (.ref C))) (q : excIn2 KF C wordBm = true)
    (k : ∀ h', Fr h₀ L h' m → News h₀ L h' news → wpAny (model prog w) ((A₀.deeper (envX cn cs L a ccd cl)).mark (some (.ref e))) (execs (b₀ :: suite) (envX cn cs L a ccd cl)) Q E { s' with heap := h' })
    (hk : cs.kind = .function := by rfl) (hx : (envX cn cs L a ccd cl).kindOf x = some .globalImplicit := by rfl) (hd : (x == ("__debug__" : Str)) = false := by decide)
    (hE : PassesOwnAt (model prog w) ((A₀.deeper (envX cn cs L a ccd cl)).mark (some (.ref e))) (A₀.deeper (envX cn cs L a ccd cl)) (envX cn cs L a ccd cl) E := by passes_own) :
    wpAny (model prog w) (A₀.deeper (envX cn cs L a ccd cl)) (noteFrame (.ref e) (envX cn cs L a ccd cl))
      (fun _ s₂ => wpAny (model prog w) (A₀.deeper (envX cn cs L a ccd cl)) (setFlight (.ref e) none) (fun _ s₃ =>
        wpAny (model prog w) (A₀.deeper (envX cn cs L a ccd cl)) (handleBy (.ref e) (envX cn cs L a ccd cl) (.ExceptHandler (some (.Name x np)) none (b₀ :: suite) pos :: rest)) Q E s₃) E s₂) E s' := by
  obtain ⟨B, a0, hB, hl, hfl⟩ := R
  have hL : B.get? L = none := by
    obtain ⟨_, ⟨L', _, hf, hn', _⟩, _⟩ := hfl.2.2.1
    obtain rfl : L = L' := Option.some.inj hf
    exact hn'
  refine wpAny_looks_onW (Around.frames_deeper K.stack) rfl hfl fun h₄ hheld₄ hsm₄ => ?_
  refine wpAny_landsW hheld₄ fun h₅ hheld hsm₅' => ?_
  have hsm₅ := hsm₄.trans hsm₅'
  have hheld' := flyingW_base hB hheld
  have F₅ := F.of_stays hheld'.1 (hsm.trans hsm₅)
  obtain ⟨ob, hob, hobc⟩ := hheld'.there
  refine wpAny_handleBy_cons (codeAny_handlers_test (Calls.Name_function_global hk hx (Calls.loadGlobal_global (env := envX cn cs L a ccd cl) (T.g.keeps F₅.keep) (mg_of X T.g ex) ?_) hd)) (by intro q; cases q)
  obtain ⟨nm, qn, N, bs, hdct, sn, sub, ab, col, dd, k0, k1, k2, k3, k5, hC⟩ := exc_of (Frag.In.keeps X F₅.keep) q
  refine wpAny_excMatches_sub_self hC hob hobc (by decide) (codeAny_handlers_suite ?_)
  refine lands_againW hheld fun h₆ hfl₆ hsm₆ => ?_
  have hfl₆' := flyingW_base hB hfl₆
  have F₆ := F.of_stays hfl₆'.1 ((hsm.trans hsm₅).trans hsm₆)
  exact wpAny_passesOwnAt hE (k h₆ F₆ fun q hq => ⟨hfl₆.1 _ _ (hl q hq).1, (fun z => by have := (hl q hq).1; rw [z, hL] at this; cases this), (hl q hq).2⟩)
end
end
section
open PySem PySem.W PyProof.Rows
set_option maxRecDepth 100000 in
set_option maxHeartbeats 4000000 in
theorem c_sign_text (w : World) (news : Led) (data : Array UInt8) (td : Tok) (hn : data.size ≤ 100) : Ct 3 w 212 news [.bytes data td] (fun r n => n = news ∧ ∃ t, r = .str (strOf data.toList) t) (fun _ _ => False) := by
  k_with_none
  w_top off
  (k_with "compareOp In int bytes" => (refine in_int_bytes (by assumption) (by assumption) ?_))
  (k_with "subscriptTail Name Slice bytes ref" => (k_here; (with_reducible show wpAny _ _ (subscriptTail _ (Expr.Slice _ _ none _) (Value.bytes _ _) (Value.ref _)) _ _ _); k_dflt (refine' slice_b (s := ⟨_, _, _, _, _⟩) ?f ?n ?a ?b ?c ?_; (case f => k_asm); (case n => k_asm); (case a => omega); (case b => omega); (case c => omega)); intro _ _ _ F' N'))
  (k_with "subscriptTail" => (k_here; (with_reducible show wpAny _ _ (subscriptTail _ _ (Value.bytes _ _) (Value.int _ _)) _ _ _); (refine item_b (by omega) (by omega) (by omega) ?_); intro _ _ _ _))
  (k_with "compareOp Eq bytes bytes" => (first | refine eq_cut1 (k := 10) (by omega) (by omega) (by decide) ?_ | refine eq_cut1 (k := 34) (by omega) (by omega) (by decide) ?_ | refine eq_cut1 (k := 40) (by omega) (by omega) (by decide) ?_ | refine eq_cut1 (k := 91) (by omega) (by omega) (by decide) ?_ | refine eq_cut2 (k := 13) (by omega) (by omega) (by decide) (by omega) ?_))
  (k_with "compareOp In int ref" => (k_here; k_dflt (first | refine in_tup2 (News.isTup (by k_asm) (by k_mem)) ?_ | refine in_tup3 (tupK (by k_in) (by k_is)) ?_)))
  (k_with "ite" => (k_here; k_openite; first | (refine ite_pos (by (simp only [decide_eq_true_eq, Bool.and_eq_true, Bool.or_eq_true, Bool.not_eq_true', decide_eq_false_iff_not]; omega)) ?_; walk_say "PRUNED (own)") | (refine ite_neg (by (simp only [decide_eq_true_eq, Bool.and_eq_true, Bool.or_eq_true, Bool.not_eq_true', decide_eq_false_iff_not]; omega)) ?_; walk_say "PRUNED (own)")))
  (k_with "Unr" => (first | refine Unr.succ ?_ | refine Unr.zero ?_))
  (k_with "own k_all" => (first | exact ne_below (by assumption) | exact ne_allLt (by assumption) | exact ne_allLt2 (by assumption)))
  (k_with "own size_fits" => (((try simp only [List.size_toArray, PySem.sizeLine_eq]); omega)))
  (k_with "exec While Compare cons nil" => (k_here; refine Hold.mk ?_))
  (k_with "exec While BoolOp cons nil" => (k_here; refine Hold.mk ?_))
  (k_with "exec While Constant cons nil" => (k_here; refine Hold.mk ?_))
  (k_with "exec While UnaryOp cons nil" => (k_here; refine Hold.mk ?_))
  (k_with "KswEnd" => (refine Hold.mk ?_))
  (k_with "eval ListComp" => (refine Hold.mk ?_))
  (k_with "CompSrcT" => (refine Hold.mk ?_))
  (k_with "CompSrc" => (refine Hold.mk ?_))
  (k_with "CompEnd" => (refine Hold.mk ?_))
  (k_with "Exists" => (refine Hold.mk ?_))
  (k_with "call builtin:str.join" => (refine Hold.mk ?_))
  unfold Ct
  k_fill
  intro mean mg mb dp un gd cn cs a ccd cl outer A₀ base h₀ L m s Q E B F X N T hk hdp hun hret hexc
  refine wpAny_call ?_
  k_dflt cell_enter
  k_steps
  refine Hold.of ?_
  k_dflt (refine comp_U (by k_asm) (by with_unfolding_all rfl) (by decide) (by rfl) (by decide) (by rfl) ?_)
  k_steps
  refine Hold.of ?_
  refine ⟨_, _, _, Src.bytes rfl (by rw [PySem.sizeLine_eq]; omega), by k_asm, by k_asm, fun g9 => ?_⟩
  refine restU (fun i ys nws => nws = news ∧ ∃ l : List (Str × Tok), ys = strValues l ∧ l.map (·.1) = (data.toList.take i).map fun c => (⟨#[c.toNat]⟩ : Str)) ?turn ⟨rfl, [], rfl, rfl⟩ ?fin
  case turn =>
    rintro i ys nws v I oI C oC D m₂ h tk E' hi ⟨hn9, l9, hy9, hl9⟩ ⟨c9, u9, hc9, hv9⟩ hC hx F9 N9 off ne
    subst hn9 hy9 hv9
    have hc8 := c9.toNat_lt
    try k_unmd
    try k_fold
    k_steps
    refine Hold.of ?_
    rw [Int.toNat_natCast]
    refine ⟨_, _, _, rfl, F9, N9, off, trivial, rfl, l9 ++ [(⟨#[c9.toNat]⟩, _)], strValues_snoc l9 ⟨#[c9.toNat]⟩ _, ?_⟩
    · have hc7 : data.toList[i]? = some c9 := by rw [Array.getElem?_toList]; exact hc9
      rw [List.take_add_one, hc7]; simp [hl9]
  case fin =>
    rintro ys nws ⟨hn9, l9, hy9, hl9⟩
    subst hn9 hy9
    intro D9 h9 tk9 F9 N9 off9
    rw [List.take_of_length_le (by simp)] at hl9
    try dsimp only
    k_steps
    refine Hold.of ?_
    refine SC.join (News.isList (by k_asm) (by k_mem)) hl9 (joinOk_nil (B := 1) (by intro y hy; obtain ⟨c, _, rfl⟩ := List.mem_map.mp hy; exact Nat.le_refl 1) (by simp; omega)) ?_
    intro t8 k8
    rw [glued_nil, sign_str]
    try dsimp only
    k_steps
    exact hret _ _ _ _ (by k_asm) (drop0 (by k_asm)) ⟨rfl, _, rfl⟩
end
section
open PySem PySem.W PyProof.Rows
set_option maxRecDepth 100000 in
set_option maxHeartbeats 4000000 in
theorem c_sign_octets (w : World) (news : Led) (l : List UInt8) (tl : Tok) (hl : l.length ≤ 100) (ha : ∀ c ∈ l, c.toNat < 128) : Ct 3 w 217 news [.str (strOf l) tl] (fun r n9 => n9 = news ∧ ∃ t, r = .bytes l.toArray t) (fun _ _ => False) := by
  k_with_none
  w_top off
  (k_with "compareOp In int bytes" => (refine in_int_bytes (by assumption) (by assumption) ?_))
  (k_with "subscriptTail Name Slice bytes ref" => (k_here; (with_reducible show wpAny _ _ (subscriptTail _ (Expr.Slice _ _ none _) (Value.bytes _ _) (Value.ref _)) _ _ _); k_dflt (refine' slice_b (s := ⟨_, _, _, _, _⟩) ?f ?n ?a ?b ?c ?_; (case f => k_asm); (case n => k_asm); (case a => omega); (case b => omega); (case c => omega)); intro _ _ _ F' N'))
  (k_with "subscriptTail" => (k_here; (with_reducible show wpAny _ _ (subscriptTail _ _ (Value.bytes _ _) (Value.int _ _)) _ _ _); (refine item_b (by omega) (by omega) (by omega) ?_); intro _ _ _ _))
  (k_with "compareOp Eq bytes bytes" => (first | refine eq_cut1 (k := 10) (by omega) (by omega) (by decide) ?_ | refine eq_cut1 (k := 34) (by omega) (by omega) (by decide) ?_ | refine eq_cut1 (k := 40) (by omega) (by omega) (by decide) ?_ | refine eq_cut1 (k := 91) (by omega) (by omega) (by decide) ?_ | refine eq_cut2 (k := 13) (by omega) (by omega) (by decide) (by omega) ?_))
  (k_with "compareOp In int ref" => (k_here; k_dflt (first | refine in_tup2 (News.isTup (by k_asm) (by k_mem)) ?_ | refine in_tup3 (tupK (by k_in) (by k_is)) ?_)))
  (k_with "ite" => (k_here; k_openite; first | (refine ite_pos (by (simp only [decide_eq_true_eq, Bool.and_eq_true, Bool.or_eq_true, Bool.not_eq_true', decide_eq_false_iff_not]; omega)) ?_; walk_say "PRUNED (own)") | (refine ite_neg (by (simp only [decide_eq_true_eq, Bool.and_eq_true, Bool.or_eq_true, Bool.not_eq_true', decide_eq_false_iff_not]; omega)) ?_; walk_say "PRUNED (own)")))
  (k_with "Unr" => (first | refine Unr.succ ?_ | refine Unr.zero ?_))
  (k_with "own k_all" => (first | exact ne_below (by assumption) | exact ne_allLt (by assumption) | exact ne_allLt2 (by assumption)))
  (k_with "own size_fits" => (((try simp only [List.size_toArray, PySem.sizeLine_eq]); omega)))
  (k_with "exec While Compare cons nil" => (k_here; refine Hold.mk ?_))
  (k_with "exec While BoolOp cons nil" => (k_here; refine Hold.mk ?_))
  (k_with "exec While Constant cons nil" => (k_here; refine Hold.mk ?_))
  (k_with "exec While UnaryOp cons nil" => (k_here; refine Hold.mk ?_))
  (k_with "KswEnd" => (refine Hold.mk ?_))
  (k_with "eval ListComp" => (refine Hold.mk ?_))
  (k_with "CompSrcT" => (refine Hold.mk ?_))
  (k_with "CompSrc" => (refine Hold.mk ?_))
  (k_with "CompEnd" => (refine Hold.mk ?_))
  (k_with "pyIter ref" => (k_here; refine Hold.mk ?_))
  (k_with "InvEndN" => (refine Hold.mk ?_))
  (k_with "call type:bytes" => (k_here; refine Hold.mk ?_))
  (k_with "Exists" => (refine Hold.mk ?_))
  (k_with "call builtin:str.join" => (refine Hold.mk ?_))
  unfold Ct
  k_fill
  intro mean mg mb dp un gd cn cs a ccd cl outer A₀ base h₀ L m s Q E B F X N T hk hdp hun hret hexc
  refine wpAny_call ?_
  k_dflt cell_enter
  have hsl := strOf_length l
  k_steps
  refine Hold.of ?_
  (rename Fr _ _ _ _ => lF'); (rename News _ _ _ _ => lN'); (rename IsRange _ _ _ _ _ _ _ _ => rgX)
  (with_unfolding_all refine' kst_range (σ := Unit) (fun c => news) (fun _ => []) (fun _ => True) [] (fun _ _ => True) () (by rfl) rgX (by exact small_one (by omega) (by omega) (by omega) (by omega)) (by exact rangeSize_nat _ _) lF' ?kn trivial ?kk trivial ?_ ?_)
  case kn => exact lN'
  case kk => exact List.forall_mem_nil _
  · rintro ⟨⟩ pre9 k9 t9 u9 h9 tk9 own hk9 hl9 off9 _ _ F9 N9
    dsimp only [kstB] at F9 N9
    have hit9 := item_small l k9
    try k_unmd
    try k_fold
    k_steps
    refine Hold.of ?_
    exact kst_end () F9 N9 (fun p hp => List.mem_append.mpr (.inl hp)) (fun p hp => List.mem_append.mpr (.inr hp)) rfl trivial (List.forall_mem_nil _) (by ksw_same) trivial
  · rintro ⟨⟩ u9 h9 tk9 _ _ F9 N9
    dsimp only [kstB] at F9 N9
    try k_unmd
    try k_fold
    k_steps
    refine Hold.of ?_
    k_dflt (refine comp_U (by k_asm) (by with_unfolding_all rfl) (by decide) (by rfl) (by decide) (by rfl) ?_)
    k_steps
    refine Hold.of ?_
    refine ⟨_, _, _, Src.str rfl (ascii_all ha) (by rw [PySem.sizeLine_eq]; show (strOf l).length ≤ _; omega), by k_asm, by k_asm, fun g9 => ?_⟩
    refine restU (fun i ys nws => nws = news ∧ IntsAre ys (codesI (l.take i))) ?turn ⟨rfl, .nil⟩ ?fin
    case turn =>
      rintro i ys nws v I oI C oC D m₂ h tk E' hi ⟨hn9, hi9⟩ ⟨c9, u9, hc9, hv9⟩ hC hx F9 N9 off ne
      replace hn9 := hn9.symm
      subst hn9 hv9
      try k_unmd
      try k_fold
      k_steps
      refine Hold.of ?_
      rw [strOf_get] at hc9
      obtain ⟨c8, hc8, rfl⟩ := Option.map_eq_some_iff.mp hc9
      refine ⟨_, _, _, rfl, F9, N9, off, trivial, rfl, ?_⟩
      rw [codesI_take hc8]
      exact ints_snoc hi9 _ _
    case fin =>
      rintro ys nws ⟨hn9, hi9⟩
      replace hn9 := hn9.symm
      subst hn9
      intro D9 h9 tk9 F9 N9 off9
      rw [show (strOf l).cps.size = l.length from hsl, List.take_length] at hi9
      try dsimp only
      k_steps
      refine Hold.of ?_
      k_dflt (refine' KBa.make_K ?k1 ?k2 ?k3 ?k4 hi9 (codesI_in l) ?k6 ?_)
      case k1 => k_asm
      case k2 => k_asm
      case k3 => rfl
      case k4 => exact News.isList (by k_asm) (by k_mem)
      case k6 => (unfold codesI; rw [List.length_map]; omega)
      intro h8 t8 k8 F8 N8 _
      rw [codesI_bytes]
      try dsimp only
      k_steps
      exact hret _ _ _ _ (by k_asm) (drop0 (by k_asm)) ⟨rfl, _, rfl⟩
end
section
open PySem PySem.W PyProof.Rows
set_option maxRecDepth 100000 in
set_option maxHeartbeats 4000000 in
theorem c_escaped (w : World) (news : Led) (data : Array UInt8) (td : Tok) (hn : data.size ≤ 100) (tb : Tok) (ht : ∀ c ∈ data.toList, tame c) : Ct 3 w 144 news [.bytes data td, .bytes #[91, 93, 92] tb] (fun r n9 => n9 = news ∧ ∃ t, r = .bytes (escL data.toList).toArray t) (fun _ _ => False) := by
  k_with_none
  w_top off
  (k_with "compareOp In int bytes" => (refine in_int_bytes (by assumption) (by assumption) ?_))
  (k_with "subscriptTail Name Slice bytes ref" => (k_here; (with_reducible show wpAny _ _ (subscriptTail _ (Expr.Slice _ _ none _) (Value.bytes _ _) (Value.ref _)) _ _ _); k_dflt (refine' slice_b (s := ⟨_, _, _, _, _⟩) ?f ?n ?a ?b ?c ?_; (case f => k_asm); (case n => k_asm); (case a => omega); (case b => omega); (case c => omega)); intro _ _ _ F' N'))
  (k_with "subscriptTail" => (k_here; (with_reducible show wpAny _ _ (subscriptTail _ _ (Value.bytes _ _) (Value.int _ _)) _ _ _); (refine item_b (by omega) (by omega) (by omega) ?_); intro _ _ _ _))
  (k_with "compareOp Eq bytes bytes" => (first | refine eq_cut1 (k := 10) (by omega) (by omega) (by decide) ?_ | refine eq_cut1 (k := 34) (by omega) (by omega) (by decide) ?_ | refine eq_cut1 (k := 40) (by omega) (by omega) (by decide) ?_ | refine eq_cut1 (k := 91) (by omega) (by omega) (by decide) ?_ | refine eq_cut2 (k := 13) (by omega) (by omega) (by decide) (by omega) ?_))
  (k_with "compareOp In int ref" => (k_here; k_dflt (first | refine in_tup2 (News.isTup (by k_asm) (by k_mem)) ?_ | refine in_tup3 (tupK (by k_in) (by k_is)) ?_)))
  (k_with "ite" => (k_here; k_openite; first | (refine ite_pos (by (simp only [decide_eq_true_eq, Bool.and_eq_true, Bool.or_eq_true, Bool.not_eq_true', decide_eq_false_iff_not]; omega)) ?_; walk_say "PRUNED (own)") | (refine ite_neg (by (simp only [decide_eq_true_eq, Bool.and_eq_true, Bool.or_eq_true, Bool.not_eq_true', decide_eq_false_iff_not]; omega)) ?_; walk_say "PRUNED (own)")))
  (k_with "Unr" => (first | refine Unr.succ ?_ | refine Unr.zero ?_))
  (k_with "own k_all" => (first | exact ne_below (by assumption) | exact ne_allLt (by assumption) | exact ne_allLt2 (by assumption)))
  (k_with "own size_fits" => (((try simp only [List.size_toArray, PySem.sizeLine_eq]); omega)))
  (k_with "compareOp In int bytes" => (refine in_int_b3 (by assumption) (by assumption) ?_))
  (k_with "exec While Compare cons nil" => (k_here; refine Hold.mk ?_))
  (k_with "exec While BoolOp cons nil" => (k_here; refine Hold.mk ?_))
  (k_with "exec While Constant cons nil" => (k_here; refine Hold.mk ?_))
  (k_with "exec While UnaryOp cons nil" => (k_here; refine Hold.mk ?_))
  (k_with "KswEnd" => (refine Hold.mk ?_))
  (k_with "pyIter ref" => (k_here; refine Hold.mk ?_))
  (k_with "InvEndN" => (refine Hold.mk ?_))
  (k_with "getMethod bytes" => (first | refine method_join ?_ | refine method_split ?_))
  (k_with "call builtin:bytes.join" => (refine Hold.mk ?_))
  (k_with "own k_all" => (exact allne_app (by first | assumption | exact ne_below (by assumption) | exact ne_allLt (by assumption)) (by first | assumption | exact OwnOff.ne (by assumption) (.head _))))
  unfold Ct
  k_fill
  intro mean mg mb dp un gd cn cs a ccd cl outer A₀ base h₀ L m s Q E B F X N T hk hdp hun hret hexc
  refine wpAny_call ?_
  k_dflt cell_enter
  k_steps
  refine Hold.of ?_
  (rename Fr _ _ _ _ => lF'); (rename News _ _ _ _ => lN'); (rename IsRange _ _ _ _ _ _ _ _ => rgX)
  (with_unfolding_all refine' kst_range (σ := EsS) (fun c => (_, listOf c.vs.toArray c.n) :: news) (fun _ => []) (fun _ => True) [] (fun pre c => c.ok data pre.length) ⟨[], [], 0⟩ (by rfl) rgX (by exact small_one (by omega) (by omega) (by omega) (by omega)) (by exact rangeSize_nat _ _) lF' ?kn trivial ?kk ⟨rfl, rfl, Nat.le_refl _⟩ ?_ ?_)
  case kn => exact lN'
  case kk => exact List.forall_mem_nil _
  · rintro ⟨l9, vs9, n9⟩ pre9 k9 t9 u9 h9 tk9 own hk9 hl9 off9 _ ⟨hv9, hf9, hs9⟩ F9 N9
    dsimp only at hv9 hf9 hs9
    dsimp only [kstB] at F9 N9
    obtain ⟨c9, tl9, hd9, ht9⟩ := at_head (data := data) (i := pre9.length) (by omega)
    have hx9 := drop_head (data := data) (i := k9) (c := c9) (tl := tl9) (by omega) (by rw [hk9, Int.zero_add, Int.toNat_natCast]; exact hd9)
    have hc9 := cut_at (data := data) (i := k9) (c := c9) (tl := tl9) (by omega) (by rw [hk9, Int.zero_add, Int.toNat_natCast]; exact hd9)
    have htm := ht c9 (by rw [← List.take_append_drop pre9.length data.toList, hd9]; simp)
    unfold tame at htm
    have hb9 := hx9.2.1
    have h19 := hx9.1
    clear hx9
    try k_unmd
    try k_fold
    k_steps
    · refine Hold.of ?_
      rename News _ _ _ _ => nE
      rename bAt data k9 = 91 ∨ bAt data k9 = 93 ∨ bAt data k9 = 92 => hsp
      rw [hb9] at hsp
      simp only [List.push_toArray, hv9, bvals_snoc, List.append_assoc, hc9] at nE
      rw [hv9] at hs9
      exact es_end (by k_asm) nE (by ksw_same) hf9 ht9 hs9 (by simp [esc1, (special_iff c9).mpr hsp]) (by simp)
    · refine Hold.of ?_
      rename News _ _ _ _ => nE
      have hsp : ¬ special c9 = true := fun q => by
        have := (special_iff c9).mp q
        rw [← hb9] at this
        omega
      simp only [List.push_toArray, hv9, bvals_snoc, List.append_assoc, hc9] at nE
      rw [hv9] at hs9
      exact es_end (by k_asm) nE (by ksw_same) hf9 ht9 hs9 (by simp [esc1, hsp]) (by simp)
  · rintro ⟨l9, vs9, n9⟩ u9 h9 tk9 _ ⟨hv9, hf9, hs9⟩ F9 N9
    dsimp only at hv9 hf9 hs9
    dsimp only [kstB] at F9 N9
    try k_unmd
    try k_fold
    k_steps
    refine Hold.of ?_
    have hlen9 : (rangeKs 0 ((data.size : Int) - 0).toNat).length = data.size := by rw [rangeKs_length]; omega
    rw [hlen9, List.take_of_length_le (by simp)] at hf9
    rw [hlen9] at hs9
    rw [hv9] at N9 hs9
    have hel := escL_len data.toList
    rw [Array.length_toList (xs := data)] at hel
    k_dflt (refine' join_bytes (l := l9) (ps := l9.map (·.1)) ?k1 rfl ?k3 ?_)
    case k1 => exact News.isList (by k_asm) (by k_mem)
    case k3 => (rw [List.map_map, show (fun p : Array UInt8 => p.toList) ∘ (fun p : Array UInt8 × Tok => p.1) = (fun p : Array UInt8 × Tok => p.1.toList) from rfl, hf9]; omega)
    intro t8 k8
    rw [List.map_map, show (fun p : Array UInt8 => p.toList) ∘ (fun p : Array UInt8 × Tok => p.1) = (fun p : Array UInt8 × Tok => p.1.toList) from rfl, hf9]
    try dsimp only
    k_steps
    exact hret _ _ _ _ (by k_asm) (drop0 (by k_asm)) ⟨rfl, _, rfl⟩
end
section
open PySem PySem.W PyProof.Rows
set_option maxRecDepth 100000 in
set_option maxHeartbeats 4000000 in
theorem c_atom_at (w : World) (news : Led) (data : Array UInt8) (td : Tok) (hn : data.size ≤ 100) (at_ : Int) (ta : Tok) (A B : List UInt8) (h0 : 0 ≤ at_) (h1 : at_ ≤ data.size) (hd : data.toList.drop at_.toNat = A ++ B) (hA : ∀ c ∈ A, atomU c = true) (hB : ∀ c ∈ B.head?, atomU c = false) : Ct 3 w 104 news [.bytes data td, .int at_ ta] (fun r n => ∃ D t1 t2, n = (D, tupOf [.bytes A.toArray t1, .int (at_ + A.length) t2]) :: news ∧ (∀ p ∈ news, p.1 < D) ∧ r = .ref D) (fun _ _ => False) := by
  k_with_none
  w_top off
  (k_with "compareOp In int bytes" => (refine in_int_bytes (by assumption) (by assumption) ?_))
  (k_with "subscriptTail Name Slice bytes ref" => (k_here; (with_reducible show wpAny _ _ (subscriptTail _ (Expr.Slice _ _ none _) (Value.bytes _ _) (Value.ref _)) _ _ _); k_dflt (refine' slice_b (s := ⟨_, _, _, _, _⟩) ?f ?n ?a ?b ?c ?_; (case f => k_asm); (case n => k_asm); (case a => omega); (case b => omega); (case c => omega)); intro _ _ _ F' N'))
  (k_with "subscriptTail" => (k_here; (with_reducible show wpAny _ _ (subscriptTail _ _ (Value.bytes _ _) (Value.int _ _)) _ _ _); (refine item_b (by omega) (by omega) (by omega) ?_); intro _ _ _ _))
  (k_with "compareOp Eq bytes bytes" => (first | refine eq_cut1 (k := 10) (by omega) (by omega) (by decide) ?_ | refine eq_cut1 (k := 34) (by omega) (by omega) (by decide) ?_ | refine eq_cut1 (k := 40) (by omega) (by omega) (by decide) ?_ | refine eq_cut1 (k := 91) (by omega) (by omega) (by decide) ?_ | refine eq_cut2 (k := 13) (by omega) (by omega) (by decide) (by omega) ?_))
  (k_with "compareOp In int ref" => (k_here; k_dflt (first | refine in_tup2 (News.isTup (by k_asm) (by k_mem)) ?_ | refine in_tup3 (tupK (by k_in) (by k_is)) ?_)))
  (k_with "ite" => (k_here; k_openite; first | (refine ite_pos (by (simp only [decide_eq_true_eq, Bool.and_eq_true, Bool.or_eq_true, Bool.not_eq_true', decide_eq_false_iff_not]; omega)) ?_; walk_say "PRUNED (own)") | (refine ite_neg (by (simp only [decide_eq_true_eq, Bool.and_eq_true, Bool.or_eq_true, Bool.not_eq_true', decide_eq_false_iff_not]; omega)) ?_; walk_say "PRUNED (own)")))
  (k_with "Unr" => (first | refine Unr.succ ?_ | refine Unr.zero ?_))
  (k_with "own k_all" => (first | exact ne_below (by assumption) | exact ne_allLt (by assumption) | exact ne_allLt2 (by assumption)))
  (k_with "own size_fits" => (((try simp only [List.size_toArray, PySem.sizeLine_eq]); omega)))
  (k_with "exec While Compare cons nil" => (k_here; refine Hold.mk ?_))
  (k_with "exec While BoolOp cons nil" => (k_here; refine Hold.mk ?_))
  (k_with "exec While Constant cons nil" => (k_here; refine Hold.mk ?_))
  (k_with "exec While UnaryOp cons nil" => (k_here; refine Hold.mk ?_))
  (k_with "KswEnd" => (refine Hold.mk ?_))
  (k_with "call ref" => (k_here; (with_reducible show wpAny _ _ (call (Value.ref 69) _) _ _ _); k_dflt (refine' Ct.use (c_atom_code _ _ _ _ (by omega) (by omega)) ?k1 ?k2 ?k3 ?k4 ?k5 ?kK ?kd ?ku ?_ ?ke; (case k1 => k_asm); (case k2 => k_asm); (case k3 => k_asm); (case k4 => k_asm); (case k5 => k_asm); (case kK => first | exact rfl | assumption); (case kd => ktr_room); (case ku => ktr_units); (case ke => (intro _ _ _ _ _ _ hF; exact hF.elim)); (intro r n h' tk' F' N' hR; (obtain ⟨hn9, hr9⟩ := hR; replace hn9 := hn9.symm; subst hn9 hr9); (try dsimp only); (try k_fold)))))
  unfold Ct
  k_fill
  intro mean mg mb dp un gd cn cs a ccd cl outer A₀ base h₀ L m s Q E B F X N T hk hdp hun hret hexc
  refine wpAny_call ?_
  k_dflt cell_enter
  k_steps
  refine Hold.of ?_
  (k_dflt (refine' ksw_while (σ := AtS) (fun _ => news) (fun c => [(Str.ofString "end", .int c.a c.ta)]) (fun _ => True) [] (fun c => c.ok at_ A.length) (fun c => (at_ + A.length - c.a).toNat) ⟨at_, _⟩ ?k1 ?k2 trivial ?k3 ⟨Int.le_refl _, by show at_ ≤ _; omega⟩ ?_))
  case k1 => k_asm
  case k2 => k_asm
  case k3 => kst_all
  rintro ⟨a9, ta9⟩ u9 h9 tk9 _ ⟨hl9, hu9⟩ F9 N9
  dsimp only [kstB] at F9 N9 hl9 hu9
  have hr9 := at_run h0 h1 hd hA hB hl9 hu9
  have sz := size_run h0 h1 hd
  rcases hr9 with ⟨hx1, hx2, hx3⟩ | ⟨hx1, hx2 | ⟨hx2, hx3⟩⟩
  · try k_unmd
    try k_fold
    k_steps
    refine Hold.of ?_
    exact ksw_end (AtS.mk (a9 + 1) _) (by k_asm) (by k_asm) (fun p hp => hp) trivial (by kst_all) (by ksw_same) ⟨by show at_ ≤ a9 + 1; omega, by show a9 + 1 ≤ _; omega⟩ (by show (at_ + A.length - (a9 + 1)).toNat < (at_ + A.length - a9).toNat; omega)
  all_goals subst hx1
  all_goals try k_unmd
  all_goals try k_fold
  all_goals k_steps
  all_goals rw [cut_run h0 hd] at *
  all_goals exact hret _ _ _ _ (by k_asm) (by k_asm) ⟨_, _, _, rfl, by assumption, rfl⟩
end
section
open PySem PySem.W PyProof.Rows
theorem c_atom_span (w : World) (news : Led) (data : Array UInt8) (td : Tok) (hn : data.size ≤ 100) (ta : Tok) : Ct 3 w 104 news [.bytes data td, .int 0 ta]
    (fun r n => ∃ D t1 t2, n = (D, tupOf [.bytes (data.toList.takeWhile atomU).toArray t1, .int ((data.toList.takeWhile atomU).length : Int) t2]) :: news ∧ (∀ p ∈ news, p.1 < D) ∧ r = .ref D) (fun _ _ => False) := by
  have hsp9 := span_facts data.toList
  have := c_atom_at w news data td hn 0 ta (data.toList.takeWhile atomU) (data.toList.dropWhile atomU) (by omega) (by omega) hsp9.1 hsp9.2.1 hsp9.2.2
  rw [Int.zero_add] at this
  exact this

set_option maxRecDepth 100000 in
set_option maxHeartbeats 4000000 in
theorem c_is_atom (w : World) (news : Led) (data : Array UInt8) (td : Tok) (hn : data.size ≤ 100) : Ct 4 w 151 news [.bytes data td] (fun r n9 => n9 = news ∧ r = .bool (isAtomL data.toList)) (fun _ _ => False) := by
  k_with_none
  w_top off
  (k_with "compareOp In int bytes" => (refine in_int_bytes (by assumption) (by assumption) ?_))
  (k_with "subscriptTail Name Slice bytes ref" => (k_here; (with_reducible show wpAny _ _ (subscriptTail _ (Expr.Slice _ _ none _) (Value.bytes _ _) (Value.ref _)) _ _ _); k_dflt (refine' slice_b (s := ⟨_, _, _, _, _⟩) ?f ?n ?a ?b ?c ?_; (case f => k_asm); (case n => k_asm); (case a => omega); (case b => omega); (case c => omega)); intro _ _ _ F' N'))
  (k_with "subscriptTail" => (k_here; (with_reducible show wpAny _ _ (subscriptTail _ _ (Value.bytes _ _) (Value.int _ _)) _ _ _); (refine item_b (by omega) (by omega) (by omega) ?_); intro _ _ _ _))
  (k_with "compareOp Eq bytes bytes" => (first | refine eq_cut1 (k := 10) (by omega) (by omega) (by decide) ?_ | refine eq_cut1 (k := 34) (by omega) (by omega) (by decide) ?_ | refine eq_cut1 (k := 40) (by omega) (by omega) (by decide) ?_ | refine eq_cut1 (k := 91) (by omega) (by omega) (by decide) ?_ | refine eq_cut2 (k := 13) (by omega) (by omega) (by decide) (by omega) ?_))
  (k_with "compareOp In int ref" => (k_here; k_dflt (first | refine in_tup2 (News.isTup (by k_asm) (by k_mem)) ?_ | refine in_tup3 (tupK (by k_in) (by k_is)) ?_)))
  (k_with "ite" => (k_here; k_openite; first | (refine ite_pos (by (simp only [decide_eq_true_eq, Bool.and_eq_true, Bool.or_eq_true, Bool.not_eq_true', decide_eq_false_iff_not]; omega)) ?_; walk_say "PRUNED (own)") | (refine ite_neg (by (simp only [decide_eq_true_eq, Bool.and_eq_true, Bool.or_eq_true, Bool.not_eq_true', decide_eq_false_iff_not]; omega)) ?_; walk_say "PRUNED (own)")))
  (k_with "Unr" => (first | refine Unr.succ ?_ | refine Unr.zero ?_))
  (k_with "own k_all" => (first | exact ne_below (by assumption) | exact ne_allLt (by assumption) | exact ne_allLt2 (by assumption)))
  (k_with "own size_fits" => (((try simp only [List.size_toArray, PySem.sizeLine_eq]); omega)))
  (k_with "exec While Compare cons nil" => (k_here; refine Hold.mk ?_))
  (k_with "exec While BoolOp cons nil" => (k_here; refine Hold.mk ?_))
  (k_with "exec While Constant cons nil" => (k_here; refine Hold.mk ?_))
  (k_with "exec While UnaryOp cons nil" => (k_here; refine Hold.mk ?_))
  (k_with "KswEnd" => (refine Hold.mk ?_))
  (k_with "call ref" => (k_here; (with_reducible show wpAny _ _ (call (Value.ref 104) _) _ _ _); k_dflt (refine' Ct.use (c_atom_span _ _ _ _ ?hn _) ?k1 ?k2 ?k3 ?k4 ?k5 ?kK ?kd ?ku ?_ ?ke; (case k1 => k_asm); (case k2 => k_asm); (case k3 => k_asm); (case k4 => first | k_asm | exact perm1 (by k_asm) | exact perm2 (by k_asm) | exact perm3 (by k_asm)); (case k5 => k_asm); (case hn => assumption); (case kK => first | exact rfl | assumption); (case kd => ktr_room); (case ku => ktr_units); (case ke => (intro _ _ _ _ _ _ hF; exact hF.elim)); (intro r n h' tk' F' N' hR; (obtain ⟨D9, t9, u9, hn9, l9, hr9⟩ := hR; replace hn9 := hn9.symm; subst hn9 hr9; (try k_lt l9)); (try dsimp only); (try k_fold)))))
  unfold Ct
  k_fill
  intro mean mg mb dp un gd cn cs a ccd cl outer A₀ base h₀ L m s Q E B F X N T hk hdp hun hret hexc
  refine wpAny_call ?_
  k_dflt cell_enter
  k_steps
  
  · exact hret _ _ _ _ (by k_asm) (drop0 (by k_asm)) ⟨rfl, by rw [isAtom_eq (by assumption)]⟩
  · exact hret _ _ _ _ (by k_asm) (by k_asm) ⟨rfl, by rw [isAtom_no (by assumption)]⟩
end
section
open PySem PySem.W PyProof.Rows
set_option maxRecDepth 100000 in
set_option maxHeartbeats 4000000 in
theorem c_is_dotted (w : World) (news : Led) (data : Array UInt8) (td : Tok) (hn : data.size ≤ 100) (hbs : ∀ p ∈ bsplit data, p.size ≤ 100) (hbl : (bsplit data).length ≤ 200) : Ct 7 w 348 news [.bytes data td] (fun r n9 => n9 = news ∧ r = .bool (allAtoms data)) (fun _ _ => False) := by
  k_with_none
  w_top off
  (k_with "compareOp In int bytes" => (refine in_int_bytes (by assumption) (by assumption) ?_))
  (k_with "subscriptTail Name Slice bytes ref" => (k_here; (with_reducible show wpAny _ _ (subscriptTail _ (Expr.Slice _ _ none _) (Value.bytes _ _) (Value.ref _)) _ _ _); k_dflt (refine' slice_b (s := ⟨_, _, _, _, _⟩) ?f ?n ?a ?b ?c ?_; (case f => k_asm); (case n => k_asm); (case a => omega); (case b => omega); (case c => omega)); intro _ _ _ F' N'))
  (k_with "subscriptTail" => (k_here; (with_reducible show wpAny _ _ (subscriptTail _ _ (Value.bytes _ _) (Value.int _ _)) _ _ _); (refine item_b (by omega) (by omega) (by omega) ?_); intro _ _ _ _))
  (k_with "compareOp Eq bytes bytes" => (first | refine eq_cut1 (k := 10) (by omega) (by omega) (by decide) ?_ | refine eq_cut1 (k := 34) (by omega) (by omega) (by decide) ?_ | refine eq_cut1 (k := 40) (by omega) (by omega) (by decide) ?_ | refine eq_cut1 (k := 91) (by omega) (by omega) (by decide) ?_ | refine eq_cut2 (k := 13) (by omega) (by omega) (by decide) (by omega) ?_))
  (k_with "compareOp In int ref" => (k_here; k_dflt (first | refine in_tup2 (News.isTup (by k_asm) (by k_mem)) ?_ | refine in_tup3 (tupK (by k_in) (by k_is)) ?_)))
  (k_with "ite" => (k_here; k_openite; first | (refine ite_pos (by (simp only [decide_eq_true_eq, Bool.and_eq_true, Bool.or_eq_true, Bool.not_eq_true', decide_eq_false_iff_not]; omega)) ?_; walk_say "PRUNED (own)") | (refine ite_neg (by (simp only [decide_eq_true_eq, Bool.and_eq_true, Bool.or_eq_true, Bool.not_eq_true', decide_eq_false_iff_not]; omega)) ?_; walk_say "PRUNED (own)")))
  (k_with "Unr" => (first | refine Unr.succ ?_ | refine Unr.zero ?_))
  (k_with "own k_all" => (first | exact ne_below (by assumption) | exact ne_allLt (by assumption) | exact ne_allLt2 (by assumption)))
  (k_with "own size_fits" => (((try simp only [List.size_toArray, PySem.sizeLine_eq]); omega)))
  (k_with "exec While Compare cons nil" => (k_here; refine Hold.mk ?_))
  (k_with "exec While BoolOp cons nil" => (k_here; refine Hold.mk ?_))
  (k_with "exec While Constant cons nil" => (k_here; refine Hold.mk ?_))
  (k_with "exec While UnaryOp cons nil" => (k_here; refine Hold.mk ?_))
  (k_with "KswEnd" => (refine Hold.mk ?_))
  (k_with "eval ListComp" => (refine Hold.mk ?_))
  (k_with "CompSrcT" => (refine Hold.mk ?_))
  (k_with "CompSrc" => (refine Hold.mk ?_))
  (k_with "CompEnd" => (refine Hold.mk ?_))
  (k_with "getMethod bytes" => (first | refine method_join ?_ | refine method_split ?_))
  (k_with "call builtin:bytes.join" => (refine Hold.mk ?_))
  (k_with "call builtin:bytes.split" => (refine Hold.mk ?_))
  (k_with "compareOp Eq ref ref" => (refine Hold.mk ?_))
  (k_with "call ref" => (k_here; (with_reducible show wpAny _ _ (call (Value.ref 151) _) _ _ _); k_dflt (refine' Ct.use (c_is_atom _ _ _ _ ?hn) ?k1 ?k2 ?k3 ?k4 ?k5 ?kK ?kd ?ku ?_ ?ke; (case k1 => k_asm); (case k2 => k_asm); (case k3 => k_asm); (case k4 => first | k_asm | exact perm1 (by k_asm) | exact perm2 (by k_asm) | exact perm3 (by k_asm)); (case k5 => k_asm); (case hn => assumption); (case kK => first | exact rfl | assumption); (case kd => ktr_room); (case ku => ktr_units); (case ke => (intro _ _ _ _ _ _ hF; exact hF.elim)); (intro r n h' tk' F' N' hR; (obtain ⟨hn9, hr9⟩ := hR; replace hn9 := hn9.symm; subst hn9 hr9); (try dsimp only); (try k_fold)))))
  unfold Ct
  k_fill
  intro mean mg mb dp un gd cn cs a ccd cl outer A₀ base h₀ L m s Q E B F X N T hk hdp hun hret hexc
  refine wpAny_call ?_
  k_dflt cell_enter
  k_steps
  refine Hold.of ?_
  k_dflt (refine LCt.ListComp_T (F₀ := by k_asm) (by with_unfolding_all rfl) (by decide) (by rfl) (by decide) (by rfl) ?_)
  k_steps
  refine Hold.of ?_
  k_dflt (refine' split_bytes ?k1 ?k2 ?k3 ?k4 ?_)
  case k1 => k_asm
  case k2 => k_asm
  case k3 => (intro p hp; rw [PySem.sizeLine_eq]; have := hbs p hp; omega)
  case k4 => (rw [PySem.sizeLine_eq]; omega)
  intro D8 l8 h8 tk8 hl8 F8 N8 lt8
  try dsimp only
  k_steps
  refine Hold.of ?_
  k_dflt (refine' LCt.CompSrcT.ledger ?h1 ?h2 ?h3 ?h4 ?h5 ?_)
  case h1 => exact rfl
  case h2 => k_asm
  case h3 => k_asm
  case h4 => k_mem
  case h5 => (have e := congrArg List.length hl8; rw [List.length_map] at e; rw [List.size_toArray]; simp only [bvals, List.length_map, PySem.sizeLine_eq]; omega)
  intro g9
  refine restT (fun i ys => ys.isEmpty = (l8.take i).all fun p => isAtomL p.1.toList) ?turn rfl ?fin
  case turn =>
    rintro i ys v I oI C oC D m₂ h tk E' hi hys hv hC hx F9 N9 off ne
    have hi9 : i < l8.length := by simpa [bvals] using hi
    have hv9 : v = .bytes (l8[i]).1 (l8[i]).2 := by
      have e : (bvals l8).toArray[i]? = some (.bytes (l8[i]).1 (l8[i]).2) := by simp [bvals, hi9]
      exact (Option.some.inj (e.symm.trans hv)).symm
    subst hv9
    have hs9 : (l8[i]).1.size ≤ 100 := hbs _ (by rw [← hl8]; exact List.mem_map.mpr ⟨l8[i], List.getElem_mem hi9, rfl⟩)
    have ht9 : (l8.take (i + 1)).all (fun p => isAtomL p.1.toList) = ((l8.take i).all (fun p => isAtomL p.1.toList) && isAtomL (l8[i]).1.toList) := by
      rw [List.take_add_one, List.getElem?_eq_getElem hi9, List.all_append]; simp
    generalize l8[i] = p9 at hs9 ht9 hx
    try k_unmd
    try k_fold
    k_steps
    · refine Hold.of ?_
      have hb9 : isAtomL p9.1.toList = true := by assumption
      exact ⟨_, _, _, rfl, by k_asm, by k_asm, off, .inr ⟨_, .head _, rfl, _, rfl⟩, rfl, by rw [ht9, hb9, Bool.and_true]; exact hys⟩
    · refine Hold.of ?_
      have hb9 : isAtomL p9.1.toList = false := by first | assumption | simpa using (show ¬ isAtomL p9.1.toList = true by assumption)
      exact ⟨_, _, _, rfl, by k_asm, by k_asm, off, .inr ⟨_, .head _, rfl, _, rfl⟩, rfl, by rw [ht9, hb9, Bool.and_false]; simp⟩
  case fin =>
    intro ys hys
    intro D9 h9 tk9 F9 N9 off9
    try dsimp only
    k_steps
    refine Hold.of ?_
    refine eq_nil (News.isList (by k_asm) (.tail _ (.head _))) (News.isList (by k_asm) (.head _)) (by ktr_units) ?_
    try dsimp only
    k_steps
    refine hret _ _ _ _ (by k_asm) (dropF3 (by k_asm)) ⟨rfl, ?_⟩
    rw [hys, List.take_of_length_le (by simp [bvals])]
    unfold allAtoms
    rw [← hl8, List.all_map]
    rfl
end
section
open PySem PySem.W PyProof.Rows
set_option maxRecDepth 100000 in
set_option maxHeartbeats 4000000 in
theorem c_domain_octets (w : World) (news : Led) (l : List UInt8) (tl : Tok) (hl : l.length ≤ 30) (hl2 : l.length ≤ 100) (ha : ∀ c ∈ l, c.toNat < 128) (ht : ∀ c ∈ midL l, tame c) (hb1 : ∀ p ∈ bsplit l.toArray, p.size ≤ 100) (hb2 : (bsplit l.toArray).length ≤ 200) : CtX 12 w 355 news [.str (strOf l) tl] (fun r n9 => n9 = news ∧ ∃ o t, domO l = some o ∧ r = .bytes o.toArray t) (domO l = none) := by
  k_with_none
  w_top off
  (k_with "own k_room" => (ktr_room))
  (k_with "getMethod type:Exception" => (k_here; refine' method_type ?F ?X ?m (by decide +kernel) ?e ?h ?_; (case F => k_asm); (case X => k_asm); (case m => exact meta_Exc); (case e => k_dflt k_is); (case h => k_handed)))
  (k_with "call builtin:Exception.__init__" => (k_here; k_dflt (refine' init_word ?k1 ?k2 ?k3 ?k4 ?k5 ?_; (case k1 => k_asm); (case k2 => k_asm); (case k3 => k_asm); (case k4 => first | assumption | exact ne_below (by assumption)); (case k5 => assumption)); intro h' t' F' N'))
  (k_with "setAttr ref" => (k_here; k_dflt (refine' set_word2 ?k1 ?k2 ?k3 ?k4 ?k5 ?k6 ?k7 ?k8 ?k9 ?_; (case k1 => k_asm); (case k2 => k_asm); (case k3 => k_asm); (case k4 => assumption); (case k5 => assumption); (case k6 => k_is); (case k7 => assumption); (case k8 => k_is); (case k9 => k_is)); intro h' tk' o' F' N'))
  (k_with "setAttr ref" => (k_here; k_dflt (refine' set_word1 ?k1 ?k2 ?k3 ?k4 ?k5 ?k6 ?k7 ?k8 ?_; (case k1 => k_asm); (case k2 => k_asm); (case k3 => k_asm); (case k4 => first | assumption | exact ne_below (by assumption)); (case k5 => k_is); (case k6 => assumption); (case k7 => k_is); (case k8 => k_is)); intro h' dx' tk' o' F' N' ho' hd' hn'; subst ho'))
  (k_with "Exists" => (refine Hold.mk ?_))
  (k_with "call builtin:str.join" => (refine Hold.mk ?_))
  (k_with "subscriptTail" => (k_here; (with_reducible show wpAny _ _ (subscriptTail _ _ (Value.bytes _ _) (Value.ref _)) _ _ _); k_dflt (refine' slice_mid (s := ⟨_, _, _, _, _⟩) ?f ?n ?a ?_; (case f => k_asm); (case n => k_asm); (case a => omega)); intro _ _ _ F' N'))
  (k_with "subscriptTail" => (k_here; (with_reducible show wpAny _ _ (subscriptTail _ _ (Value.bytes _ _) (Value.ref _)) _ _ _); k_dflt (refine' slice_last (s := ⟨_, _, _, _, _⟩) ?f ?n ?a ?_; (case f => k_asm); (case n => k_asm); (case a => omega)); intro _ _ _ F' N'))
  (k_with "subscriptTail" => (k_here; (with_reducible show wpAny _ _ (subscriptTail _ _ (Value.bytes _ _) (Value.ref _)) _ _ _); k_dflt (refine' slice_first (s := ⟨_, _, _, _, _⟩) ?f ?n ?a ?_; (case f => k_asm); (case n => k_asm); (case a => omega)); intro _ _ _ F' N'))
  (k_with "compareOp Eq bytes bytes" => (refine eq_lits (by assumption) ?_))
  (k_with "binaryOp Add bytes bytes" => (k_here; (refine KBy.add_bytes ?z ?_; (case z => ((simp only [List.size_toArray, Array.size_append, List.length_cons, List.length_nil]); omega))); intro _ _))
  (k_with "exec Raise some none" => (k_here; refine Hold.mk ?_))
  (k_with "call ref" => (k_here; (with_reducible show wpAny _ _ (call (Value.ref 59) _) _ _ _); k_dflt (refine' call_word ?k1 ?k2 ?k3 ?k4 ?k5 ?k6 ?k7 ?k8 ?_; (case k1 => k_asm); (case k2 => k_asm); (case k3 => k_asm); (case k4 => assumption); (case k5 => (rw [PySem.sizeLine_eq]; exact Nat.le_of_ble_eq_true rfl)); (case k6 => first | k_is | kernel_rfl); (case k7 => k_is); (case k8 => k_is)); intro e' t' h' F' N' hn'; k_dflt (refine' code_def ?k1 ?k2 ?k3 ?k4 ?k5 ?kA ?kF ?kK ?k6 ?k7 ?k8 ?k9 ?kB ?_ ?c2 ?c3 ?c4 ?c5; (case kA => exact rfl); (case kF => exact rfl); (case kK => exact rfl); (case k1 => k_asm); (case k2 => k_asm); (case k3 => k_asm); (case k4 => k_asm); (case k5 => k_asm); (case k6 => k_is); (case k7 => k_is); (case k8 => ktr_room); (case k9 => first | exact BindsTo.of_eq rfl | exact binds_K (by k_in) rfl (by k_is) rfl rfl rfl); (case c5 => decide); (case kB => exact locs rfl); (case c2 => exact rfl); (case c3 => exact rfl); (case c4 => exact rfl); k_whole; intro g' L' h' FG' F' N' B' X' T'; (try dsimp only); (try k_lift B'); (try k_fold))))
  (k_with "call ref" => (k_here; (with_reducible show wpAny _ _ (call (Value.ref 217) _) _ _ _); k_dflt (refine' Ct.use (c_sign_octets _ _ _ _ ?h1 ?h2) ?k1 ?k2 ?k3 ?k4 ?k5 ?kK ?kd ?ku ?_ ?ke; (case k1 => k_asm); (case k2 => k_asm); (case k3 => k_asm); (case k4 => first | k_asm | exact perm1 (by k_asm) | exact perm2 (by k_asm) | exact perm3 (by k_asm)); (case k5 => k_asm); (case h1 => assumption); (case h2 => assumption); (case kK => first | exact rfl | assumption); (case kd => ktr_room); (case ku => ktr_units); (case ke => (intro _ _ _ _ _ _ hF; exact hF.elim)); (intro r n h' tk' F' N' hR; (obtain ⟨hn9, t9, hr9⟩ := hR; replace hn9 := hn9.symm; subst hn9 hr9); (try dsimp only); (try k_fold)))))
  (k_with "call ref" => (k_here; (with_reducible show wpAny _ _ (call (Value.ref 144) _) _ _ _); k_dflt (refine' Ct.use (c_escaped _ _ _ _ ?h0 _ ?h1) ?k1 ?k2 ?k3 ?k4 ?k5 ?kK ?kd ?ku ?_ ?ke; (case k1 => k_asm); (case k2 => k_asm); (case k3 => k_asm); (case k4 => first | k_asm | exact perm1 (by k_asm) | exact perm2 (by k_asm) | exact perm3 (by k_asm)); (case k5 => k_asm); (case h0 => (simp only [List.size_toArray, List.length_take, List.length_drop]; omega)); (case h1 => first | assumption | (show ∀ c ∈ midL _, tame c; assumption)); (case kK => first | exact rfl | assumption); (case kd => ktr_room); (case ku => ktr_units); (case ke => (intro _ _ _ _ _ _ hF; exact hF.elim)); (intro r n h' tk' F' N' hR; (obtain ⟨hn9, t9, hr9⟩ := hR; replace hn9 := hn9.symm; subst hn9 hr9); (try dsimp only); (try k_fold)))))
  (k_with "call ref" => (k_here; (with_reducible show wpAny _ _ (call (Value.ref 348) _) _ _ _); k_dflt (refine' Ct.use (c_is_dotted _ _ _ _ ?h0 ?h1 ?h2) ?k1 ?k2 ?k3 ?k4 ?k5 ?kK ?kd ?ku ?_ ?ke; (case k1 => k_asm); (case k2 => k_asm); (case k3 => k_asm); (case k4 => first | k_asm | exact perm1 (by k_asm) | exact perm2 (by k_asm) | exact perm3 (by k_asm)); (case k5 => k_asm); (case h0 => (simp only [List.size_toArray]; omega)); (case h1 => assumption); (case h2 => assumption); (case kK => first | exact rfl | assumption); (case kd => ktr_room); (case ku => ktr_units); (case ke => (intro _ _ _ _ _ _ hF; exact hF.elim)); (intro r n h' tk' F' N' hR; (obtain ⟨hn9, hr9⟩ := hR; replace hn9 := hn9.symm; subst hn9 hr9); (try dsimp only); (try k_fold)))))
  unfold CtX
  k_fill
  intro mean mg mb dp un gd cn cs a ccd cl outer A₀ base h₀ L m s Q E B F X N T hk hdp hun hret hexc
  refine wpAny_call ?_
  k_dflt cell_enter
  have hsz : l.toArray.size = l.length := List.size_toArray
  have hel : (escL (List.take (l.length - 2) (List.drop 1 l))).length ≤ 200 := by (have := escL_len (List.take (l.length - 2) (List.drop 1 l)); rw [List.length_take] at this; omega)
  have hx9 : excIn2 (hd.heap_39 w.params) 59 wordBm = true := by kernel_rfl
  have hl9 : lineIs (hd.heap_39 w.params) 59 = true := by kernel_rfl
  rcases q1 : (l.take 1 == [91]) with _ | _ <;> rcases q2 : (l.drop (l.length - 1) == [93]) with _ | _ <;> rcases q3 : allAtoms l.toArray with _ | _
  all_goals k_steps
  all_goals try (refine Hold.of ?_; refine Raise_word (C := 59) rfl ?_; k_steps)
  all_goals first
    | (refine Hold.of ?_
       have hbad : domO l = none := by first | (simp [domO, isLit, q1, q2, q3]; done) | (have hlt : ¬ 1 < l.length := by omega); simp [domO, isLit, q1, q2, q3, hlt]
       rename News _ _ _ ((_, excO 59 _ (some _)) :: _) => nE
       refine ⟨_, _, _, rfl, exc_of (Frag.In.keeps (by k_asm) (Fr.keep (by k_asm))) hx9, (nE _ (.head _)).1, ?_⟩
       show wpAny _ _ (leaving _ _) _ _ _
       refine leave_word (by assumption) (by k_asm) (drop1 nE) (ne_below (by assumption)) ?_ rfl
       intro h' R U
       exact hexc hbad _ _ _ _ (by assumption) R U)
    | (refine hret _ _ _ _ (by k_asm) (by k_asm) ⟨rfl, l, _, ?_, rfl⟩
       first | (simp [domO, isLit, q1, q2, q3]; done) | (have hlt : ¬ 1 < l.length := by omega); simp [domO, isLit, q1, q2, q3, hlt])
    | (refine hret _ _ _ _ (by k_asm) (by k_asm) ⟨rfl, 91 :: (escL (midL l) ++ [93]), _, ?_, bytes_eq (by simp [midL])⟩
       have hlt : 1 < l.length := by omega
       simp [domO, isLit, q1, q2, hlt])
end
section
open PySem PySem.W PyProof.Rows
theorem kind_ne (t : Tk) : t.kind ≠ Str.ofString "comment" := by cases t with | atom _ => (show Str.ofString "atom" ≠ _; decide) | sign _ => (show Str.ofString "sign" ≠ _; decide) | lit _ => (show Str.ofString "literal" ≠ _; decide)

set_option maxRecDepth 100000 in
set_option maxHeartbeats 4000000 in
theorem c_without (w : World) (news : Led) (P : Addr) (es : List TkE) (k : Nat) (hl : es.length ≤ 100) : Ct 3 w 130 ((P, listOf (refs es).toArray k) :: (ents es ++ news)) [.ref P] (fun r n => ∃ D, n = (D, LCg.lst (refs es)) :: (ents es ++ news) ∧ r = .ref D) (fun _ _ => False) := by
  k_with_none
  w_top off
  (k_with "compareOp In int bytes" => (refine in_int_bytes (by assumption) (by assumption) ?_))
  (k_with "subscriptTail Name Slice bytes ref" => (k_here; (with_reducible show wpAny _ _ (subscriptTail _ (Expr.Slice _ _ none _) (Value.bytes _ _) (Value.ref _)) _ _ _); k_dflt (refine' slice_b (s := ⟨_, _, _, _, _⟩) ?f ?n ?a ?b ?c ?_; (case f => k_asm); (case n => k_asm); (case a => omega); (case b => omega); (case c => omega)); intro _ _ _ F' N'))
  (k_with "subscriptTail" => (k_here; (with_reducible show wpAny _ _ (subscriptTail _ _ (Value.bytes _ _) (Value.int _ _)) _ _ _); (refine item_b (by omega) (by omega) (by omega) ?_); intro _ _ _ _))
  (k_with "compareOp Eq bytes bytes" => (first | refine eq_cut1 (k := 10) (by omega) (by omega) (by decide) ?_ | refine eq_cut1 (k := 34) (by omega) (by omega) (by decide) ?_ | refine eq_cut1 (k := 40) (by omega) (by omega) (by decide) ?_ | refine eq_cut1 (k := 91) (by omega) (by omega) (by decide) ?_ | refine eq_cut2 (k := 13) (by omega) (by omega) (by decide) (by omega) ?_))
  (k_with "compareOp In int ref" => (k_here; k_dflt (first | refine in_tup2 (News.isTup (by k_asm) (by k_mem)) ?_ | refine in_tup3 (tupK (by k_in) (by k_is)) ?_)))
  (k_with "ite" => (k_here; k_openite; first | (refine ite_pos (by (simp only [decide_eq_true_eq, Bool.and_eq_true, Bool.or_eq_true, Bool.not_eq_true', decide_eq_false_iff_not]; omega)) ?_; walk_say "PRUNED (own)") | (refine ite_neg (by (simp only [decide_eq_true_eq, Bool.and_eq_true, Bool.or_eq_true, Bool.not_eq_true', decide_eq_false_iff_not]; omega)) ?_; walk_say "PRUNED (own)")))
  (k_with "Unr" => (first | refine Unr.succ ?_ | refine Unr.zero ?_))
  (k_with "own k_all" => (first | exact ne_below (by assumption) | exact ne_allLt (by assumption) | exact ne_allLt2 (by assumption)))
  (k_with "own size_fits" => (((try simp only [List.size_toArray, PySem.sizeLine_eq]); omega)))
  (k_with "exec While Compare cons nil" => (k_here; refine Hold.mk ?_))
  (k_with "exec While BoolOp cons nil" => (k_here; refine Hold.mk ?_))
  (k_with "exec While Constant cons nil" => (k_here; refine Hold.mk ?_))
  (k_with "exec While UnaryOp cons nil" => (k_here; refine Hold.mk ?_))
  (k_with "KswEnd" => (refine Hold.mk ?_))
  (k_with "eval ListComp" => (refine Hold.mk ?_))
  (k_with "CompSrcT" => (refine Hold.mk ?_))
  (k_with "CompSrc" => (refine Hold.mk ?_))
  (k_with "CompEnd" => (refine Hold.mk ?_))
  (k_with "subscriptTail" => (k_here; (with_reducible show wpAny _ _ (subscriptTail _ _ (Value.ref _) (Value.int _ _)) _ _ _); k_dflt (refine' item_tupleT (News.isTup ?t ?m) ?a ?b ?c ?d ?_; (case t => k_asm); (case m => kst_mem); (case a => decide); (case b => decide); (case c => rfl); (case d => rfl))))
  unfold Ct
  k_fill
  intro mean mg mb dp un gd cn cs a ccd cl outer A₀ base h₀ L m s Q E B F X N T hk hdp hun hret hexc
  refine wpAny_call ?_
  k_dflt cell_enter
  k_steps
  refine Hold.of ?_
  k_dflt (refine LCt.ListComp_T (F₀ := by k_asm) (by with_unfolding_all rfl) (by decide) (by rfl) (by decide) (by rfl) ?_)
  k_steps
  refine Hold.of ?_
  k_dflt (refine' LCt.CompSrcT.ledger ?h1 ?h2 ?h3 ?h4 ?h5 ?_)
  case h1 => exact rfl
  case h2 => k_asm
  case h3 => k_asm
  case h4 => k_mem
  case h5 => (rw [List.size_toArray]; simp only [refs, List.length_map, PySem.sizeLine_eq]; omega)
  intro g9
  refine restT (fun i ys => ys = refs (es.take i)) ?turn rfl ?fin
  case turn =>
    rintro i ys v I oI C oC D m₂ h tk E' hi hys hv hC hx F9 N9 off ne
    subst hys
    have hi9 : i < es.length := by simpa [refs] using hi
    have hv9 : v = .ref (es[i]).a := by
      have e : (refs es).toArray[i]? = some (.ref (es[i]).a) := by simp [refs, hi9]
      exact (Option.some.inj (e.symm.trans hv)).symm
    subst hv9
    have hm9 : ((es[i]).a, tupOf [.str (es[i]).tk.kind (es[i]).t1, .bytes (es[i]).tk.worth.toArray (es[i]).t2, .int (es[i]).pos (es[i]).t3]) ∈ ents es := List.mem_map.mpr ⟨es[i], List.getElem_mem hi9, rfl⟩
    have hk9 : (es[i]).tk.kind ≠ Str.ofString "comment" := kind_ne _
    have hk8 : ((es[i]).tk.kind != Str.ofString "comment") = true := bne_iff_ne.mpr hk9
    generalize he9 : es[i] = e9 at hm9 hk8 hx
    clear hk9
    try k_unmd
    try k_fold
    k_steps
    refine Hold.of ?_
    refine ⟨_, _, _, rfl, F9, N9, off, .inr ⟨_, .head _, rfl, _, rfl⟩, rfl, ?_⟩
    rw [← he9, refs_snoc]
    exact congrArg refs (by rw [List.take_add_one, List.getElem?_eq_getElem hi9]; rfl)
  case fin =>
    intro ys hys
    subst hys
    intro D9 h9 tk9 F9 N9 off9
    have e : es.take (refs es).toArray.size = es := List.take_of_length_le (by simp [refs])
    rw [e] at N9
    try dsimp only
    k_steps
    exact hret _ _ _ _ (by k_asm) (drop1 (by k_asm)) ⟨_, rfl, rfl⟩
end
section
open PySem PySem.W PyProof.Rows
set_option maxRecDepth 100000 in
set_option maxHeartbeats 4000000 in
theorem c_is_done_no (w : World) (news : Led) (R dR P : Addr) (es : List TkE) (p n : Int) (k1 k2 k3 t2 t3 : Tok) (hE : ∀ e ∈ es, e.entry ∈ news) (hl : es.length ≤ 100) (t : Tk) (hA : At es p t) : Ct 1 w 238 ((R, instObj 290 dR) :: (dR, dictOf [⟨PyData.keyHash w.params (Str.ofString "tokens"), .str (Str.ofString "tokens") k1, .ref P⟩, ⟨PyData.keyHash w.params (Str.ofString "at"), .str (Str.ofString "at") k2, .int (p) t2⟩, ⟨PyData.keyHash w.params (Str.ofString "length"), .str (Str.ofString "length") k3, .int n t3⟩] 3) :: (P, LCg.lst (refs es)) :: news) [.ref R] (fun r n9 => n9 = ((R, instObj 290 dR) :: (dR, dictOf [⟨PyData.keyHash w.params (Str.ofString "tokens"), .str (Str.ofString "tokens") k1, .ref P⟩, ⟨PyData.keyHash w.params (Str.ofString "at"), .str (Str.ofString "at") k2, .int (p) t2⟩, ⟨PyData.keyHash w.params (Str.ofString "length"), .str (Str.ofString "length") k3, .int n t3⟩] 3) :: (P, LCg.lst (refs es)) :: news) ∧ r = .bool false) (fun _ _ => False) := by
  k_with_none
  w_top off
  (k_with "compareOp In int bytes" => (refine in_int_bytes (by assumption) (by assumption) ?_))
  (k_with "subscriptTail Name Slice bytes ref" => (k_here; (with_reducible show wpAny _ _ (subscriptTail _ (Expr.Slice _ _ none _) (Value.bytes _ _) (Value.ref _)) _ _ _); k_dflt (refine' slice_b (s := ⟨_, _, _, _, _⟩) ?f ?n ?a ?b ?c ?_; (case f => k_asm); (case n => k_asm); (case a => omega); (case b => omega); (case c => omega)); intro _ _ _ F' N'))
  (k_with "subscriptTail" => (k_here; (with_reducible show wpAny _ _ (subscriptTail _ _ (Value.bytes _ _) (Value.int _ _)) _ _ _); (refine item_b (by omega) (by omega) (by omega) ?_); intro _ _ _ _))
  (k_with "compareOp Eq bytes bytes" => (first | refine eq_cut1 (k := 10) (by omega) (by omega) (by decide) ?_ | refine eq_cut1 (k := 34) (by omega) (by omega) (by decide) ?_ | refine eq_cut1 (k := 40) (by omega) (by omega) (by decide) ?_ | refine eq_cut1 (k := 91) (by omega) (by omega) (by decide) ?_ | refine eq_cut2 (k := 13) (by omega) (by omega) (by decide) (by omega) ?_))
  (k_with "compareOp In int ref" => (k_here; k_dflt (first | refine in_tup2 (News.isTup (by k_asm) (by k_mem)) ?_ | refine in_tup3 (tupK (by k_in) (by k_is)) ?_)))
  (k_with "ite" => (k_here; k_openite; first | (refine ite_pos (by (simp only [decide_eq_true_eq, Bool.and_eq_true, Bool.or_eq_true, Bool.not_eq_true', decide_eq_false_iff_not]; omega)) ?_; walk_say "PRUNED (own)") | (refine ite_neg (by (simp only [decide_eq_true_eq, Bool.and_eq_true, Bool.or_eq_true, Bool.not_eq_true', decide_eq_false_iff_not]; omega)) ?_; walk_say "PRUNED (own)")))
  (k_with "Unr" => (first | refine Unr.succ ?_ | refine Unr.zero ?_))
  (k_with "own k_all" => (first | exact ne_below (by assumption) | exact ne_allLt (by assumption) | exact ne_allLt2 (by assumption)))
  (k_with "own size_fits" => (((try simp only [List.size_toArray, PySem.sizeLine_eq]); omega)))
  (k_with "exec While Compare cons nil" => (k_here; refine Hold.mk ?_))
  (k_with "exec While BoolOp cons nil" => (k_here; refine Hold.mk ?_))
  (k_with "exec While Constant cons nil" => (k_here; refine Hold.mk ?_))
  (k_with "exec While UnaryOp cons nil" => (k_here; refine Hold.mk ?_))
  (k_with "KswEnd" => (refine Hold.mk ?_))
  (k_with "call builtin:len" => (k_here; (with_reducible show wpAny _ _ (call (Value.builtin "len") [Value.ref _]) _ _ _); k_dflt (refine' len_refs ?k1 ?k2 ?k3 ?_; (case k1 => k_asm); (case k2 => k_mem); (case k3 => omega)); intro _ _))
  (k_with "subscriptTail" => (k_here; (with_reducible show wpAny _ _ (subscriptTail _ _ (Value.ref _) (Value.int _ _)) _ _ _); k_dflt (refine' item_tupleT (News.isTup ?t ?m) ?a ?b ?c ?d ?_; (case t => k_asm); (case m => kst_mem); (case a => decide); (case b => decide); (case c => rfl); (case d => rfl))))
  (k_with "subscriptTail" => (k_here; (with_reducible show wpAny _ _ (subscriptTail _ _ (Value.ref _) (Value.int _ _)) _ _ _); k_dflt (refine' item_refs ?k1 ?k2 ?k3 ?k4 ?k5 ?k6 ?_; (case k1 => k_asm); (case k2 => k_mem); (case k3 => omega); (case k4 => omega); (case k5 => omega); (case k6 => assumption))))
  unfold Ct
  k_fill
  intro mean mg mb dp un gd cn cs a ccd cl outer A₀ base h₀ L m s Q E B F X N T hk hdp hun hret hexc
  refine wpAny_call ?_
  k_dflt cell_enter
  obtain ⟨hA0, hA1, e, hA2, hA3⟩ := hA
  k_steps
  exact hret _ _ _ _ (by k_asm) (by k_asm) ⟨rfl, by rw [decide_eq_false (by omega)]⟩

set_option maxRecDepth 100000 in
set_option maxHeartbeats 4000000 in
theorem c_is_done_end (w : World) (news : Led) (R dR P : Addr) (es : List TkE) (p n : Int) (k1 k2 k3 t2 t3 : Tok) (hE : ∀ e ∈ es, e.entry ∈ news) (hl : es.length ≤ 100) (hA : End es p) : Ct 1 w 238 ((R, instObj 290 dR) :: (dR, dictOf [⟨PyData.keyHash w.params (Str.ofString "tokens"), .str (Str.ofString "tokens") k1, .ref P⟩, ⟨PyData.keyHash w.params (Str.ofString "at"), .str (Str.ofString "at") k2, .int (p) t2⟩, ⟨PyData.keyHash w.params (Str.ofString "length"), .str (Str.ofString "length") k3, .int n t3⟩] 3) :: (P, LCg.lst (refs es)) :: news) [.ref R] (fun r n9 => n9 = ((R, instObj 290 dR) :: (dR, dictOf [⟨PyData.keyHash w.params (Str.ofString "tokens"), .str (Str.ofString "tokens") k1, .ref P⟩, ⟨PyData.keyHash w.params (Str.ofString "at"), .str (Str.ofString "at") k2, .int (p) t2⟩, ⟨PyData.keyHash w.params (Str.ofString "length"), .str (Str.ofString "length") k3, .int n t3⟩] 3) :: (P, LCg.lst (refs es)) :: news) ∧ r = .bool true) (fun _ _ => False) := by
  unfold Ct
  k_fill
  intro mean mg mb dp un gd cn cs a ccd cl outer A₀ base h₀ L m s Q E B F X N T hk hdp hun hret hexc
  refine wpAny_call ?_
  k_dflt cell_enter
  unfold End at hA
  k_steps
  exact hret _ _ _ _ (by k_asm) (by k_asm) ⟨rfl, by rw [decide_eq_true (by omega)]⟩
end
section
open PySem PySem.W PyProof.Rows
set_option maxRecDepth 100000 in
set_option maxHeartbeats 4000000 in
theorem c_kind (w : World) (news : Led) (R dR P : Addr) (es : List TkE) (p n : Int) (k1 k2 k3 t2 t3 : Tok) (hE : ∀ e ∈ es, e.entry ∈ news) (hl : es.length ≤ 100) (t : Tk) (hA : At es p t) : Ct 2 w 245 ((R, instObj 290 dR) :: (dR, dictOf [⟨PyData.keyHash w.params (Str.ofString "tokens"), .str (Str.ofString "tokens") k1, .ref P⟩, ⟨PyData.keyHash w.params (Str.ofString "at"), .str (Str.ofString "at") k2, .int (p) t2⟩, ⟨PyData.keyHash w.params (Str.ofString "length"), .str (Str.ofString "length") k3, .int n t3⟩] 3) :: (P, LCg.lst (refs es)) :: news) [.ref R] (fun r n9 => n9 = ((R, instObj 290 dR) :: (dR, dictOf [⟨PyData.keyHash w.params (Str.ofString "tokens"), .str (Str.ofString "tokens") k1, .ref P⟩, ⟨PyData.keyHash w.params (Str.ofString "at"), .str (Str.ofString "at") k2, .int (p) t2⟩, ⟨PyData.keyHash w.params (Str.ofString "length"), .str (Str.ofString "length") k3, .int n t3⟩] 3) :: (P, LCg.lst (refs es)) :: news) ∧ ∃ t9, r = .str t.kind t9) (fun _ _ => False) := by
  k_with_none
  w_top off
  (k_with "compareOp In int bytes" => (refine in_int_bytes (by assumption) (by assumption) ?_))
  (k_with "subscriptTail Name Slice bytes ref" => (k_here; (with_reducible show wpAny _ _ (subscriptTail _ (Expr.Slice _ _ none _) (Value.bytes _ _) (Value.ref _)) _ _ _); k_dflt (refine' slice_b (s := ⟨_, _, _, _, _⟩) ?f ?n ?a ?b ?c ?_; (case f => k_asm); (case n => k_asm); (case a => omega); (case b => omega); (case c => omega)); intro _ _ _ F' N'))
  (k_with "subscriptTail" => (k_here; (with_reducible show wpAny _ _ (subscriptTail _ _ (Value.bytes _ _) (Value.int _ _)) _ _ _); (refine item_b (by omega) (by omega) (by omega) ?_); intro _ _ _ _))
  (k_with "compareOp Eq bytes bytes" => (first | refine eq_cut1 (k := 10) (by omega) (by omega) (by decide) ?_ | refine eq_cut1 (k := 34) (by omega) (by omega) (by decide) ?_ | refine eq_cut1 (k := 40) (by omega) (by omega) (by decide) ?_ | refine eq_cut1 (k := 91) (by omega) (by omega) (by decide) ?_ | refine eq_cut2 (k := 13) (by omega) (by omega) (by decide) (by omega) ?_))
  (k_with "compareOp In int ref" => (k_here; k_dflt (first | refine in_tup2 (News.isTup (by k_asm) (by k_mem)) ?_ | refine in_tup3 (tupK (by k_in) (by k_is)) ?_)))
  (k_with "ite" => (k_here; k_openite; first | (refine ite_pos (by (simp only [decide_eq_true_eq, Bool.and_eq_true, Bool.or_eq_true, Bool.not_eq_true', decide_eq_false_iff_not]; omega)) ?_; walk_say "PRUNED (own)") | (refine ite_neg (by (simp only [decide_eq_true_eq, Bool.and_eq_true, Bool.or_eq_true, Bool.not_eq_true', decide_eq_false_iff_not]; omega)) ?_; walk_say "PRUNED (own)")))
  (k_with "Unr" => (first | refine Unr.succ ?_ | refine Unr.zero ?_))
  (k_with "own k_all" => (first | exact ne_below (by assumption) | exact ne_allLt (by assumption) | exact ne_allLt2 (by assumption)))
  (k_with "own size_fits" => (((try simp only [List.size_toArray, PySem.sizeLine_eq]); omega)))
  (k_with "exec While Compare cons nil" => (k_here; refine Hold.mk ?_))
  (k_with "exec While BoolOp cons nil" => (k_here; refine Hold.mk ?_))
  (k_with "exec While Constant cons nil" => (k_here; refine Hold.mk ?_))
  (k_with "exec While UnaryOp cons nil" => (k_here; refine Hold.mk ?_))
  (k_with "KswEnd" => (refine Hold.mk ?_))
  (k_with "call builtin:len" => (k_here; (with_reducible show wpAny _ _ (call (Value.builtin "len") [Value.ref _]) _ _ _); k_dflt (refine' len_refs ?k1 ?k2 ?k3 ?_; (case k1 => k_asm); (case k2 => k_mem); (case k3 => omega)); intro _ _))
  (k_with "subscriptTail" => (k_here; (with_reducible show wpAny _ _ (subscriptTail _ _ (Value.ref _) (Value.int _ _)) _ _ _); k_dflt (refine' item_tupleT (News.isTup ?t ?m) ?a ?b ?c ?d ?_; (case t => k_asm); (case m => kst_mem); (case a => decide); (case b => decide); (case c => rfl); (case d => rfl))))
  (k_with "subscriptTail" => (k_here; (with_reducible show wpAny _ _ (subscriptTail _ _ (Value.ref _) (Value.int _ _)) _ _ _); k_dflt (refine' item_refs ?k1 ?k2 ?k3 ?k4 ?k5 ?k6 ?_; (case k1 => k_asm); (case k2 => k_mem); (case k3 => omega); (case k4 => omega); (case k5 => omega); (case k6 => assumption))))
  (k_with "call ref" => (k_here; (with_reducible show wpAny _ _ (call (Value.ref 238) _) _ _ _); k_dflt (refine' Ct.use (c_is_done_no _ _ _ _ _ _ _ _ _ _ _ _ _ ?hE ?hl _ ?hA) ?k1 ?k2 ?k3 ?k4 ?k5 ?kK ?kd ?ku ?_ ?ke; (case k1 => k_asm); (case k2 => k_asm); (case k3 => k_asm); (case k4 => first | k_asm | exact perm1 (by k_asm) | exact perm2 (by k_asm) | exact perm3 (by k_asm)); (case k5 => k_asm); (case hE => first | assumption | exact ent_mem0 | exact ent_tail ent_mem0 | exact ent_tail (ent_tail ent_mem0) | exact ent_tail (ent_tail (ent_tail ent_mem0)) | exact ent_tail (by assumption) | exact ent_tail (ent_tail (by assumption))); (case hl => first | assumption | omega); (case hA => first | assumption); (case kK => first | exact rfl | assumption); (case kd => ktr_room); (case ku => ktr_units); (case ke => (intro _ _ _ _ _ _ hF; exact hF.elim)); (intro r n h' tk' F' N' hR; (obtain ⟨hn9, hr9⟩ := hR; replace hn9 := hn9.symm; subst hn9 hr9); (try dsimp only); (try k_fold)))))
  (k_with "call ref" => (k_here; (with_reducible show wpAny _ _ (call (Value.ref 238) _) _ _ _); k_dflt (refine' Ct.use (c_is_done_end _ _ _ _ _ _ _ _ _ _ _ _ _ ?hE ?hl ?hA) ?k1 ?k2 ?k3 ?k4 ?k5 ?kK ?kd ?ku ?_ ?ke; (case k1 => k_asm); (case k2 => k_asm); (case k3 => k_asm); (case k4 => first | k_asm | exact perm1 (by k_asm) | exact perm2 (by k_asm) | exact perm3 (by k_asm)); (case k5 => k_asm); (case hE => first | assumption | exact ent_mem0 | exact ent_tail ent_mem0 | exact ent_tail (ent_tail ent_mem0) | exact ent_tail (ent_tail (ent_tail ent_mem0)) | exact ent_tail (by assumption) | exact ent_tail (ent_tail (by assumption))); (case hl => first | assumption | omega); (case hA => first | assumption); (case kK => first | exact rfl | assumption); (case kd => ktr_room); (case ku => ktr_units); (case ke => (intro _ _ _ _ _ _ hF; exact hF.elim)); (intro r n h' tk' F' N' hR; (obtain ⟨hn9, hr9⟩ := hR; replace hn9 := hn9.symm; subst hn9 hr9); (try dsimp only); (try k_fold)))))
  unfold Ct
  k_fill
  intro mean mg mb dp un gd cn cs a ccd cl outer A₀ base h₀ L m s Q E B F X N T hk hdp hun hret hexc
  refine wpAny_call ?_
  k_dflt cell_enter
  obtain ⟨hA0, hA1, e, hA2, hA3⟩ := id hA
  have hm9 : (e.a, tupOf [.str e.tk.kind e.t1, .bytes e.tk.worth.toArray e.t2, .int e.pos e.t3]) ∈ news := hE e (List.mem_of_getElem? hA2)
  rw [hA3] at hm9
  k_steps
  all_goals (exact hret _ _ _ _ (by k_asm) (by k_asm) ⟨rfl, _, rfl⟩)

set_option maxRecDepth 100000 in
set_option maxHeartbeats 4000000 in
theorem c_kind_end (w : World) (news : Led) (R dR P : Addr) (es : List TkE) (p n : Int) (k1 k2 k3 t2 t3 : Tok) (hE : ∀ e ∈ es, e.entry ∈ news) (hl : es.length ≤ 100) (hA : End es p) : Ct 2 w 245 ((R, instObj 290 dR) :: (dR, dictOf [⟨PyData.keyHash w.params (Str.ofString "tokens"), .str (Str.ofString "tokens") k1, .ref P⟩, ⟨PyData.keyHash w.params (Str.ofString "at"), .str (Str.ofString "at") k2, .int (p) t2⟩, ⟨PyData.keyHash w.params (Str.ofString "length"), .str (Str.ofString "length") k3, .int n t3⟩] 3) :: (P, LCg.lst (refs es)) :: news) [.ref R] (fun r n9 => n9 = ((R, instObj 290 dR) :: (dR, dictOf [⟨PyData.keyHash w.params (Str.ofString "tokens"), .str (Str.ofString "tokens") k1, .ref P⟩, ⟨PyData.keyHash w.params (Str.ofString "at"), .str (Str.ofString "at") k2, .int (p) t2⟩, ⟨PyData.keyHash w.params (Str.ofString "length"), .str (Str.ofString "length") k3, .int n t3⟩] 3) :: (P, LCg.lst (refs es)) :: news) ∧ ∃ t9, r = .str (Str.ofString "") t9) (fun _ _ => False) := by
  unfold Ct
  k_fill
  intro mean mg mb dp un gd cn cs a ccd cl outer A₀ base h₀ L m s Q E B F X N T hk hdp hun hret hexc
  refine wpAny_call ?_
  k_dflt cell_enter
  k_steps
  all_goals (exact hret _ _ _ _ (by k_asm) (by k_asm) ⟨rfl, _, rfl⟩)
end
section
open PySem PySem.W PyProof.Rows
theorem eq_worth {d c : UInt8} {b : Bool} {prog : Program} {w : World} {A : Around} {E : Value → Shared → Prop} {s : Shared} {t u : Tok} {Q : Value → Shared → Prop} (hb : (Tk.sign d).isS c = b) (h : Q (.bool b) s) :
    wpAny (model prog w) A (compareOp .Eq (.bytes (Tk.sign d).worth.toArray t) (.bytes #[c] u)) Q E s := by
  refine eq_bytes ?_
  rw [← hb] at h
  have e : ((Tk.sign d).worth.toArray.toList == (#[c] : Array UInt8).toList) = (Tk.sign d).isS c := by
    show ([d] == [c]) = (d == c)
    simp [List.cons_beq_cons]
  rw [e]
  exact h

set_option maxRecDepth 100000 in
set_option maxHeartbeats 4000000 in
theorem c_stands (w : World) (news : Led) (R dR P : Addr) (es : List TkE) (p n : Int) (k1 k2 k3 t2 t3 : Tok) (hE : ∀ e ∈ es, e.entry ∈ news) (hl : es.length ≤ 100) (t : Tk) (hA : At es p t) (c : UInt8) (tc : Tok) (b : Bool) (hb : t.isS c = b) : Ct 3 w 252 ((R, instObj 290 dR) :: (dR, dictOf [⟨PyData.keyHash w.params (Str.ofString "tokens"), .str (Str.ofString "tokens") k1, .ref P⟩, ⟨PyData.keyHash w.params (Str.ofString "at"), .str (Str.ofString "at") k2, .int (p) t2⟩, ⟨PyData.keyHash w.params (Str.ofString "length"), .str (Str.ofString "length") k3, .int n t3⟩] 3) :: (P, LCg.lst (refs es)) :: news) [.ref R, .bytes #[c] tc] (fun r n9 => n9 = ((R, instObj 290 dR) :: (dR, dictOf [⟨PyData.keyHash w.params (Str.ofString "tokens"), .str (Str.ofString "tokens") k1, .ref P⟩, ⟨PyData.keyHash w.params (Str.ofString "at"), .str (Str.ofString "at") k2, .int (p) t2⟩, ⟨PyData.keyHash w.params (Str.ofString "length"), .str (Str.ofString "length") k3, .int n t3⟩] 3) :: (P, LCg.lst (refs es)) :: news) ∧ r = .bool b) (fun _ _ => False) := by
  k_with_none
  w_top off
  (k_with "compareOp In int bytes" => (refine in_int_bytes (by assumption) (by assumption) ?_))
  (k_with "subscriptTail Name Slice bytes ref" => (k_here; (with_reducible show wpAny _ _ (subscriptTail _ (Expr.Slice _ _ none _) (Value.bytes _ _) (Value.ref _)) _ _ _); k_dflt (refine' slice_b (s := ⟨_, _, _, _, _⟩) ?f ?n ?a ?b ?c ?_; (case f => k_asm); (case n => k_asm); (case a => omega); (case b => omega); (case c => omega)); intro _ _ _ F' N'))
  (k_with "subscriptTail" => (k_here; (with_reducible show wpAny _ _ (subscriptTail _ _ (Value.bytes _ _) (Value.int _ _)) _ _ _); (refine item_b (by omega) (by omega) (by omega) ?_); intro _ _ _ _))
  (k_with "compareOp Eq bytes bytes" => (first | refine eq_cut1 (k := 10) (by omega) (by omega) (by decide) ?_ | refine eq_cut1 (k := 34) (by omega) (by omega) (by decide) ?_ | refine eq_cut1 (k := 40) (by omega) (by omega) (by decide) ?_ | refine eq_cut1 (k := 91) (by omega) (by omega) (by decide) ?_ | refine eq_cut2 (k := 13) (by omega) (by omega) (by decide) (by omega) ?_))
  (k_with "compareOp In int ref" => (k_here; k_dflt (first | refine in_tup2 (News.isTup (by k_asm) (by k_mem)) ?_ | refine in_tup3 (tupK (by k_in) (by k_is)) ?_)))
  (k_with "ite" => (k_here; k_openite; first | (refine ite_pos (by (simp only [decide_eq_true_eq, Bool.and_eq_true, Bool.or_eq_true, Bool.not_eq_true', decide_eq_false_iff_not]; omega)) ?_; walk_say "PRUNED (own)") | (refine ite_neg (by (simp only [decide_eq_true_eq, Bool.and_eq_true, Bool.or_eq_true, Bool.not_eq_true', decide_eq_false_iff_not]; omega)) ?_; walk_say "PRUNED (own)")))
  (k_with "Unr" => (first | refine Unr.succ ?_ | refine Unr.zero ?_))
  (k_with "own k_all" => (first | exact ne_below (by assumption) | exact ne_allLt (by assumption) | exact ne_allLt2 (by assumption)))
  (k_with "own size_fits" => (((try simp only [List.size_toArray, PySem.sizeLine_eq]); omega)))
  (k_with "exec While Compare cons nil" => (k_here; refine Hold.mk ?_))
  (k_with "exec While BoolOp cons nil" => (k_here; refine Hold.mk ?_))
  (k_with "exec While Constant cons nil" => (k_here; refine Hold.mk ?_))
  (k_with "exec While UnaryOp cons nil" => (k_here; refine Hold.mk ?_))
  (k_with "KswEnd" => (refine Hold.mk ?_))
  (k_with "call builtin:len" => (k_here; (with_reducible show wpAny _ _ (call (Value.builtin "len") [Value.ref _]) _ _ _); k_dflt (refine' len_refs ?k1 ?k2 ?k3 ?_; (case k1 => k_asm); (case k2 => k_mem); (case k3 => omega)); intro _ _))
  (k_with "subscriptTail" => (k_here; (with_reducible show wpAny _ _ (subscriptTail _ _ (Value.ref _) (Value.int _ _)) _ _ _); k_dflt (refine' item_tupleT (News.isTup ?t ?m) ?a ?b ?c ?d ?_; (case t => k_asm); (case m => kst_mem); (case a => decide); (case b => decide); (case c => rfl); (case d => rfl))))
  (k_with "subscriptTail" => (k_here; (with_reducible show wpAny _ _ (subscriptTail _ _ (Value.ref _) (Value.int _ _)) _ _ _); k_dflt (refine' item_refs ?k1 ?k2 ?k3 ?k4 ?k5 ?k6 ?_; (case k1 => k_asm); (case k2 => k_mem); (case k3 => omega); (case k4 => omega); (case k5 => omega); (case k6 => assumption))))
  (k_with "call ref" => (k_here; (with_reducible show wpAny _ _ (call (Value.ref 238) _) _ _ _); k_dflt (refine' Ct.use (c_is_done_no _ _ _ _ _ _ _ _ _ _ _ _ _ ?hE ?hl _ ?hA) ?k1 ?k2 ?k3 ?k4 ?k5 ?kK ?kd ?ku ?_ ?ke; (case k1 => k_asm); (case k2 => k_asm); (case k3 => k_asm); (case k4 => first | k_asm | exact perm1 (by k_asm) | exact perm2 (by k_asm) | exact perm3 (by k_asm)); (case k5 => k_asm); (case hE => first | assumption | exact ent_mem0 | exact ent_tail ent_mem0 | exact ent_tail (ent_tail ent_mem0) | exact ent_tail (ent_tail (ent_tail ent_mem0)) | exact ent_tail (by assumption) | exact ent_tail (ent_tail (by assumption))); (case hl => first | assumption | omega); (case hA => first | assumption); (case kK => first | exact rfl | assumption); (case kd => ktr_room); (case ku => ktr_units); (case ke => (intro _ _ _ _ _ _ hF; exact hF.elim)); (intro r n h' tk' F' N' hR; (obtain ⟨hn9, hr9⟩ := hR; replace hn9 := hn9.symm; subst hn9 hr9); (try dsimp only); (try k_fold)))))
  (k_with "call ref" => (k_here; (with_reducible show wpAny _ _ (call (Value.ref 238) _) _ _ _); k_dflt (refine' Ct.use (c_is_done_end _ _ _ _ _ _ _ _ _ _ _ _ _ ?hE ?hl ?hA) ?k1 ?k2 ?k3 ?k4 ?k5 ?kK ?kd ?ku ?_ ?ke; (case k1 => k_asm); (case k2 => k_asm); (case k3 => k_asm); (case k4 => first | k_asm | exact perm1 (by k_asm) | exact perm2 (by k_asm) | exact perm3 (by k_asm)); (case k5 => k_asm); (case hE => first | assumption | exact ent_mem0 | exact ent_tail ent_mem0 | exact ent_tail (ent_tail ent_mem0) | exact ent_tail (ent_tail (ent_tail ent_mem0)) | exact ent_tail (by assumption) | exact ent_tail (ent_tail (by assumption))); (case hl => first | assumption | omega); (case hA => first | assumption); (case kK => first | exact rfl | assumption); (case kd => ktr_room); (case ku => ktr_units); (case ke => (intro _ _ _ _ _ _ hF; exact hF.elim)); (intro r n h' tk' F' N' hR; (obtain ⟨hn9, hr9⟩ := hR; replace hn9 := hn9.symm; subst hn9 hr9); (try dsimp only); (try k_fold)))))
  (k_with "call ref" => (k_here; (with_reducible show wpAny _ _ (call (Value.ref 245) _) _ _ _); k_dflt (refine' Ct.use (c_kind _ _ _ _ _ _ _ _ _ _ _ _ _ ?hE ?hl _ ?hA) ?k1 ?k2 ?k3 ?k4 ?k5 ?kK ?kd ?ku ?_ ?ke; (case k1 => k_asm); (case k2 => k_asm); (case k3 => k_asm); (case k4 => first | k_asm | exact perm1 (by k_asm) | exact perm2 (by k_asm) | exact perm3 (by k_asm)); (case k5 => k_asm); (case hE => first | assumption | exact ent_mem0 | exact ent_tail ent_mem0 | exact ent_tail (ent_tail ent_mem0) | exact ent_tail (ent_tail (ent_tail ent_mem0)) | exact ent_tail (by assumption) | exact ent_tail (ent_tail (by assumption))); (case hl => first | assumption | omega); (case hA => first | assumption); (case kK => first | exact rfl | assumption); (case kd => ktr_room); (case ku => ktr_units); (case ke => (intro _ _ _ _ _ _ hF; exact hF.elim)); (intro r n h' tk' F' N' hR; (obtain ⟨hn9, t9, hr9⟩ := hR; replace hn9 := hn9.symm; subst hn9 hr9; (try dsimp only [Tk.kind])); (try dsimp only); (try k_fold)))))
  (k_with "call ref" => (k_here; (with_reducible show wpAny _ _ (call (Value.ref 245) _) _ _ _); k_dflt (refine' Ct.use (c_kind_end _ _ _ _ _ _ _ _ _ _ _ _ _ ?hE ?hl ?hA) ?k1 ?k2 ?k3 ?k4 ?k5 ?kK ?kd ?ku ?_ ?ke; (case k1 => k_asm); (case k2 => k_asm); (case k3 => k_asm); (case k4 => first | k_asm | exact perm1 (by k_asm) | exact perm2 (by k_asm) | exact perm3 (by k_asm)); (case k5 => k_asm); (case hE => first | assumption | exact ent_mem0 | exact ent_tail ent_mem0 | exact ent_tail (ent_tail ent_mem0) | exact ent_tail (ent_tail (ent_tail ent_mem0)) | exact ent_tail (by assumption) | exact ent_tail (ent_tail (by assumption))); (case hl => first | assumption | omega); (case hA => first | assumption); (case kK => first | exact rfl | assumption); (case kd => ktr_room); (case ku => ktr_units); (case ke => (intro _ _ _ _ _ _ hF; exact hF.elim)); (intro r n h' tk' F' N' hR; (obtain ⟨hn9, t9, hr9⟩ := hR; replace hn9 := hn9.symm; subst hn9 hr9; (try dsimp only [Tk.kind])); (try dsimp only); (try k_fold)))))
  (k_with "compareOp Eq bytes bytes" => (refine eq_worth (by assumption) ?_))
  unfold Ct
  k_fill
  intro mean mg mb dp un gd cn cs a ccd cl outer A₀ base h₀ L m s Q E B F X N T hk hdp hun hret hexc
  refine wpAny_call ?_
  k_dflt cell_enter
  obtain ⟨hA0, hA1, e, hA2, hA3⟩ := id hA
  have hm9 : (e.a, tupOf [.str e.tk.kind e.t1, .bytes e.tk.worth.toArray e.t2, .int e.pos e.t3]) ∈ news := hE e (List.mem_of_getElem? hA2)
  rw [hA3] at hm9
  cases t with
  | atom A9 => 
    k_steps
    exact hret _ _ _ _ (by k_asm) (by k_asm) ⟨rfl, by rw [← hb]; rfl⟩
  | lit A9 => 
    k_steps
    exact hret _ _ _ _ (by k_asm) (by k_asm) ⟨rfl, by rw [← hb]; rfl⟩
  | sign d9 =>
  k_steps
  
  exact hret _ _ _ _ (by k_asm) (by k_asm) ⟨rfl, rfl⟩

set_option maxRecDepth 100000 in
set_option maxHeartbeats 4000000 in
theorem c_stands_end (w : World) (news : Led) (R dR P : Addr) (es : List TkE) (p n : Int) (k1 k2 k3 t2 t3 : Tok) (hE : ∀ e ∈ es, e.entry ∈ news) (hl : es.length ≤ 100) (hA : End es p) (c : UInt8) (tc : Tok) : Ct 3 w 252 ((R, instObj 290 dR) :: (dR, dictOf [⟨PyData.keyHash w.params (Str.ofString "tokens"), .str (Str.ofString "tokens") k1, .ref P⟩, ⟨PyData.keyHash w.params (Str.ofString "at"), .str (Str.ofString "at") k2, .int (p) t2⟩, ⟨PyData.keyHash w.params (Str.ofString "length"), .str (Str.ofString "length") k3, .int n t3⟩] 3) :: (P, LCg.lst (refs es)) :: news) [.ref R, .bytes #[c] tc] (fun r n9 => n9 = ((R, instObj 290 dR) :: (dR, dictOf [⟨PyData.keyHash w.params (Str.ofString "tokens"), .str (Str.ofString "tokens") k1, .ref P⟩, ⟨PyData.keyHash w.params (Str.ofString "at"), .str (Str.ofString "at") k2, .int (p) t2⟩, ⟨PyData.keyHash w.params (Str.ofString "length"), .str (Str.ofString "length") k3, .int n t3⟩] 3) :: (P, LCg.lst (refs es)) :: news) ∧ r = .bool false) (fun _ _ => False) := by
  unfold Ct
  k_fill
  intro mean mg mb dp un gd cn cs a ccd cl outer A₀ base h₀ L m s Q E B F X N T hk hdp hun hret hexc
  refine wpAny_call ?_
  k_dflt cell_enter
  k_steps
  exact hret _ _ _ _ (by k_asm) (by k_asm) ⟨rfl, rfl⟩
end
section
open PySem PySem.W PyProof.Rows
set_option maxRecDepth 100000 in
set_option maxHeartbeats 4000000 in
theorem c_take (w : World) (news : Led) (R dR P : Addr) (es : List TkE) (p n : Int) (k1 k2 k3 t2 t3 : Tok) (hE : ∀ e ∈ es, e.entry ∈ news) (hl : es.length ≤ 100) (t : Tk) (hA : At es p t) (hs1 : R ≠ dR) (hs2 : P ≠ dR) (hs3 : ∀ p ∈ news, p.1 ≠ dR) : Ct 1 w 259 ((R, instObj 290 dR) :: (dR, dictOf [⟨PyData.keyHash w.params (Str.ofString "tokens"), .str (Str.ofString "tokens") k1, .ref P⟩, ⟨PyData.keyHash w.params (Str.ofString "at"), .str (Str.ofString "at") k2, .int (p) t2⟩, ⟨PyData.keyHash w.params (Str.ofString "length"), .str (Str.ofString "length") k3, .int n t3⟩] 3) :: (P, LCg.lst (refs es)) :: news) [.ref R] (fun r n9 => ∃ e t9, e ∈ es ∧ e.tk = t ∧ (e.a, tupOf [.str t.kind e.t1, .bytes t.worth.toArray e.t2, .int e.pos e.t3]) ∈ news ∧ n9 = ((R, instObj 290 dR) :: (dR, dictOf [⟨PyData.keyHash w.params (Str.ofString "tokens"), .str (Str.ofString "tokens") k1, .ref P⟩, ⟨PyData.keyHash w.params (Str.ofString "at"), .str (Str.ofString "at") k2, .int (p + 1) t9⟩, ⟨PyData.keyHash w.params (Str.ofString "length"), .str (Str.ofString "length") k3, .int n t3⟩] 3) :: (P, LCg.lst (refs es)) :: news) ∧ r = .ref e.a) (fun _ _ => False) := by
  k_with_none
  w_top off
  (k_with "compareOp In int bytes" => (refine in_int_bytes (by assumption) (by assumption) ?_))
  (k_with "subscriptTail Name Slice bytes ref" => (k_here; (with_reducible show wpAny _ _ (subscriptTail _ (Expr.Slice _ _ none _) (Value.bytes _ _) (Value.ref _)) _ _ _); k_dflt (refine' slice_b (s := ⟨_, _, _, _, _⟩) ?f ?n ?a ?b ?c ?_; (case f => k_asm); (case n => k_asm); (case a => omega); (case b => omega); (case c => omega)); intro _ _ _ F' N'))
  (k_with "subscriptTail" => (k_here; (with_reducible show wpAny _ _ (subscriptTail _ _ (Value.bytes _ _) (Value.int _ _)) _ _ _); (refine item_b (by omega) (by omega) (by omega) ?_); intro _ _ _ _))
  (k_with "compareOp Eq bytes bytes" => (first | refine eq_cut1 (k := 10) (by omega) (by omega) (by decide) ?_ | refine eq_cut1 (k := 34) (by omega) (by omega) (by decide) ?_ | refine eq_cut1 (k := 40) (by omega) (by omega) (by decide) ?_ | refine eq_cut1 (k := 91) (by omega) (by omega) (by decide) ?_ | refine eq_cut2 (k := 13) (by omega) (by omega) (by decide) (by omega) ?_))
  (k_with "compareOp In int ref" => (k_here; k_dflt (first | refine in_tup2 (News.isTup (by k_asm) (by k_mem)) ?_ | refine in_tup3 (tupK (by k_in) (by k_is)) ?_)))
  (k_with "ite" => (k_here; k_openite; first | (refine ite_pos (by (simp only [decide_eq_true_eq, Bool.and_eq_true, Bool.or_eq_true, Bool.not_eq_true', decide_eq_false_iff_not]; omega)) ?_; walk_say "PRUNED (own)") | (refine ite_neg (by (simp only [decide_eq_true_eq, Bool.and_eq_true, Bool.or_eq_true, Bool.not_eq_true', decide_eq_false_iff_not]; omega)) ?_; walk_say "PRUNED (own)")))
  (k_with "Unr" => (first | refine Unr.succ ?_ | refine Unr.zero ?_))
  (k_with "own k_all" => (first | exact ne_below (by assumption) | exact ne_allLt (by assumption) | exact ne_allLt2 (by assumption)))
  (k_with "own size_fits" => (((try simp only [List.size_toArray, PySem.sizeLine_eq]); omega)))
  (k_with "exec While Compare cons nil" => (k_here; refine Hold.mk ?_))
  (k_with "exec While BoolOp cons nil" => (k_here; refine Hold.mk ?_))
  (k_with "exec While Constant cons nil" => (k_here; refine Hold.mk ?_))
  (k_with "exec While UnaryOp cons nil" => (k_here; refine Hold.mk ?_))
  (k_with "KswEnd" => (refine Hold.mk ?_))
  (k_with "call builtin:len" => (k_here; (with_reducible show wpAny _ _ (call (Value.builtin "len") [Value.ref _]) _ _ _); k_dflt (refine' len_refs ?k1 ?k2 ?k3 ?_; (case k1 => k_asm); (case k2 => k_mem); (case k3 => omega)); intro _ _))
  (k_with "subscriptTail" => (k_here; (with_reducible show wpAny _ _ (subscriptTail _ _ (Value.ref _) (Value.int _ _)) _ _ _); k_dflt (refine' item_tupleT (News.isTup ?t ?m) ?a ?b ?c ?d ?_; (case t => k_asm); (case m => kst_mem); (case a => decide); (case b => decide); (case c => rfl); (case d => rfl))))
  (k_with "subscriptTail" => (k_here; (with_reducible show wpAny _ _ (subscriptTail _ _ (Value.ref _) (Value.int _ _)) _ _ _); k_dflt (refine' item_refs ?k1 ?k2 ?k3 ?k4 ?k5 ?k6 ?_; (case k1 => k_asm); (case k2 => k_mem); (case k3 => omega); (case k4 => omega); (case k5 => omega); (case k6 => assumption))))
  (k_with "call ref" => (k_here; (with_reducible show wpAny _ _ (call (Value.ref 238) _) _ _ _); k_dflt (refine' Ct.use (c_is_done_no _ _ _ _ _ _ _ _ _ _ _ _ _ ?hE ?hl _ ?hA) ?k1 ?k2 ?k3 ?k4 ?k5 ?kK ?kd ?ku ?_ ?ke; (case k1 => k_asm); (case k2 => k_asm); (case k3 => k_asm); (case k4 => first | k_asm | exact perm1 (by k_asm) | exact perm2 (by k_asm) | exact perm3 (by k_asm)); (case k5 => k_asm); (case hE => first | assumption | exact ent_mem0 | exact ent_tail ent_mem0 | exact ent_tail (ent_tail ent_mem0) | exact ent_tail (ent_tail (ent_tail ent_mem0)) | exact ent_tail (by assumption) | exact ent_tail (ent_tail (by assumption))); (case hl => first | assumption | omega); (case hA => first | assumption); (case kK => first | exact rfl | assumption); (case kd => ktr_room); (case ku => ktr_units); (case ke => (intro _ _ _ _ _ _ hF; exact hF.elim)); (intro r n h' tk' F' N' hR; (obtain ⟨hn9, hr9⟩ := hR; replace hn9 := hn9.symm; subst hn9 hr9); (try dsimp only); (try k_fold)))))
  (k_with "call ref" => (k_here; (with_reducible show wpAny _ _ (call (Value.ref 238) _) _ _ _); k_dflt (refine' Ct.use (c_is_done_end _ _ _ _ _ _ _ _ _ _ _ _ _ ?hE ?hl ?hA) ?k1 ?k2 ?k3 ?k4 ?k5 ?kK ?kd ?ku ?_ ?ke; (case k1 => k_asm); (case k2 => k_asm); (case k3 => k_asm); (case k4 => first | k_asm | exact perm1 (by k_asm) | exact perm2 (by k_asm) | exact perm3 (by k_asm)); (case k5 => k_asm); (case hE => first | assumption | exact ent_mem0 | exact ent_tail ent_mem0 | exact ent_tail (ent_tail ent_mem0) | exact ent_tail (ent_tail (ent_tail ent_mem0)) | exact ent_tail (by assumption) | exact ent_tail (ent_tail (by assumption))); (case hl => first | assumption | omega); (case hA => first | assumption); (case kK => first | exact rfl | assumption); (case kd => ktr_room); (case ku => ktr_units); (case ke => (intro _ _ _ _ _ _ hF; exact hF.elim)); (intro r n h' tk' F' N' hR; (obtain ⟨hn9, hr9⟩ := hR; replace hn9 := hn9.symm; subst hn9 hr9); (try dsimp only); (try k_fold)))))
  (k_with "call ref" => (k_here; (with_reducible show wpAny _ _ (call (Value.ref 245) _) _ _ _); k_dflt (refine' Ct.use (c_kind _ _ _ _ _ _ _ _ _ _ _ _ _ ?hE ?hl _ ?hA) ?k1 ?k2 ?k3 ?k4 ?k5 ?kK ?kd ?ku ?_ ?ke; (case k1 => k_asm); (case k2 => k_asm); (case k3 => k_asm); (case k4 => first | k_asm | exact perm1 (by k_asm) | exact perm2 (by k_asm) | exact perm3 (by k_asm)); (case k5 => k_asm); (case hE => first | assumption | exact ent_mem0 | exact ent_tail ent_mem0 | exact ent_tail (ent_tail ent_mem0) | exact ent_tail (ent_tail (ent_tail ent_mem0)) | exact ent_tail (by assumption) | exact ent_tail (ent_tail (by assumption))); (case hl => first | assumption | omega); (case hA => first | assumption); (case kK => first | exact rfl | assumption); (case kd => ktr_room); (case ku => ktr_units); (case ke => (intro _ _ _ _ _ _ hF; exact hF.elim)); (intro r n h' tk' F' N' hR; (obtain ⟨hn9, t9, hr9⟩ := hR; replace hn9 := hn9.symm; subst hn9 hr9; (try dsimp only [Tk.kind])); (try dsimp only); (try k_fold)))))
  (k_with "call ref" => (k_here; (with_reducible show wpAny _ _ (call (Value.ref 245) _) _ _ _); k_dflt (refine' Ct.use (c_kind_end _ _ _ _ _ _ _ _ _ _ _ _ _ ?hE ?hl ?hA) ?k1 ?k2 ?k3 ?k4 ?k5 ?kK ?kd ?ku ?_ ?ke; (case k1 => k_asm); (case k2 => k_asm); (case k3 => k_asm); (case k4 => first | k_asm | exact perm1 (by k_asm) | exact perm2 (by k_asm) | exact perm3 (by k_asm)); (case k5 => k_asm); (case hE => first | assumption | exact ent_mem0 | exact ent_tail ent_mem0 | exact ent_tail (ent_tail ent_mem0) | exact ent_tail (ent_tail (ent_tail ent_mem0)) | exact ent_tail (by assumption) | exact ent_tail (ent_tail (by assumption))); (case hl => first | assumption | omega); (case hA => first | assumption); (case kK => first | exact rfl | assumption); (case kd => ktr_room); (case ku => ktr_units); (case ke => (intro _ _ _ _ _ _ hF; exact hF.elim)); (intro r n h' tk' F' N' hR; (obtain ⟨hn9, t9, hr9⟩ := hR; replace hn9 := hn9.symm; subst hn9 hr9; (try dsimp only [Tk.kind])); (try dsimp only); (try k_fold)))))
  (k_with "call ref" => (k_here; (with_reducible show wpAny _ _ (call (Value.ref 252) _) _ _ _); k_dflt (refine' Ct.use (c_stands _ _ _ _ _ _ _ _ _ _ _ _ _ ?hE ?hl _ ?hA _ _ true ?hb) ?k1 ?k2 ?k3 ?k4 ?k5 ?kK ?kd ?ku ?_ ?ke; (case k1 => k_asm); (case k2 => k_asm); (case k3 => k_asm); (case k4 => first | k_asm | exact perm1 (by k_asm) | exact perm2 (by k_asm) | exact perm3 (by k_asm)); (case k5 => k_asm); (case hE => first | assumption | exact ent_mem0 | exact ent_tail ent_mem0 | exact ent_tail (ent_tail ent_mem0) | exact ent_tail (ent_tail (ent_tail ent_mem0)) | exact ent_tail (by assumption) | exact ent_tail (ent_tail (by assumption))); (case hl => first | assumption | omega); (case hA => first | assumption); (case hb => first | assumption | rfl); (case kK => first | exact rfl | assumption); (case kd => ktr_room); (case ku => ktr_units); (case ke => (intro _ _ _ _ _ _ hF; exact hF.elim)); (intro r n h' tk' F' N' hR; (obtain ⟨hn9, hr9⟩ := hR; replace hn9 := hn9.symm; subst hn9 hr9); (try dsimp only); (try k_fold)))))
  (k_with "call ref" => (k_here; (with_reducible show wpAny _ _ (call (Value.ref 252) _) _ _ _); k_dflt (refine' Ct.use (c_stands _ _ _ _ _ _ _ _ _ _ _ _ _ ?hE ?hl _ ?hA _ _ false ?hb) ?k1 ?k2 ?k3 ?k4 ?k5 ?kK ?kd ?ku ?_ ?ke; (case k1 => k_asm); (case k2 => k_asm); (case k3 => k_asm); (case k4 => first | k_asm | exact perm1 (by k_asm) | exact perm2 (by k_asm) | exact perm3 (by k_asm)); (case k5 => k_asm); (case hE => first | assumption | exact ent_mem0 | exact ent_tail ent_mem0 | exact ent_tail (ent_tail ent_mem0) | exact ent_tail (ent_tail (ent_tail ent_mem0)) | exact ent_tail (by assumption) | exact ent_tail (ent_tail (by assumption))); (case hl => first | assumption | omega); (case hA => first | assumption); (case hb => first | assumption | rfl); (case kK => first | exact rfl | assumption); (case kd => ktr_room); (case ku => ktr_units); (case ke => (intro _ _ _ _ _ _ hF; exact hF.elim)); (intro r n h' tk' F' N' hR; (obtain ⟨hn9, hr9⟩ := hR; replace hn9 := hn9.symm; subst hn9 hr9); (try dsimp only); (try k_fold)))))
  (k_with "call ref" => (k_here; (with_reducible show wpAny _ _ (call (Value.ref 252) _) _ _ _); k_dflt (refine' Ct.use (c_stands_end _ _ _ _ _ _ _ _ _ _ _ _ _ ?hE ?hl ?hA _ _) ?k1 ?k2 ?k3 ?k4 ?k5 ?kK ?kd ?ku ?_ ?ke; (case k1 => k_asm); (case k2 => k_asm); (case k3 => k_asm); (case k4 => first | k_asm | exact perm1 (by k_asm) | exact perm2 (by k_asm) | exact perm3 (by k_asm)); (case k5 => k_asm); (case hE => first | assumption | exact ent_mem0 | exact ent_tail ent_mem0 | exact ent_tail (ent_tail ent_mem0) | exact ent_tail (ent_tail (ent_tail ent_mem0)) | exact ent_tail (by assumption) | exact ent_tail (ent_tail (by assumption))); (case hl => first | assumption | omega); (case hA => first | assumption); (case kK => first | exact rfl | assumption); (case kd => ktr_room); (case ku => ktr_units); (case ke => (intro _ _ _ _ _ _ hF; exact hF.elim)); (intro r n h' tk' F' N' hR; (obtain ⟨hn9, hr9⟩ := hR; replace hn9 := hn9.symm; subst hn9 hr9); (try dsimp only); (try k_fold)))))
  (k_with "own k_all" => (assumption))
  unfold Ct
  k_fill
  intro mean mg mb dp un gd cn cs a ccd cl outer A₀ base h₀ L m s Q E B F X N T hk hdp hun hret hexc
  refine wpAny_call ?_
  k_dflt cell_enter
  obtain ⟨hA0, hA1, e, hA2, hA3⟩ := id hA
  have hm9 : (e.a, tupOf [.str e.tk.kind e.t1, .bytes e.tk.worth.toArray e.t2, .int e.pos e.t3]) ∈ news := hE e (List.mem_of_getElem? hA2)
  rw [hA3] at hm9
  k_steps
  exact hret _ _ _ _ (by k_asm) (by k_asm) ⟨e, _, List.mem_of_getElem? hA2, hA3, hm9, rfl, rfl⟩

set_option maxRecDepth 100000 in
set_option maxHeartbeats 4000000 in
theorem c_skip_yes (w : World) (news : Led) (R dR P : Addr) (es : List TkE) (p n : Int) (k1 k2 k3 t2 t3 : Tok) (hE : ∀ e ∈ es, e.entry ∈ news) (hl : es.length ≤ 100) (t : Tk) (hA : At es p t) (c : UInt8) (tc : Tok) (hb : t.isS c = true) (hs1 : R ≠ dR) (hs2 : P ≠ dR) (hs3 : ∀ p ∈ news, p.1 ≠ dR) : Ct 4 w 266 ((R, instObj 290 dR) :: (dR, dictOf [⟨PyData.keyHash w.params (Str.ofString "tokens"), .str (Str.ofString "tokens") k1, .ref P⟩, ⟨PyData.keyHash w.params (Str.ofString "at"), .str (Str.ofString "at") k2, .int (p) t2⟩, ⟨PyData.keyHash w.params (Str.ofString "length"), .str (Str.ofString "length") k3, .int n t3⟩] 3) :: (P, LCg.lst (refs es)) :: news) [.ref R, .bytes #[c] tc] (fun r n9 => ∃ t9, n9 = ((R, instObj 290 dR) :: (dR, dictOf [⟨PyData.keyHash w.params (Str.ofString "tokens"), .str (Str.ofString "tokens") k1, .ref P⟩, ⟨PyData.keyHash w.params (Str.ofString "at"), .str (Str.ofString "at") k2, .int (p + 1) t9⟩, ⟨PyData.keyHash w.params (Str.ofString "length"), .str (Str.ofString "length") k3, .int n t3⟩] 3) :: (P, LCg.lst (refs es)) :: news) ∧ r = .bool true) (fun _ _ => False) := by
  unfold Ct
  k_fill
  intro mean mg mb dp un gd cn cs a ccd cl outer A₀ base h₀ L m s Q E B F X N T hk hdp hun hret hexc
  refine wpAny_call ?_
  k_dflt cell_enter
  k_steps
  exact hret _ _ _ _ (by k_asm) (by k_asm) ⟨_, rfl, rfl⟩

set_option maxRecDepth 100000 in
set_option maxHeartbeats 4000000 in
theorem c_skip_no (w : World) (news : Led) (R dR P : Addr) (es : List TkE) (p n : Int) (k1 k2 k3 t2 t3 : Tok) (hE : ∀ e ∈ es, e.entry ∈ news) (hl : es.length ≤ 100) (t : Tk) (hA : At es p t) (c : UInt8) (tc : Tok) (hb : t.isS c = false) : Ct 4 w 266 ((R, instObj 290 dR) :: (dR, dictOf [⟨PyData.keyHash w.params (Str.ofString "tokens"), .str (Str.ofString "tokens") k1, .ref P⟩, ⟨PyData.keyHash w.params (Str.ofString "at"), .str (Str.ofString "at") k2, .int (p) t2⟩, ⟨PyData.keyHash w.params (Str.ofString "length"), .str (Str.ofString "length") k3, .int n t3⟩] 3) :: (P, LCg.lst (refs es)) :: news) [.ref R, .bytes #[c] tc] (fun r n9 => n9 = ((R, instObj 290 dR) :: (dR, dictOf [⟨PyData.keyHash w.params (Str.ofString "tokens"), .str (Str.ofString "tokens") k1, .ref P⟩, ⟨PyData.keyHash w.params (Str.ofString "at"), .str (Str.ofString "at") k2, .int (p) t2⟩, ⟨PyData.keyHash w.params (Str.ofString "length"), .str (Str.ofString "length") k3, .int n t3⟩] 3) :: (P, LCg.lst (refs es)) :: news) ∧ r = .bool false) (fun _ _ => False) := by
  unfold Ct
  k_fill
  intro mean mg mb dp un gd cn cs a ccd cl outer A₀ base h₀ L m s Q E B F X N T hk hdp hun hret hexc
  refine wpAny_call ?_
  k_dflt cell_enter
  k_steps
  exact hret _ _ _ _ (by k_asm) (by k_asm) ⟨rfl, rfl⟩

set_option maxRecDepth 100000 in
set_option maxHeartbeats 4000000 in
theorem c_skip_end (w : World) (news : Led) (R dR P : Addr) (es : List TkE) (p n : Int) (k1 k2 k3 t2 t3 : Tok) (hE : ∀ e ∈ es, e.entry ∈ news) (hl : es.length ≤ 100) (hA : End es p) (c : UInt8) (tc : Tok) : Ct 4 w 266 ((R, instObj 290 dR) :: (dR, dictOf [⟨PyData.keyHash w.params (Str.ofString "tokens"), .str (Str.ofString "tokens") k1, .ref P⟩, ⟨PyData.keyHash w.params (Str.ofString "at"), .str (Str.ofString "at") k2, .int (p) t2⟩, ⟨PyData.keyHash w.params (Str.ofString "length"), .str (Str.ofString "length") k3, .int n t3⟩] 3) :: (P, LCg.lst (refs es)) :: news) [.ref R, .bytes #[c] tc] (fun r n9 => n9 = ((R, instObj 290 dR) :: (dR, dictOf [⟨PyData.keyHash w.params (Str.ofString "tokens"), .str (Str.ofString "tokens") k1, .ref P⟩, ⟨PyData.keyHash w.params (Str.ofString "at"), .str (Str.ofString "at") k2, .int (p) t2⟩, ⟨PyData.keyHash w.params (Str.ofString "length"), .str (Str.ofString "length") k3, .int n t3⟩] 3) :: (P, LCg.lst (refs es)) :: news) ∧ r = .bool false) (fun _ _ => False) := by
  unfold Ct
  k_fill
  intro mean mg mb dp un gd cn cs a ccd cl outer A₀ base h₀ L m s Q E B F X N T hk hdp hun hret hexc
  refine wpAny_call ?_
  k_dflt cell_enter
  k_steps
  exact hret _ _ _ _ (by k_asm) (by k_asm) ⟨rfl, rfl⟩
end
section
open PySem PySem.W PyProof.Rows
set_option maxRecDepth 100000 in
set_option maxHeartbeats 4000000 in
theorem c_need (w : World) (news : Led) (R dR P : Addr) (es : List TkE) (p n : Int) (k1 k2 k3 t2 t3 : Tok) (hE : ∀ e ∈ es, e.entry ∈ news) (hl : es.length ≤ 100) (t : Tk) (hA : At es p t) (c : UInt8) (tc : Tok) (hb : t.isS c = true) (hs1 : R ≠ dR) (hs2 : P ≠ dR) (hs3 : ∀ p ∈ news, p.1 ≠ dR) : Ct 5 w 280 ((R, instObj 290 dR) :: (dR, dictOf [⟨PyData.keyHash w.params (Str.ofString "tokens"), .str (Str.ofString "tokens") k1, .ref P⟩, ⟨PyData.keyHash w.params (Str.ofString "at"), .str (Str.ofString "at") k2, .int (p) t2⟩, ⟨PyData.keyHash w.params (Str.ofString "length"), .str (Str.ofString "length") k3, .int n t3⟩] 3) :: (P, LCg.lst (refs es)) :: news) [.ref R, .bytes #[c] tc] (fun r n9 => ∃ t9, n9 = ((R, instObj 290 dR) :: (dR, dictOf [⟨PyData.keyHash w.params (Str.ofString "tokens"), .str (Str.ofString "tokens") k1, .ref P⟩, ⟨PyData.keyHash w.params (Str.ofString "at"), .str (Str.ofString "at") k2, .int (p + 1) t9⟩, ⟨PyData.keyHash w.params (Str.ofString "length"), .str (Str.ofString "length") k3, .int n t3⟩] 3) :: (P, LCg.lst (refs es)) :: news) ∧ r = .none) (fun _ _ => False) := by
  k_with_none
  w_top off
  (k_with "compareOp In int bytes" => (refine in_int_bytes (by assumption) (by assumption) ?_))
  (k_with "subscriptTail Name Slice bytes ref" => (k_here; (with_reducible show wpAny _ _ (subscriptTail _ (Expr.Slice _ _ none _) (Value.bytes _ _) (Value.ref _)) _ _ _); k_dflt (refine' slice_b (s := ⟨_, _, _, _, _⟩) ?f ?n ?a ?b ?c ?_; (case f => k_asm); (case n => k_asm); (case a => omega); (case b => omega); (case c => omega)); intro _ _ _ F' N'))
  (k_with "subscriptTail" => (k_here; (with_reducible show wpAny _ _ (subscriptTail _ _ (Value.bytes _ _) (Value.int _ _)) _ _ _); (refine item_b (by omega) (by omega) (by omega) ?_); intro _ _ _ _))
  (k_with "compareOp Eq bytes bytes" => (first | refine eq_cut1 (k := 10) (by omega) (by omega) (by decide) ?_ | refine eq_cut1 (k := 34) (by omega) (by omega) (by decide) ?_ | refine eq_cut1 (k := 40) (by omega) (by omega) (by decide) ?_ | refine eq_cut1 (k := 91) (by omega) (by omega) (by decide) ?_ | refine eq_cut2 (k := 13) (by omega) (by omega) (by decide) (by omega) ?_))
  (k_with "compareOp In int ref" => (k_here; k_dflt (first | refine in_tup2 (News.isTup (by k_asm) (by k_mem)) ?_ | refine in_tup3 (tupK (by k_in) (by k_is)) ?_)))
  (k_with "ite" => (k_here; k_openite; first | (refine ite_pos (by (simp only [decide_eq_true_eq, Bool.and_eq_true, Bool.or_eq_true, Bool.not_eq_true', decide_eq_false_iff_not]; omega)) ?_; walk_say "PRUNED (own)") | (refine ite_neg (by (simp only [decide_eq_true_eq, Bool.and_eq_true, Bool.or_eq_true, Bool.not_eq_true', decide_eq_false_iff_not]; omega)) ?_; walk_say "PRUNED (own)")))
  (k_with "Unr" => (first | refine Unr.succ ?_ | refine Unr.zero ?_))
  (k_with "own k_all" => (first | exact ne_below (by assumption) | exact ne_allLt (by assumption) | exact ne_allLt2 (by assumption)))
  (k_with "own size_fits" => (((try simp only [List.size_toArray, PySem.sizeLine_eq]); omega)))
  (k_with "exec While Compare cons nil" => (k_here; refine Hold.mk ?_))
  (k_with "exec While BoolOp cons nil" => (k_here; refine Hold.mk ?_))
  (k_with "exec While Constant cons nil" => (k_here; refine Hold.mk ?_))
  (k_with "exec While UnaryOp cons nil" => (k_here; refine Hold.mk ?_))
  (k_with "KswEnd" => (refine Hold.mk ?_))
  (k_with "call builtin:len" => (k_here; (with_reducible show wpAny _ _ (call (Value.builtin "len") [Value.ref _]) _ _ _); k_dflt (refine' len_refs ?k1 ?k2 ?k3 ?_; (case k1 => k_asm); (case k2 => k_mem); (case k3 => omega)); intro _ _))
  (k_with "subscriptTail" => (k_here; (with_reducible show wpAny _ _ (subscriptTail _ _ (Value.ref _) (Value.int _ _)) _ _ _); k_dflt (refine' item_tupleT (News.isTup ?t ?m) ?a ?b ?c ?d ?_; (case t => k_asm); (case m => kst_mem); (case a => decide); (case b => decide); (case c => rfl); (case d => rfl))))
  (k_with "subscriptTail" => (k_here; (with_reducible show wpAny _ _ (subscriptTail _ _ (Value.ref _) (Value.int _ _)) _ _ _); k_dflt (refine' item_refs ?k1 ?k2 ?k3 ?k4 ?k5 ?k6 ?_; (case k1 => k_asm); (case k2 => k_mem); (case k3 => omega); (case k4 => omega); (case k5 => omega); (case k6 => assumption))))
  (k_with "call ref" => (k_here; (with_reducible show wpAny _ _ (call (Value.ref 238) _) _ _ _); k_dflt (refine' Ct.use (c_is_done_no _ _ _ _ _ _ _ _ _ _ _ _ _ ?hE ?hl _ ?hA) ?k1 ?k2 ?k3 ?k4 ?k5 ?kK ?kd ?ku ?_ ?ke; (case k1 => k_asm); (case k2 => k_asm); (case k3 => k_asm); (case k4 => first | k_asm | exact perm1 (by k_asm) | exact perm2 (by k_asm) | exact perm3 (by k_asm)); (case k5 => k_asm); (case hE => first | assumption | exact ent_mem0 | (refine ent_tail ?_; first | assumption | exact ent_mem0 | (refine ent_tail ?_; first | assumption | exact ent_mem0 | (refine ent_tail ?_; first | assumption | exact ent_mem0 | (refine ent_tail ?_; first | assumption | exact ent_mem0 | (refine ent_tail ?_; first | assumption | exact ent_mem0 | (refine ent_tail ?_; first | assumption | exact ent_mem0))))))); (case hl => first | assumption | omega); (case hA => first | assumption); (case kK => first | exact rfl | assumption); (case kd => ktr_room); (case ku => ktr_units); (case ke => (intro _ _ _ _ _ _ hF; exact hF.elim)); (intro r n h' tk' F' N' hR; (obtain ⟨hn9, hr9⟩ := hR; replace hn9 := hn9.symm; subst hn9 hr9); (try dsimp only); (try k_fold)))))
  (k_with "call ref" => (k_here; (with_reducible show wpAny _ _ (call (Value.ref 238) _) _ _ _); k_dflt (refine' Ct.use (c_is_done_end _ _ _ _ _ _ _ _ _ _ _ _ _ ?hE ?hl ?hA) ?k1 ?k2 ?k3 ?k4 ?k5 ?kK ?kd ?ku ?_ ?ke; (case k1 => k_asm); (case k2 => k_asm); (case k3 => k_asm); (case k4 => first | k_asm | exact perm1 (by k_asm) | exact perm2 (by k_asm) | exact perm3 (by k_asm)); (case k5 => k_asm); (case hE => first | assumption | exact ent_mem0 | (refine ent_tail ?_; first | assumption | exact ent_mem0 | (refine ent_tail ?_; first | assumption | exact ent_mem0 | (refine ent_tail ?_; first | assumption | exact ent_mem0 | (refine ent_tail ?_; first | assumption | exact ent_mem0 | (refine ent_tail ?_; first | assumption | exact ent_mem0 | (refine ent_tail ?_; first | assumption | exact ent_mem0))))))); (case hl => first | assumption | omega); (case hA => first | assumption); (case kK => first | exact rfl | assumption); (case kd => ktr_room); (case ku => ktr_units); (case ke => (intro _ _ _ _ _ _ hF; exact hF.elim)); (intro r n h' tk' F' N' hR; (obtain ⟨hn9, hr9⟩ := hR; replace hn9 := hn9.symm; subst hn9 hr9); (try dsimp only); (try k_fold)))))
  (k_with "call ref" => (k_here; (with_reducible show wpAny _ _ (call (Value.ref 245) _) _ _ _); k_dflt (refine' Ct.use (c_kind _ _ _ _ _ _ _ _ _ _ _ _ _ ?hE ?hl _ ?hA) ?k1 ?k2 ?k3 ?k4 ?k5 ?kK ?kd ?ku ?_ ?ke; (case k1 => k_asm); (case k2 => k_asm); (case k3 => k_asm); (case k4 => first | k_asm | exact perm1 (by k_asm) | exact perm2 (by k_asm) | exact perm3 (by k_asm)); (case k5 => k_asm); (case hE => first | assumption | exact ent_mem0 | (refine ent_tail ?_; first | assumption | exact ent_mem0 | (refine ent_tail ?_; first | assumption | exact ent_mem0 | (refine ent_tail ?_; first | assumption | exact ent_mem0 | (refine ent_tail ?_; first | assumption | exact ent_mem0 | (refine ent_tail ?_; first | assumption | exact ent_mem0 | (refine ent_tail ?_; first | assumption | exact ent_mem0))))))); (case hl => first | assumption | omega); (case hA => first | assumption); (case kK => first | exact rfl | assumption); (case kd => ktr_room); (case ku => ktr_units); (case ke => (intro _ _ _ _ _ _ hF; exact hF.elim)); (intro r n h' tk' F' N' hR; (obtain ⟨hn9, t9, hr9⟩ := hR; replace hn9 := hn9.symm; subst hn9 hr9; (try dsimp only [Tk.kind])); (try dsimp only); (try k_fold)))))
  (k_with "call ref" => (k_here; (with_reducible show wpAny _ _ (call (Value.ref 245) _) _ _ _); k_dflt (refine' Ct.use (c_kind_end _ _ _ _ _ _ _ _ _ _ _ _ _ ?hE ?hl ?hA) ?k1 ?k2 ?k3 ?k4 ?k5 ?kK ?kd ?ku ?_ ?ke; (case k1 => k_asm); (case k2 => k_asm); (case k3 => k_asm); (case k4 => first | k_asm | exact perm1 (by k_asm) | exact perm2 (by k_asm) | exact perm3 (by k_asm)); (case k5 => k_asm); (case hE => first | assumption | exact ent_mem0 | (refine ent_tail ?_; first | assumption | exact ent_mem0 | (refine ent_tail ?_; first | assumption | exact ent_mem0 | (refine ent_tail ?_; first | assumption | exact ent_mem0 | (refine ent_tail ?_; first | assumption | exact ent_mem0 | (refine ent_tail ?_; first | assumption | exact ent_mem0 | (refine ent_tail ?_; first | assumption | exact ent_mem0))))))); (case hl => first | assumption | omega); (case hA => first | assumption); (case kK => first | exact rfl | assumption); (case kd => ktr_room); (case ku => ktr_units); (case ke => (intro _ _ _ _ _ _ hF; exact hF.elim)); (intro r n h' tk' F' N' hR; (obtain ⟨hn9, t9, hr9⟩ := hR; replace hn9 := hn9.symm; subst hn9 hr9; (try dsimp only [Tk.kind])); (try dsimp only); (try k_fold)))))
  (k_with "call ref" => (k_here; (with_reducible show wpAny _ _ (call (Value.ref 252) _) _ _ _); k_dflt (refine' Ct.use (c_stands _ _ _ _ _ _ _ _ _ _ _ _ _ ?hE ?hl _ ?hA _ _ true ?hb) ?k1 ?k2 ?k3 ?k4 ?k5 ?kK ?kd ?ku ?_ ?ke; (case k1 => k_asm); (case k2 => k_asm); (case k3 => k_asm); (case k4 => first | k_asm | exact perm1 (by k_asm) | exact perm2 (by k_asm) | exact perm3 (by k_asm)); (case k5 => k_asm); (case hE => first | assumption | exact ent_mem0 | (refine ent_tail ?_; first | assumption | exact ent_mem0 | (refine ent_tail ?_; first | assumption | exact ent_mem0 | (refine ent_tail ?_; first | assumption | exact ent_mem0 | (refine ent_tail ?_; first | assumption | exact ent_mem0 | (refine ent_tail ?_; first | assumption | exact ent_mem0 | (refine ent_tail ?_; first | assumption | exact ent_mem0))))))); (case hl => first | assumption | omega); (case hA => first | assumption); (case hb => first | assumption | rfl); (case kK => first | exact rfl | assumption); (case kd => ktr_room); (case ku => ktr_units); (case ke => (intro _ _ _ _ _ _ hF; exact hF.elim)); (intro r n h' tk' F' N' hR; (obtain ⟨hn9, hr9⟩ := hR; replace hn9 := hn9.symm; subst hn9 hr9); (try dsimp only); (try k_fold)))))
  (k_with "call ref" => (k_here; (with_reducible show wpAny _ _ (call (Value.ref 252) _) _ _ _); k_dflt (refine' Ct.use (c_stands _ _ _ _ _ _ _ _ _ _ _ _ _ ?hE ?hl _ ?hA _ _ false ?hb) ?k1 ?k2 ?k3 ?k4 ?k5 ?kK ?kd ?ku ?_ ?ke; (case k1 => k_asm); (case k2 => k_asm); (case k3 => k_asm); (case k4 => first | k_asm | exact perm1 (by k_asm) | exact perm2 (by k_asm) | exact perm3 (by k_asm)); (case k5 => k_asm); (case hE => first | assumption | exact ent_mem0 | (refine ent_tail ?_; first | assumption | exact ent_mem0 | (refine ent_tail ?_; first | assumption | exact ent_mem0 | (refine ent_tail ?_; first | assumption | exact ent_mem0 | (refine ent_tail ?_; first | assumption | exact ent_mem0 | (refine ent_tail ?_; first | assumption | exact ent_mem0 | (refine ent_tail ?_; first | assumption | exact ent_mem0))))))); (case hl => first | assumption | omega); (case hA => first | assumption); (case hb => first | assumption | rfl); (case kK => first | exact rfl | assumption); (case kd => ktr_room); (case ku => ktr_units); (case ke => (intro _ _ _ _ _ _ hF; exact hF.elim)); (intro r n h' tk' F' N' hR; (obtain ⟨hn9, hr9⟩ := hR; replace hn9 := hn9.symm; subst hn9 hr9); (try dsimp only); (try k_fold)))))
  (k_with "call ref" => (k_here; (with_reducible show wpAny _ _ (call (Value.ref 252) _) _ _ _); k_dflt (refine' Ct.use (c_stands_end _ _ _ _ _ _ _ _ _ _ _ _ _ ?hE ?hl ?hA _ _) ?k1 ?k2 ?k3 ?k4 ?k5 ?kK ?kd ?ku ?_ ?ke; (case k1 => k_asm); (case k2 => k_asm); (case k3 => k_asm); (case k4 => first | k_asm | exact perm1 (by k_asm) | exact perm2 (by k_asm) | exact perm3 (by k_asm)); (case k5 => k_asm); (case hE => first | assumption | exact ent_mem0 | (refine ent_tail ?_; first | assumption | exact ent_mem0 | (refine ent_tail ?_; first | assumption | exact ent_mem0 | (refine ent_tail ?_; first | assumption | exact ent_mem0 | (refine ent_tail ?_; first | assumption | exact ent_mem0 | (refine ent_tail ?_; first | assumption | exact ent_mem0 | (refine ent_tail ?_; first | assumption | exact ent_mem0))))))); (case hl => first | assumption | omega); (case hA => first | assumption); (case kK => first | exact rfl | assumption); (case kd => ktr_room); (case ku => ktr_units); (case ke => (intro _ _ _ _ _ _ hF; exact hF.elim)); (intro r n h' tk' F' N' hR; (obtain ⟨hn9, hr9⟩ := hR; replace hn9 := hn9.symm; subst hn9 hr9); (try dsimp only); (try k_fold)))))
  (k_with "call ref" => (k_here; (with_reducible show wpAny _ _ (call (Value.ref 259) _) _ _ _); k_dflt (refine' Ct.use (c_take _ _ _ _ _ _ _ _ _ _ _ _ _ ?hE ?hl _ ?hA ?hs1 ?hs2 ?hs3) ?k1 ?k2 ?k3 ?k4 ?k5 ?kK ?kd ?ku ?_ ?ke; (case k1 => k_asm); (case k2 => k_asm); (case k3 => k_asm); (case k4 => first | k_asm | exact perm1 (by k_asm) | exact perm2 (by k_asm) | exact perm3 (by k_asm)); (case k5 => k_asm); (case hE => first | assumption | exact ent_mem0 | (refine ent_tail ?_; first | assumption | exact ent_mem0 | (refine ent_tail ?_; first | assumption | exact ent_mem0 | (refine ent_tail ?_; first | assumption | exact ent_mem0 | (refine ent_tail ?_; first | assumption | exact ent_mem0 | (refine ent_tail ?_; first | assumption | exact ent_mem0 | (refine ent_tail ?_; first | assumption | exact ent_mem0))))))); (case hl => first | assumption | omega); (case hA => first | assumption); (case hs1 => first | assumption | k_ne); (case hs2 => first | assumption | k_ne); (case hs3 => first | assumption | (refine apart_cons (by first | assumption | k_ne | (dsimp only; k_ne) | (dsimp only; omega)) ?_; first | assumption | (refine apart_cons (by first | assumption | k_ne | (dsimp only; k_ne) | (dsimp only; omega)) ?_; first | assumption | (refine apart_cons (by first | assumption | k_ne | (dsimp only; k_ne) | (dsimp only; omega)) ?_; first | assumption | (refine apart_cons (by first | assumption | k_ne | (dsimp only; k_ne) | (dsimp only; omega)) ?_; first | assumption | (refine apart_cons (by first | assumption | k_ne | (dsimp only; k_ne) | (dsimp only; omega)) ?_; first | assumption | (refine apart_cons (by first | assumption | k_ne | (dsimp only; k_ne) | (dsimp only; omega)) ?_; first | assumption))))))); (case kK => first | exact rfl | assumption); (case kd => ktr_room); (case ku => ktr_units); (case ke => (intro _ _ _ _ _ _ hF; exact hF.elim)); (intro r n h' tk' F' N' hR; (obtain ⟨e9, t9, he9, ht9, hm9, hn9, hr9⟩ := hR; replace hn9 := hn9.symm; subst hn9 hr9; dsimp only [Tk.kind, Tk.worth] at hm9); (try dsimp only); (try k_fold)))))
  (k_with "call ref" => (k_here; (with_reducible show wpAny _ _ (call (Value.ref 266) _) _ _ _); k_dflt (refine' Ct.use (c_skip_yes _ _ _ _ _ _ _ _ _ _ _ _ _ ?hE ?hl _ ?hA _ _ ?hb ?hs1 ?hs2 ?hs3) ?k1 ?k2 ?k3 ?k4 ?k5 ?kK ?kd ?ku ?_ ?ke; (case k1 => k_asm); (case k2 => k_asm); (case k3 => k_asm); (case k4 => first | k_asm | exact perm1 (by k_asm) | exact perm2 (by k_asm) | exact perm3 (by k_asm)); (case k5 => k_asm); (case hE => first | assumption | exact ent_mem0 | (refine ent_tail ?_; first | assumption | exact ent_mem0 | (refine ent_tail ?_; first | assumption | exact ent_mem0 | (refine ent_tail ?_; first | assumption | exact ent_mem0 | (refine ent_tail ?_; first | assumption | exact ent_mem0 | (refine ent_tail ?_; first | assumption | exact ent_mem0 | (refine ent_tail ?_; first | assumption | exact ent_mem0))))))); (case hl => first | assumption | omega); (case hA => first | assumption); (case hb => first | assumption | rfl); (case hs1 => first | assumption | k_ne); (case hs2 => first | assumption | k_ne); (case hs3 => first | assumption | (refine apart_cons (by first | assumption | k_ne | (dsimp only; k_ne) | (dsimp only; omega)) ?_; first | assumption | (refine apart_cons (by first | assumption | k_ne | (dsimp only; k_ne) | (dsimp only; omega)) ?_; first | assumption | (refine apart_cons (by first | assumption | k_ne | (dsimp only; k_ne) | (dsimp only; omega)) ?_; first | assumption | (refine apart_cons (by first | assumption | k_ne | (dsimp only; k_ne) | (dsimp only; omega)) ?_; first | assumption | (refine apart_cons (by first | assumption | k_ne | (dsimp only; k_ne) | (dsimp only; omega)) ?_; first | assumption | (refine apart_cons (by first | assumption | k_ne | (dsimp only; k_ne) | (dsimp only; omega)) ?_; first | assumption))))))); (case kK => first | exact rfl | assumption); (case kd => ktr_room); (case ku => ktr_units); (case ke => (intro _ _ _ _ _ _ hF; exact hF.elim)); (intro r n h' tk' F' N' hR; (obtain ⟨t9, hn9, hr9⟩ := hR; replace hn9 := hn9.symm; subst hn9 hr9); (try dsimp only); (try k_fold)))))
  (k_with "call ref" => (k_here; (with_reducible show wpAny _ _ (call (Value.ref 266) _) _ _ _); k_dflt (refine' Ct.use (c_skip_no _ _ _ _ _ _ _ _ _ _ _ _ _ ?hE ?hl _ ?hA _ _ ?hb) ?k1 ?k2 ?k3 ?k4 ?k5 ?kK ?kd ?ku ?_ ?ke; (case k1 => k_asm); (case k2 => k_asm); (case k3 => k_asm); (case k4 => first | k_asm | exact perm1 (by k_asm) | exact perm2 (by k_asm) | exact perm3 (by k_asm)); (case k5 => k_asm); (case hE => first | assumption | exact ent_mem0 | (refine ent_tail ?_; first | assumption | exact ent_mem0 | (refine ent_tail ?_; first | assumption | exact ent_mem0 | (refine ent_tail ?_; first | assumption | exact ent_mem0 | (refine ent_tail ?_; first | assumption | exact ent_mem0 | (refine ent_tail ?_; first | assumption | exact ent_mem0 | (refine ent_tail ?_; first | assumption | exact ent_mem0))))))); (case hl => first | assumption | omega); (case hA => first | assumption); (case hb => first | assumption | rfl); (case kK => first | exact rfl | assumption); (case kd => ktr_room); (case ku => ktr_units); (case ke => (intro _ _ _ _ _ _ hF; exact hF.elim)); (intro r n h' tk' F' N' hR; (obtain ⟨hn9, hr9⟩ := hR; replace hn9 := hn9.symm; subst hn9 hr9); (try dsimp only); (try k_fold)))))
  (k_with "call ref" => (k_here; (with_reducible show wpAny _ _ (call (Value.ref 266) _) _ _ _); k_dflt (refine' Ct.use (c_skip_end _ _ _ _ _ _ _ _ _ _ _ _ _ ?hE ?hl ?hA _ _) ?k1 ?k2 ?k3 ?k4 ?k5 ?kK ?kd ?ku ?_ ?ke; (case k1 => k_asm); (case k2 => k_asm); (case k3 => k_asm); (case k4 => first | k_asm | exact perm1 (by k_asm) | exact perm2 (by k_asm) | exact perm3 (by k_asm)); (case k5 => k_asm); (case hE => first | assumption | exact ent_mem0 | (refine ent_tail ?_; first | assumption | exact ent_mem0 | (refine ent_tail ?_; first | assumption | exact ent_mem0 | (refine ent_tail ?_; first | assumption | exact ent_mem0 | (refine ent_tail ?_; first | assumption | exact ent_mem0 | (refine ent_tail ?_; first | assumption | exact ent_mem0 | (refine ent_tail ?_; first | assumption | exact ent_mem0))))))); (case hl => first | assumption | omega); (case hA => first | assumption); (case kK => first | exact rfl | assumption); (case kd => ktr_room); (case ku => ktr_units); (case ke => (intro _ _ _ _ _ _ hF; exact hF.elim)); (intro r n h' tk' F' N' hR; (obtain ⟨hn9, hr9⟩ := hR; replace hn9 := hn9.symm; subst hn9 hr9); (try dsimp only); (try k_fold)))))
  unfold Ct
  k_fill
  intro mean mg mb dp un gd cn cs a ccd cl outer A₀ base h₀ L m s Q E B F X N T hk hdp hun hret hexc
  refine wpAny_call ?_
  k_dflt cell_enter
  k_steps
  exact hret _ _ _ _ (by k_asm) (by k_asm) ⟨_, rfl, rfl⟩

set_option maxRecDepth 100000 in
set_option maxHeartbeats 4000000 in
theorem c_words (w : World) (news : Led) (R dR P : Addr) (es : List TkE) (p n : Int) (k1 k2 k3 t2 t3 : Tok) (hE : ∀ e ∈ es, e.entry ∈ news) (hl : es.length ≤ 100) (A : List UInt8) (hA : At es p (.atom A)) (hB : At es (p + 1) (.sign 64)) (hs1 : R ≠ dR) (hs2 : P ≠ dR) (hs3 : ∀ p ∈ news, p.1 ≠ dR) : Ct 4 w 287 ((R, instObj 290 dR) :: (dR, dictOf [⟨PyData.keyHash w.params (Str.ofString "tokens"), .str (Str.ofString "tokens") k1, .ref P⟩, ⟨PyData.keyHash w.params (Str.ofString "at"), .str (Str.ofString "at") k2, .int (p) t2⟩, ⟨PyData.keyHash w.params (Str.ofString "length"), .str (Str.ofString "length") k3, .int n t3⟩] 3) :: (P, LCg.lst (refs es)) :: news) [.ref R] (fun r n9 => ∃ W, ∃ e : TkE, ∃ t9 k9, (e.a, tupOf [.str (Tk.atom A).kind e.t1, .bytes (Tk.atom A).worth.toArray e.t2, .int e.pos e.t3]) ∈ news ∧ n9 = ((R, instObj 290 dR) :: (dR, dictOf [⟨PyData.keyHash w.params (Str.ofString "tokens"), .str (Str.ofString "tokens") k1, .ref P⟩, ⟨PyData.keyHash w.params (Str.ofString "at"), .str (Str.ofString "at") k2, .int (p + 1) t9⟩, ⟨PyData.keyHash w.params (Str.ofString "length"), .str (Str.ofString "length") k3, .int n t3⟩] 3) :: (P, LCg.lst (refs es)) :: (W, listOf #[.ref e.a] k9) :: news) ∧ r = .ref W ∧ (@LT.lt Nat _ R W ∧ @LT.lt Nat _ dR W ∧ @LT.lt Nat _ P W ∧ AllLt W news)) (fun _ _ => False) := by
  unfold Ct
  k_fill
  intro mean mg mb dp un gd cn cs a ccd cl outer A₀ base h₀ L m s Q E B F X N T hk hdp hun hret hexc
  refine wpAny_call ?_
  k_dflt cell_enter
  k_steps
  refine Hold.of ?_
  refine While_unr 1 ?_
  k_steps
  rename R < _ ∧ dR < _ ∧ P < _ ∧ AllLt _ news => l8
  rename (_, tupOf _) ∈ _ => hm8
  replace hm8 := tup_tail hm8
  exact hret _ _ _ _ (by k_asm) (by k_asm) ⟨_, _, _, _, hm8, rfl, rfl, l8⟩
end
section
open PySem PySem.W PyProof.Rows
set_option maxRecDepth 100000 in
set_option maxHeartbeats 4000000 in
theorem c_domain_lit (w : World) (news : Led) (R dR P : Addr) (es : List TkE) (p n : Int) (k1 k2 k3 t2 t3 : Tok) (hE : ∀ e ∈ es, e.entry ∈ news) (hl : es.length ≤ 100) (inner : List UInt8) (hA : At es p (.lit inner)) (hi : inner.length ≤ 100) (hs1 : R ≠ dR) (hs2 : P ≠ dR) (hs3 : ∀ p ∈ news, p.1 ≠ dR) : Ct 6 w 308 ((R, instObj 290 dR) :: (dR, dictOf [⟨PyData.keyHash w.params (Str.ofString "tokens"), .str (Str.ofString "tokens") k1, .ref P⟩, ⟨PyData.keyHash w.params (Str.ofString "at"), .str (Str.ofString "at") k2, .int (p) t2⟩, ⟨PyData.keyHash w.params (Str.ofString "length"), .str (Str.ofString "length") k3, .int n t3⟩] 3) :: (P, LCg.lst (refs es)) :: news) [.ref R] (fun r n9 => ∃ t9 t8, n9 = ((R, instObj 290 dR) :: (dR, dictOf [⟨PyData.keyHash w.params (Str.ofString "tokens"), .str (Str.ofString "tokens") k1, .ref P⟩, ⟨PyData.keyHash w.params (Str.ofString "at"), .str (Str.ofString "at") k2, .int (p + 1) t9⟩, ⟨PyData.keyHash w.params (Str.ofString "length"), .str (Str.ofString "length") k3, .int n t3⟩] 3) :: (P, LCg.lst (refs es)) :: news) ∧ r = .str (Str.ofString "[" ++ strOf inner ++ Str.ofString "]") t8) (fun _ _ => False) := by
  k_with_none
  w_top off
  (k_with "compareOp In int bytes" => (refine in_int_bytes (by assumption) (by assumption) ?_))
  (k_with "subscriptTail Name Slice bytes ref" => (k_here; (with_reducible show wpAny _ _ (subscriptTail _ (Expr.Slice _ _ none _) (Value.bytes _ _) (Value.ref _)) _ _ _); k_dflt (refine' slice_b (s := ⟨_, _, _, _, _⟩) ?f ?n ?a ?b ?c ?_; (case f => k_asm); (case n => k_asm); (case a => omega); (case b => omega); (case c => omega)); intro _ _ _ F' N'))
  (k_with "subscriptTail" => (k_here; (with_reducible show wpAny _ _ (subscriptTail _ _ (Value.bytes _ _) (Value.int _ _)) _ _ _); (refine item_b (by omega) (by omega) (by omega) ?_); intro _ _ _ _))
  (k_with "compareOp Eq bytes bytes" => (first | refine eq_cut1 (k := 10) (by omega) (by omega) (by decide) ?_ | refine eq_cut1 (k := 34) (by omega) (by omega) (by decide) ?_ | refine eq_cut1 (k := 40) (by omega) (by omega) (by decide) ?_ | refine eq_cut1 (k := 91) (by omega) (by omega) (by decide) ?_ | refine eq_cut2 (k := 13) (by omega) (by omega) (by decide) (by omega) ?_))
  (k_with "compareOp In int ref" => (k_here; k_dflt (first | refine in_tup2 (News.isTup (by k_asm) (by k_mem)) ?_ | refine in_tup3 (tupK (by k_in) (by k_is)) ?_)))
  (k_with "ite" => (k_here; k_openite; first | (refine ite_pos (by (simp only [decide_eq_true_eq, Bool.and_eq_true, Bool.or_eq_true, Bool.not_eq_true', decide_eq_false_iff_not]; omega)) ?_; walk_say "PRUNED (own)") | (refine ite_neg (by (simp only [decide_eq_true_eq, Bool.and_eq_true, Bool.or_eq_true, Bool.not_eq_true', decide_eq_false_iff_not]; omega)) ?_; walk_say "PRUNED (own)")))
  (k_with "Unr" => (first | refine Unr.succ ?_ | refine Unr.zero ?_))
  (k_with "own k_all" => (first | exact ne_below (by assumption) | exact ne_allLt (by assumption) | exact ne_allLt2 (by assumption)))
  (k_with "own size_fits" => (((try simp only [List.size_toArray, PySem.sizeLine_eq]); omega)))
  (k_with "exec While Compare cons nil" => (k_here; refine Hold.mk ?_))
  (k_with "exec While BoolOp cons nil" => (k_here; refine Hold.mk ?_))
  (k_with "exec While Constant cons nil" => (k_here; refine Hold.mk ?_))
  (k_with "exec While UnaryOp cons nil" => (k_here; refine Hold.mk ?_))
  (k_with "KswEnd" => (refine Hold.mk ?_))
  (k_with "call builtin:str.join" => (refine Hold.mk ?_))
  (k_with "call builtin:len" => (k_here; (with_reducible show wpAny _ _ (call (Value.builtin "len") [Value.ref _]) _ _ _); k_dflt (refine' len_refs ?k1 ?k2 ?k3 ?_; (case k1 => k_asm); (case k2 => k_mem); (case k3 => omega)); intro _ _))
  (k_with "subscriptTail" => (k_here; (with_reducible show wpAny _ _ (subscriptTail _ _ (Value.ref _) (Value.int _ _)) _ _ _); k_dflt (refine' item_tupleT (News.isTup ?t ?m) ?a ?b ?c ?d ?_; (case t => k_asm); (case m => kst_mem); (case a => decide); (case b => decide); (case c => rfl); (case d => rfl))))
  (k_with "call ref" => (k_here; (with_reducible show wpAny _ _ (call (Value.ref 238) _) _ _ _); k_dflt (refine' Ct.use (c_is_done_no _ _ _ _ _ _ _ _ _ _ _ _ _ ?hE ?hl _ ?hA) ?k1 ?k2 ?k3 ?k4 ?k5 ?kK ?kd ?ku ?_ ?ke; (case k1 => k_asm); (case k2 => k_asm); (case k3 => k_asm); (case k4 => first | k_asm | exact perm1 (by k_asm) | exact perm2 (by k_asm) | exact perm3 (by k_asm)); (case k5 => k_asm); (case hE => first | assumption | exact ent_mem0 | exact ent_tail ent_mem0 | exact ent_tail (ent_tail ent_mem0) | exact ent_tail (ent_tail (ent_tail ent_mem0)) | exact ent_tail (by assumption) | exact ent_tail (ent_tail (by assumption))); (case hl => first | assumption | omega); (case hA => first | assumption); (case kK => first | exact rfl | assumption); (case kd => ktr_room); (case ku => ktr_units); (case ke => (intro _ _ _ _ _ _ hF; exact hF.elim)); (intro r n h' tk' F' N' hR; (obtain ⟨hn9, hr9⟩ := hR; replace hn9 := hn9.symm; subst hn9 hr9); (try dsimp only); (try k_fold)))))
  (k_with "call ref" => (k_here; (with_reducible show wpAny _ _ (call (Value.ref 238) _) _ _ _); k_dflt (refine' Ct.use (c_is_done_end _ _ _ _ _ _ _ _ _ _ _ _ _ ?hE ?hl ?hA) ?k1 ?k2 ?k3 ?k4 ?k5 ?kK ?kd ?ku ?_ ?ke; (case k1 => k_asm); (case k2 => k_asm); (case k3 => k_asm); (case k4 => first | k_asm | exact perm1 (by k_asm) | exact perm2 (by k_asm) | exact perm3 (by k_asm)); (case k5 => k_asm); (case hE => first | assumption | exact ent_mem0 | exact ent_tail ent_mem0 | exact ent_tail (ent_tail ent_mem0) | exact ent_tail (ent_tail (ent_tail ent_mem0)) | exact ent_tail (by assumption) | exact ent_tail (ent_tail (by assumption))); (case hl => first | assumption | omega); (case hA => first | assumption); (case kK => first | exact rfl | assumption); (case kd => ktr_room); (case ku => ktr_units); (case ke => (intro _ _ _ _ _ _ hF; exact hF.elim)); (intro r n h' tk' F' N' hR; (obtain ⟨hn9, hr9⟩ := hR; replace hn9 := hn9.symm; subst hn9 hr9); (try dsimp only); (try k_fold)))))
  (k_with "call ref" => (k_here; (with_reducible show wpAny _ _ (call (Value.ref 245) _) _ _ _); k_dflt (refine' Ct.use (c_kind _ _ _ _ _ _ _ _ _ _ _ _ _ ?hE ?hl _ ?hA) ?k1 ?k2 ?k3 ?k4 ?k5 ?kK ?kd ?ku ?_ ?ke; (case k1 => k_asm); (case k2 => k_asm); (case k3 => k_asm); (case k4 => first | k_asm | exact perm1 (by k_asm) | exact perm2 (by k_asm) | exact perm3 (by k_asm)); (case k5 => k_asm); (case hE => first | assumption | exact ent_mem0 | exact ent_tail ent_mem0 | exact ent_tail (ent_tail ent_mem0) | exact ent_tail (ent_tail (ent_tail ent_mem0)) | exact ent_tail (by assumption) | exact ent_tail (ent_tail (by assumption))); (case hl => first | assumption | omega); (case hA => first | assumption); (case kK => first | exact rfl | assumption); (case kd => ktr_room); (case ku => ktr_units); (case ke => (intro _ _ _ _ _ _ hF; exact hF.elim)); (intro r n h' tk' F' N' hR; (obtain ⟨hn9, t9, hr9⟩ := hR; replace hn9 := hn9.symm; subst hn9 hr9; (try dsimp only [Tk.kind])); (try dsimp only); (try k_fold)))))
  (k_with "call ref" => (k_here; (with_reducible show wpAny _ _ (call (Value.ref 245) _) _ _ _); k_dflt (refine' Ct.use (c_kind_end _ _ _ _ _ _ _ _ _ _ _ _ _ ?hE ?hl ?hA) ?k1 ?k2 ?k3 ?k4 ?k5 ?kK ?kd ?ku ?_ ?ke; (case k1 => k_asm); (case k2 => k_asm); (case k3 => k_asm); (case k4 => first | k_asm | exact perm1 (by k_asm) | exact perm2 (by k_asm) | exact perm3 (by k_asm)); (case k5 => k_asm); (case hE => first | assumption | exact ent_mem0 | exact ent_tail ent_mem0 | exact ent_tail (ent_tail ent_mem0) | exact ent_tail (ent_tail (ent_tail ent_mem0)) | exact ent_tail (by assumption) | exact ent_tail (ent_tail (by assumption))); (case hl => first | assumption | omega); (case hA => first | assumption); (case kK => first | exact rfl | assumption); (case kd => ktr_room); (case ku => ktr_units); (case ke => (intro _ _ _ _ _ _ hF; exact hF.elim)); (intro r n h' tk' F' N' hR; (obtain ⟨hn9, t9, hr9⟩ := hR; replace hn9 := hn9.symm; subst hn9 hr9; (try dsimp only [Tk.kind])); (try dsimp only); (try k_fold)))))
  (k_with "call ref" => (k_here; (with_reducible show wpAny _ _ (call (Value.ref 252) _) _ _ _); k_dflt (refine' Ct.use (c_stands _ _ _ _ _ _ _ _ _ _ _ _ _ ?hE ?hl _ ?hA _ _ true ?hb) ?k1 ?k2 ?k3 ?k4 ?k5 ?kK ?kd ?ku ?_ ?ke; (case k1 => k_asm); (case k2 => k_asm); (case k3 => k_asm); (case k4 => first | k_asm | exact perm1 (by k_asm) | exact perm2 (by k_asm) | exact perm3 (by k_asm)); (case k5 => k_asm); (case hE => first | assumption | exact ent_mem0 | exact ent_tail ent_mem0 | exact ent_tail (ent_tail ent_mem0) | exact ent_tail (ent_tail (ent_tail ent_mem0)) | exact ent_tail (by assumption) | exact ent_tail (ent_tail (by assumption))); (case hl => first | assumption | omega); (case hA => first | assumption); (case hb => first | assumption | rfl); (case kK => first | exact rfl | assumption); (case kd => ktr_room); (case ku => ktr_units); (case ke => (intro _ _ _ _ _ _ hF; exact hF.elim)); (intro r n h' tk' F' N' hR; (obtain ⟨hn9, hr9⟩ := hR; replace hn9 := hn9.symm; subst hn9 hr9); (try dsimp only); (try k_fold)))))
  (k_with "call ref" => (k_here; (with_reducible show wpAny _ _ (call (Value.ref 252) _) _ _ _); k_dflt (refine' Ct.use (c_stands _ _ _ _ _ _ _ _ _ _ _ _ _ ?hE ?hl _ ?hA _ _ false ?hb) ?k1 ?k2 ?k3 ?k4 ?k5 ?kK ?kd ?ku ?_ ?ke; (case k1 => k_asm); (case k2 => k_asm); (case k3 => k_asm); (case k4 => first | k_asm | exact perm1 (by k_asm) | exact perm2 (by k_asm) | exact perm3 (by k_asm)); (case k5 => k_asm); (case hE => first | assumption | exact ent_mem0 | exact ent_tail ent_mem0 | exact ent_tail (ent_tail ent_mem0) | exact ent_tail (ent_tail (ent_tail ent_mem0)) | exact ent_tail (by assumption) | exact ent_tail (ent_tail (by assumption))); (case hl => first | assumption | omega); (case hA => first | assumption); (case hb => first | assumption | rfl); (case kK => first | exact rfl | assumption); (case kd => ktr_room); (case ku => ktr_units); (case ke => (intro _ _ _ _ _ _ hF; exact hF.elim)); (intro r n h' tk' F' N' hR; (obtain ⟨hn9, hr9⟩ := hR; replace hn9 := hn9.symm; subst hn9 hr9); (try dsimp only); (try k_fold)))))
  (k_with "call ref" => (k_here; (with_reducible show wpAny _ _ (call (Value.ref 252) _) _ _ _); k_dflt (refine' Ct.use (c_stands_end _ _ _ _ _ _ _ _ _ _ _ _ _ ?hE ?hl ?hA _ _) ?k1 ?k2 ?k3 ?k4 ?k5 ?kK ?kd ?ku ?_ ?ke; (case k1 => k_asm); (case k2 => k_asm); (case k3 => k_asm); (case k4 => first | k_asm | exact perm1 (by k_asm) | exact perm2 (by k_asm) | exact perm3 (by k_asm)); (case k5 => k_asm); (case hE => first | assumption | exact ent_mem0 | exact ent_tail ent_mem0 | exact ent_tail (ent_tail ent_mem0) | exact ent_tail (ent_tail (ent_tail ent_mem0)) | exact ent_tail (by assumption) | exact ent_tail (ent_tail (by assumption))); (case hl => first | assumption | omega); (case hA => first | assumption); (case kK => first | exact rfl | assumption); (case kd => ktr_room); (case ku => ktr_units); (case ke => (intro _ _ _ _ _ _ hF; exact hF.elim)); (intro r n h' tk' F' N' hR; (obtain ⟨hn9, hr9⟩ := hR; replace hn9 := hn9.symm; subst hn9 hr9); (try dsimp only); (try k_fold)))))
  (k_with "call ref" => (k_here; (with_reducible show wpAny _ _ (call (Value.ref 259) _) _ _ _); k_dflt (refine' Ct.use (c_take _ _ _ _ _ _ _ _ _ _ _ _ _ ?hE ?hl _ ?hA ?hs1 ?hs2 ?hs3) ?k1 ?k2 ?k3 ?k4 ?k5 ?kK ?kd ?ku ?_ ?ke; (case k1 => k_asm); (case k2 => k_asm); (case k3 => k_asm); (case k4 => first | k_asm | exact perm1 (by k_asm) | exact perm2 (by k_asm) | exact perm3 (by k_asm)); (case k5 => k_asm); (case hE => first | assumption | exact ent_mem0 | exact ent_tail ent_mem0 | exact ent_tail (ent_tail ent_mem0) | exact ent_tail (ent_tail (ent_tail ent_mem0)) | exact ent_tail (by assumption) | exact ent_tail (ent_tail (by assumption))); (case hl => first | assumption | omega); (case hA => first | assumption); (case hs1 => first | assumption | k_ne); (case hs2 => first | assumption | k_ne); (case hs3 => first | assumption | exact apart_cons (by first | assumption | k_ne | (dsimp only; omega)) (by assumption) | exact apart_cons (by first | assumption | k_ne | (dsimp only; omega)) (apart_cons (by first | assumption | k_ne | (dsimp only; omega)) (by assumption))); (case kK => first | exact rfl | assumption); (case kd => ktr_room); (case ku => ktr_units); (case ke => (intro _ _ _ _ _ _ hF; exact hF.elim)); (intro r n h' tk' F' N' hR; (obtain ⟨e9, t9, he9, ht9, hm9, hn9, hr9⟩ := hR; replace hn9 := hn9.symm; subst hn9 hr9; dsimp only [Tk.kind, Tk.worth] at hm9); (try dsimp only); (try k_fold)))))
  (k_with "call ref" => (k_here; (with_reducible show wpAny _ _ (call (Value.ref 266) _) _ _ _); k_dflt (refine' Ct.use (c_skip_yes _ _ _ _ _ _ _ _ _ _ _ _ _ ?hE ?hl _ ?hA _ _ ?hb ?hs1 ?hs2 ?hs3) ?k1 ?k2 ?k3 ?k4 ?k5 ?kK ?kd ?ku ?_ ?ke; (case k1 => k_asm); (case k2 => k_asm); (case k3 => k_asm); (case k4 => first | k_asm | exact perm1 (by k_asm) | exact perm2 (by k_asm) | exact perm3 (by k_asm)); (case k5 => k_asm); (case hE => first | assumption | exact ent_mem0 | exact ent_tail ent_mem0 | exact ent_tail (ent_tail ent_mem0) | exact ent_tail (ent_tail (ent_tail ent_mem0)) | exact ent_tail (by assumption) | exact ent_tail (ent_tail (by assumption))); (case hl => first | assumption | omega); (case hA => first | assumption); (case hb => first | assumption | rfl); (case hs1 => first | assumption | k_ne); (case hs2 => first | assumption | k_ne); (case hs3 => first | assumption | exact apart_cons (by first | assumption | k_ne | (dsimp only; omega)) (by assumption) | exact apart_cons (by first | assumption | k_ne | (dsimp only; omega)) (apart_cons (by first | assumption | k_ne | (dsimp only; omega)) (by assumption))); (case kK => first | exact rfl | assumption); (case kd => ktr_room); (case ku => ktr_units); (case ke => (intro _ _ _ _ _ _ hF; exact hF.elim)); (intro r n h' tk' F' N' hR; (obtain ⟨t9, hn9, hr9⟩ := hR; replace hn9 := hn9.symm; subst hn9 hr9); (try dsimp only); (try k_fold)))))
  (k_with "call ref" => (k_here; (with_reducible show wpAny _ _ (call (Value.ref 266) _) _ _ _); k_dflt (refine' Ct.use (c_skip_no _ _ _ _ _ _ _ _ _ _ _ _ _ ?hE ?hl _ ?hA _ _ ?hb) ?k1 ?k2 ?k3 ?k4 ?k5 ?kK ?kd ?ku ?_ ?ke; (case k1 => k_asm); (case k2 => k_asm); (case k3 => k_asm); (case k4 => first | k_asm | exact perm1 (by k_asm) | exact perm2 (by k_asm) | exact perm3 (by k_asm)); (case k5 => k_asm); (case hE => first | assumption | exact ent_mem0 | exact ent_tail ent_mem0 | exact ent_tail (ent_tail ent_mem0) | exact ent_tail (ent_tail (ent_tail ent_mem0)) | exact ent_tail (by assumption) | exact ent_tail (ent_tail (by assumption))); (case hl => first | assumption | omega); (case hA => first | assumption); (case hb => first | assumption | rfl); (case kK => first | exact rfl | assumption); (case kd => ktr_room); (case ku => ktr_units); (case ke => (intro _ _ _ _ _ _ hF; exact hF.elim)); (intro r n h' tk' F' N' hR; (obtain ⟨hn9, hr9⟩ := hR; replace hn9 := hn9.symm; subst hn9 hr9); (try dsimp only); (try k_fold)))))
  (k_with "call ref" => (k_here; (with_reducible show wpAny _ _ (call (Value.ref 266) _) _ _ _); k_dflt (refine' Ct.use (c_skip_end _ _ _ _ _ _ _ _ _ _ _ _ _ ?hE ?hl ?hA _ _) ?k1 ?k2 ?k3 ?k4 ?k5 ?kK ?kd ?ku ?_ ?ke; (case k1 => k_asm); (case k2 => k_asm); (case k3 => k_asm); (case k4 => first | k_asm | exact perm1 (by k_asm) | exact perm2 (by k_asm) | exact perm3 (by k_asm)); (case k5 => k_asm); (case hE => first | assumption | exact ent_mem0 | exact ent_tail ent_mem0 | exact ent_tail (ent_tail ent_mem0) | exact ent_tail (ent_tail (ent_tail ent_mem0)) | exact ent_tail (by assumption) | exact ent_tail (ent_tail (by assumption))); (case hl => first | assumption | omega); (case hA => first | assumption); (case kK => first | exact rfl | assumption); (case kd => ktr_room); (case ku => ktr_units); (case ke => (intro _ _ _ _ _ _ hF; exact hF.elim)); (intro r n h' tk' F' N' hR; (obtain ⟨hn9, hr9⟩ := hR; replace hn9 := hn9.symm; subst hn9 hr9); (try dsimp only); (try k_fold)))))
  (k_with "call ref" => (k_here; (with_reducible show wpAny _ _ (call (Value.ref 212) _) _ _ _); k_dflt (refine' Ct.use (c_sign_text _ _ _ _ (by omega)) ?k1 ?k2 ?k3 ?k4 ?k5 ?kK ?kd ?ku ?_ ?ke; (case k1 => k_asm); (case k2 => k_asm); (case k3 => k_asm); (case k4 => k_asm); (case k5 => k_asm); (case kK => first | exact rfl | assumption); (case kd => ktr_room); (case ku => ktr_units); (case ke => (intro _ _ _ _ _ _ hF; exact hF.elim)); (intro r n h' tk' F' N' hR; (obtain ⟨hn9, t9, hr9⟩ := hR; replace hn9 := hn9.symm; subst hn9 hr9); (try dsimp only); (try k_fold)))))
  (k_with "binaryOp Add str str" => (k_here; refine add_str ?_ ?z; (case z => (rw [PySem.sizeLine_eq]; simp only [strApp_len, strOf_length, br1, br2]; omega)); intro _ _))
  unfold Ct
  k_fill
  intro mean mg mb dp un gd cn cs a ccd cl outer A₀ base h₀ L m s Q E B F X N T hk hdp hun hret hexc
  refine wpAny_call ?_
  k_dflt cell_enter
  k_steps
  exact hret _ _ _ _ (by k_asm) (by k_asm) ⟨_, _, rfl, rfl⟩

set_option maxRecDepth 100000 in
set_option maxHeartbeats 4000000 in
theorem c_domain_dots (w : World) (news : Led) (R dR P : Addr) (es : List TkE) (p n : Int) (k1 k2 k3 t2 t3 : Tok) (hE : ∀ e ∈ es, e.entry ∈ news) (hl : es.length ≤ 100) (A : List UInt8) (r : List (List UInt8)) (hA : Dots es p (A :: r)) (q : Int) (hq : q = p + 2 * (r.length : Int) + 1) (hsz : ∀ B ∈ A :: r, B.length ≤ 100) (hrl : r.length ≤ 99) (hs1 : R ≠ dR) (hs2 : P ≠ dR) (hs3 : ∀ p ∈ news, p.1 ≠ dR) : Ct 6 w 308 ((R, instObj 290 dR) :: (dR, dictOf [⟨PyData.keyHash w.params (Str.ofString "tokens"), .str (Str.ofString "tokens") k1, .ref P⟩, ⟨PyData.keyHash w.params (Str.ofString "at"), .str (Str.ofString "at") k2, .int (p) t2⟩, ⟨PyData.keyHash w.params (Str.ofString "length"), .str (Str.ofString "length") k3, .int n t3⟩] 3) :: (P, LCg.lst (refs es)) :: news) [.ref R] (fun r9 n9 => ∃ t9 t8, n9 = ((R, instObj 290 dR) :: (dR, dictOf [⟨PyData.keyHash w.params (Str.ofString "tokens"), .str (Str.ofString "tokens") k1, .ref P⟩, ⟨PyData.keyHash w.params (Str.ofString "at"), .str (Str.ofString "at") k2, .int (q) t9⟩, ⟨PyData.keyHash w.params (Str.ofString "length"), .str (Str.ofString "length") k3, .int n t3⟩] 3) :: (P, LCg.lst (refs es)) :: news) ∧ r9 = .str (Txt.join (Str.ofString ".") ((A :: r).map strOf)) t8) (fun _ _ => False) := by
  unfold Ct
  k_fill
  intro mean mg mb dp un gd cn cs a ccd cl outer A₀ base h₀ L m s Q E B F X N T hk hdp hun hret hexc
  refine wpAny_call ?_
  k_dflt cell_enter
  have hA0 := hA.first
  k_steps
  refine Hold.of ?_
  (k_dflt (refine' ksw_while (σ := DoS) (fun c => ((R, instObj 290 dR) :: (dR, dictOf [⟨PyData.keyHash w.params (Str.ofString "tokens"), .str (Str.ofString "tokens") k1, .ref P⟩, ⟨PyData.keyHash w.params (Str.ofString "at"), .str (Str.ofString "at") k2, .int (c.a) c.t⟩, ⟨PyData.keyHash w.params (Str.ofString "length"), .str (Str.ofString "length") k3, .int n t3⟩] 3) :: (P, LCg.lst (refs es)) :: (_, listOf (strValues c.l).toArray c.n) :: news)) (fun _ => []) (fun _ => True) [] (fun c => c.ok es p (A :: r)) (fun c => c.todo.length) ⟨[], A :: r, [], 0, p, t2⟩ ?k1 ?k2 trivial ?k3 ⟨rfl, rfl, hA, (by simp), rfl⟩ ?_))
  case k1 => k_asm
  case k2 => exact perm1 (by k_asm)
  case k3 => kst_all
  rintro ⟨done, todo, l9, n9, a9, ta9⟩ u9 h9 tk9 _ hP9 F9 N9
  dsimp only [kstB] at F9 N9 hP9
  obtain ⟨hin9, hl9, hD9, ha9, hdl9⟩ := hP9
  dsimp only at hin9 hl9 hD9 ha9 hdl9
  have hlen9 := congrArg List.length hin9
  rw [List.length_append] at hlen9
  have hsv9 : (strValues l9).length = l9.length := by simp [strValues]
  simp only [List.length_cons] at hlen9
  cases todo with
  | nil => exact hD9.elim
  | cons A9 r9 =>
  have hA9 := hD9.first
  have hs9 := hsz A9 (by rw [hin9]; simp)
  cases r9 with
  | nil =>
    rcases hD9.2 with ⟨t8, hB9, hb9⟩ | hB9
    all_goals
      try k_unmd
      try k_fold
      k_steps
      refine Hold.of ?_
      rename News _ _ _ _ => nE
      simp only [List.push_toArray, strValues_snoc] at nE
      refine SC.join (News.isList nE (.tail _ (.tail _ (.tail _ (.head _))))) (texts := (A :: r).map strOf) (by rw [hin9]; simp [hl9]) (joinOk_dot (by intro y hy; obtain ⟨c, hc, rfl⟩ := List.mem_map.mp hy; rw [strOf_length]; exact hsz c hc) (by simp; omega)) ?_
      intro t7 k7
      try dsimp only
      k_steps
      obtain rfl : q = a9 + 1 := by (simp only [List.length_cons, List.length_nil] at hlen9; omega)
      exact hret _ _ _ _ (by k_asm) (drop3 (by k_asm)) ⟨_, _, rfl, rfl⟩
  | cons B9 r9 =>
    have hB9 := hD9.2.1
    have hD8 := hD9.2.2
    try k_unmd
    try k_fold
    k_steps
    refine Hold.of ?_
    rename News _ _ _ _ => nE
    simp only [List.push_toArray, strValues_snoc] at nE
    exact ksw_end (DoS.mk (done ++ [A9]) (B9 :: r9) (l9 ++ [(strOf A9, _)]) (n9 + 1) (a9 + 1 + 1) _) (by k_asm) nE (fun p hp => hp) trivial (fun p hp => nomatch hp) (by ksw_same) ⟨by rw [hin9]; simp, by simp [hl9], hD8, by (dsimp only; rw [ha9]; simp; omega), by simp [hdl9]⟩ (by simp)
end
section
open PySem PySem.W PyProof.Rows
set_option maxRecDepth 100000 in
set_option maxHeartbeats 4000000 in
theorem c_local_of (w : World) (news : Led) (R W ea : Addr) (A : List UInt8) (k9 : Nat) (t1 t2 t3 : Tok) (pos : Int) (hW : (W, listOf #[.ref ea] k9) ∈ news) (hm9 : (ea, tupOf [.str (Tk.atom A).kind t1, .bytes (Tk.atom A).worth.toArray t2, .int pos t3]) ∈ news) (hA : A.length ≤ 100) : Ct 4 w 301 news [.ref R, .ref W] (fun r n9 => ∃ t9, n9 = news ∧ r = .str (strOf A) t9) (fun _ _ => False) := by
  k_with_none
  w_top off
  (k_with "compareOp In int bytes" => (refine in_int_bytes (by assumption) (by assumption) ?_))
  (k_with "subscriptTail Name Slice bytes ref" => (k_here; (with_reducible show wpAny _ _ (subscriptTail _ (Expr.Slice _ _ none _) (Value.bytes _ _) (Value.ref _)) _ _ _); k_dflt (refine' slice_b (s := ⟨_, _, _, _, _⟩) ?f ?n ?a ?b ?c ?_; (case f => k_asm); (case n => k_asm); (case a => omega); (case b => omega); (case c => omega)); intro _ _ _ F' N'))
  (k_with "subscriptTail" => (k_here; (with_reducible show wpAny _ _ (subscriptTail _ _ (Value.bytes _ _) (Value.int _ _)) _ _ _); (refine item_b (by omega) (by omega) (by omega) ?_); intro _ _ _ _))
  (k_with "compareOp Eq bytes bytes" => (first | refine eq_cut1 (k := 10) (by omega) (by omega) (by decide) ?_ | refine eq_cut1 (k := 34) (by omega) (by omega) (by decide) ?_ | refine eq_cut1 (k := 40) (by omega) (by omega) (by decide) ?_ | refine eq_cut1 (k := 91) (by omega) (by omega) (by decide) ?_ | refine eq_cut2 (k := 13) (by omega) (by omega) (by decide) (by omega) ?_))
  (k_with "compareOp In int ref" => (k_here; k_dflt (first | refine in_tup2 (News.isTup (by k_asm) (by k_mem)) ?_ | refine in_tup3 (tupK (by k_in) (by k_is)) ?_)))
  (k_with "ite" => (k_here; k_openite; first | (refine ite_pos (by (simp only [decide_eq_true_eq, Bool.and_eq_true, Bool.or_eq_true, Bool.not_eq_true', decide_eq_false_iff_not]; omega)) ?_; walk_say "PRUNED (own)") | (refine ite_neg (by (simp only [decide_eq_true_eq, Bool.and_eq_true, Bool.or_eq_true, Bool.not_eq_true', decide_eq_false_iff_not]; omega)) ?_; walk_say "PRUNED (own)")))
  (k_with "Unr" => (first | refine Unr.succ ?_ | refine Unr.zero ?_))
  (k_with "own k_all" => (first | exact ne_below (by assumption) | exact ne_allLt (by assumption) | exact ne_allLt2 (by assumption)))
  (k_with "own size_fits" => (((try simp only [List.size_toArray, PySem.sizeLine_eq]); omega)))
  (k_with "exec While Compare cons nil" => (k_here; refine Hold.mk ?_))
  (k_with "exec While BoolOp cons nil" => (k_here; refine Hold.mk ?_))
  (k_with "exec While Constant cons nil" => (k_here; refine Hold.mk ?_))
  (k_with "exec While UnaryOp cons nil" => (k_here; refine Hold.mk ?_))
  (k_with "KswEnd" => (refine Hold.mk ?_))
  (k_with "getMethod bytes" => (first | refine method_join ?_ | refine method_split ?_))
  (k_with "call builtin:bytes.join" => (refine Hold.mk ?_))
  (k_with "call builtin:len" => (k_here; (with_reducible show wpAny _ _ (call (Value.builtin "len") [Value.ref _]) _ _ _); k_dflt (refine' len_refs ?k1 ?k2 ?k3 ?_; (case k1 => k_asm); (case k2 => k_mem); (case k3 => omega)); intro _ _))
  (k_with "subscriptTail" => (k_here; (with_reducible show wpAny _ _ (subscriptTail _ _ (Value.ref _) (Value.int _ _)) _ _ _); k_dflt (refine' item_tupleT (News.isTup ?t ?m) ?a ?b ?c ?d ?_; (case t => k_asm); (case m => kst_mem); (case a => decide); (case b => decide); (case c => rfl); (case d => rfl))))
  (k_with "call ref" => (k_here; (with_reducible show wpAny _ _ (call (Value.ref 238) _) _ _ _); k_dflt (refine' Ct.use (c_is_done_no _ _ _ _ _ _ _ _ _ _ _ _ _ ?hE ?hl _ ?hA) ?k1 ?k2 ?k3 ?k4 ?k5 ?kK ?kd ?ku ?_ ?ke; (case k1 => k_asm); (case k2 => k_asm); (case k3 => k_asm); (case k4 => first | k_asm | exact perm1 (by k_asm) | exact perm2 (by k_asm) | exact perm3 (by k_asm)); (case k5 => k_asm); (case hE => first | assumption | exact ent_mem0 | (refine ent_tail ?_; first | assumption | exact ent_mem0 | (refine ent_tail ?_; first | assumption | exact ent_mem0 | (refine ent_tail ?_; first | assumption | exact ent_mem0 | (refine ent_tail ?_; first | assumption | exact ent_mem0 | (refine ent_tail ?_; first | assumption | exact ent_mem0 | (refine ent_tail ?_; first | assumption | exact ent_mem0))))))); (case hl => first | assumption | omega); (case hA => first | assumption); (case kK => first | exact rfl | assumption); (case kd => ktr_room); (case ku => ktr_units); (case ke => (intro _ _ _ _ _ _ hF; exact hF.elim)); (intro r n h' tk' F' N' hR; (obtain ⟨hn9, hr9⟩ := hR; replace hn9 := hn9.symm; subst hn9 hr9); (try dsimp only); (try k_fold)))))
  (k_with "call ref" => (k_here; (with_reducible show wpAny _ _ (call (Value.ref 238) _) _ _ _); k_dflt (refine' Ct.use (c_is_done_end _ _ _ _ _ _ _ _ _ _ _ _ _ ?hE ?hl ?hA) ?k1 ?k2 ?k3 ?k4 ?k5 ?kK ?kd ?ku ?_ ?ke; (case k1 => k_asm); (case k2 => k_asm); (case k3 => k_asm); (case k4 => first | k_asm | exact perm1 (by k_asm) | exact perm2 (by k_asm) | exact perm3 (by k_asm)); (case k5 => k_asm); (case hE => first | assumption | exact ent_mem0 | (refine ent_tail ?_; first | assumption | exact ent_mem0 | (refine ent_tail ?_; first | assumption | exact ent_mem0 | (refine ent_tail ?_; first | assumption | exact ent_mem0 | (refine ent_tail ?_; first | assumption | exact ent_mem0 | (refine ent_tail ?_; first | assumption | exact ent_mem0 | (refine ent_tail ?_; first | assumption | exact ent_mem0))))))); (case hl => first | assumption | omega); (case hA => first | assumption); (case kK => first | exact rfl | assumption); (case kd => ktr_room); (case ku => ktr_units); (case ke => (intro _ _ _ _ _ _ hF; exact hF.elim)); (intro r n h' tk' F' N' hR; (obtain ⟨hn9, hr9⟩ := hR; replace hn9 := hn9.symm; subst hn9 hr9); (try dsimp only); (try k_fold)))))
  (k_with "call ref" => (k_here; (with_reducible show wpAny _ _ (call (Value.ref 245) _) _ _ _); k_dflt (refine' Ct.use (c_kind _ _ _ _ _ _ _ _ _ _ _ _ _ ?hE ?hl _ ?hA) ?k1 ?k2 ?k3 ?k4 ?k5 ?kK ?kd ?ku ?_ ?ke; (case k1 => k_asm); (case k2 => k_asm); (case k3 => k_asm); (case k4 => first | k_asm | exact perm1 (by k_asm) | exact perm2 (by k_asm) | exact perm3 (by k_asm)); (case k5 => k_asm); (case hE => first | assumption | exact ent_mem0 | (refine ent_tail ?_; first | assumption | exact ent_mem0 | (refine ent_tail ?_; first | assumption | exact ent_mem0 | (refine ent_tail ?_; first | assumption | exact ent_mem0 | (refine ent_tail ?_; first | assumption | exact ent_mem0 | (refine ent_tail ?_; first | assumption | exact ent_mem0 | (refine ent_tail ?_; first | assumption | exact ent_mem0))))))); (case hl => first | assumption | omega); (case hA => first | assumption); (case kK => first | exact rfl | assumption); (case kd => ktr_room); (case ku => ktr_units); (case ke => (intro _ _ _ _ _ _ hF; exact hF.elim)); (intro r n h' tk' F' N' hR; (obtain ⟨hn9, t9, hr9⟩ := hR; replace hn9 := hn9.symm; subst hn9 hr9; (try dsimp only [Tk.kind])); (try dsimp only); (try k_fold)))))
  (k_with "call ref" => (k_here; (with_reducible show wpAny _ _ (call (Value.ref 245) _) _ _ _); k_dflt (refine' Ct.use (c_kind_end _ _ _ _ _ _ _ _ _ _ _ _ _ ?hE ?hl ?hA) ?k1 ?k2 ?k3 ?k4 ?k5 ?kK ?kd ?ku ?_ ?ke; (case k1 => k_asm); (case k2 => k_asm); (case k3 => k_asm); (case k4 => first | k_asm | exact perm1 (by k_asm) | exact perm2 (by k_asm) | exact perm3 (by k_asm)); (case k5 => k_asm); (case hE => first | assumption | exact ent_mem0 | (refine ent_tail ?_; first | assumption | exact ent_mem0 | (refine ent_tail ?_; first | assumption | exact ent_mem0 | (refine ent_tail ?_; first | assumption | exact ent_mem0 | (refine ent_tail ?_; first | assumption | exact ent_mem0 | (refine ent_tail ?_; first | assumption | exact ent_mem0 | (refine ent_tail ?_; first | assumption | exact ent_mem0))))))); (case hl => first | assumption | omega); (case hA => first | assumption); (case kK => first | exact rfl | assumption); (case kd => ktr_room); (case ku => ktr_units); (case ke => (intro _ _ _ _ _ _ hF; exact hF.elim)); (intro r n h' tk' F' N' hR; (obtain ⟨hn9, t9, hr9⟩ := hR; replace hn9 := hn9.symm; subst hn9 hr9; (try dsimp only [Tk.kind])); (try dsimp only); (try k_fold)))))
  (k_with "call ref" => (k_here; (with_reducible show wpAny _ _ (call (Value.ref 252) _) _ _ _); k_dflt (refine' Ct.use (c_stands _ _ _ _ _ _ _ _ _ _ _ _ _ ?hE ?hl _ ?hA _ _ true ?hb) ?k1 ?k2 ?k3 ?k4 ?k5 ?kK ?kd ?ku ?_ ?ke; (case k1 => k_asm); (case k2 => k_asm); (case k3 => k_asm); (case k4 => first | k_asm | exact perm1 (by k_asm) | exact perm2 (by k_asm) | exact perm3 (by k_asm)); (case k5 => k_asm); (case hE => first | assumption | exact ent_mem0 | (refine ent_tail ?_; first | assumption | exact ent_mem0 | (refine ent_tail ?_; first | assumption | exact ent_mem0 | (refine ent_tail ?_; first | assumption | exact ent_mem0 | (refine ent_tail ?_; first | assumption | exact ent_mem0 | (refine ent_tail ?_; first | assumption | exact ent_mem0 | (refine ent_tail ?_; first | assumption | exact ent_mem0))))))); (case hl => first | assumption | omega); (case hA => first | assumption); (case hb => first | assumption | rfl); (case kK => first | exact rfl | assumption); (case kd => ktr_room); (case ku => ktr_units); (case ke => (intro _ _ _ _ _ _ hF; exact hF.elim)); (intro r n h' tk' F' N' hR; (obtain ⟨hn9, hr9⟩ := hR; replace hn9 := hn9.symm; subst hn9 hr9); (try dsimp only); (try k_fold)))))
  (k_with "call ref" => (k_here; (with_reducible show wpAny _ _ (call (Value.ref 252) _) _ _ _); k_dflt (refine' Ct.use (c_stands _ _ _ _ _ _ _ _ _ _ _ _ _ ?hE ?hl _ ?hA _ _ false ?hb) ?k1 ?k2 ?k3 ?k4 ?k5 ?kK ?kd ?ku ?_ ?ke; (case k1 => k_asm); (case k2 => k_asm); (case k3 => k_asm); (case k4 => first | k_asm | exact perm1 (by k_asm) | exact perm2 (by k_asm) | exact perm3 (by k_asm)); (case k5 => k_asm); (case hE => first | assumption | exact ent_mem0 | (refine ent_tail ?_; first | assumption | exact ent_mem0 | (refine ent_tail ?_; first | assumption | exact ent_mem0 | (refine ent_tail ?_; first | assumption | exact ent_mem0 | (refine ent_tail ?_; first | assumption | exact ent_mem0 | (refine ent_tail ?_; first | assumption | exact ent_mem0 | (refine ent_tail ?_; first | assumption | exact ent_mem0))))))); (case hl => first | assumption | omega); (case hA => first | assumption); (case hb => first | assumption | rfl); (case kK => first | exact rfl | assumption); (case kd => ktr_room); (case ku => ktr_units); (case ke => (intro _ _ _ _ _ _ hF; exact hF.elim)); (intro r n h' tk' F' N' hR; (obtain ⟨hn9, hr9⟩ := hR; replace hn9 := hn9.symm; subst hn9 hr9); (try dsimp only); (try k_fold)))))
  (k_with "call ref" => (k_here; (with_reducible show wpAny _ _ (call (Value.ref 252) _) _ _ _); k_dflt (refine' Ct.use (c_stands_end _ _ _ _ _ _ _ _ _ _ _ _ _ ?hE ?hl ?hA _ _) ?k1 ?k2 ?k3 ?k4 ?k5 ?kK ?kd ?ku ?_ ?ke; (case k1 => k_asm); (case k2 => k_asm); (case k3 => k_asm); (case k4 => first | k_asm | exact perm1 (by k_asm) | exact perm2 (by k_asm) | exact perm3 (by k_asm)); (case k5 => k_asm); (case hE => first | assumption | exact ent_mem0 | (refine ent_tail ?_; first | assumption | exact ent_mem0 | (refine ent_tail ?_; first | assumption | exact ent_mem0 | (refine ent_tail ?_; first | assumption | exact ent_mem0 | (refine ent_tail ?_; first | assumption | exact ent_mem0 | (refine ent_tail ?_; first | assumption | exact ent_mem0 | (refine ent_tail ?_; first | assumption | exact ent_mem0))))))); (case hl => first | assumption | omega); (case hA => first | assumption); (case kK => first | exact rfl | assumption); (case kd => ktr_room); (case ku => ktr_units); (case ke => (intro _ _ _ _ _ _ hF; exact hF.elim)); (intro r n h' tk' F' N' hR; (obtain ⟨hn9, hr9⟩ := hR; replace hn9 := hn9.symm; subst hn9 hr9); (try dsimp only); (try k_fold)))))
  (k_with "call ref" => (k_here; (with_reducible show wpAny _ _ (call (Value.ref 259) _) _ _ _); k_dflt (refine' Ct.use (c_take _ _ _ _ _ _ _ _ _ _ _ _ _ ?hE ?hl _ ?hA ?hs1 ?hs2 ?hs3) ?k1 ?k2 ?k3 ?k4 ?k5 ?kK ?kd ?ku ?_ ?ke; (case k1 => k_asm); (case k2 => k_asm); (case k3 => k_asm); (case k4 => first | k_asm | exact perm1 (by k_asm) | exact perm2 (by k_asm) | exact perm3 (by k_asm)); (case k5 => k_asm); (case hE => first | assumption | exact ent_mem0 | (refine ent_tail ?_; first | assumption | exact ent_mem0 | (refine ent_tail ?_; first | assumption | exact ent_mem0 | (refine ent_tail ?_; first | assumption | exact ent_mem0 | (refine ent_tail ?_; first | assumption | exact ent_mem0 | (refine ent_tail ?_; first | assumption | exact ent_mem0 | (refine ent_tail ?_; first | assumption | exact ent_mem0))))))); (case hl => first | assumption | omega); (case hA => first | assumption); (case hs1 => first | assumption | k_ne); (case hs2 => first | assumption | k_ne); (case hs3 => first | assumption | (refine apart_cons (by first | assumption | k_ne | (dsimp only; k_ne) | (dsimp only; omega)) ?_; first | assumption | (refine apart_cons (by first | assumption | k_ne | (dsimp only; k_ne) | (dsimp only; omega)) ?_; first | assumption | (refine apart_cons (by first | assumption | k_ne | (dsimp only; k_ne) | (dsimp only; omega)) ?_; first | assumption | (refine apart_cons (by first | assumption | k_ne | (dsimp only; k_ne) | (dsimp only; omega)) ?_; first | assumption | (refine apart_cons (by first | assumption | k_ne | (dsimp only; k_ne) | (dsimp only; omega)) ?_; first | assumption | (refine apart_cons (by first | assumption | k_ne | (dsimp only; k_ne) | (dsimp only; omega)) ?_; first | assumption))))))); (case kK => first | exact rfl | assumption); (case kd => ktr_room); (case ku => ktr_units); (case ke => (intro _ _ _ _ _ _ hF; exact hF.elim)); (intro r n h' tk' F' N' hR; (obtain ⟨e9, t9, he9, ht9, hm9, hn9, hr9⟩ := hR; replace hn9 := hn9.symm; subst hn9 hr9; dsimp only [Tk.kind, Tk.worth] at hm9); (try dsimp only); (try k_fold)))))
  (k_with "call ref" => (k_here; (with_reducible show wpAny _ _ (call (Value.ref 266) _) _ _ _); k_dflt (refine' Ct.use (c_skip_yes _ _ _ _ _ _ _ _ _ _ _ _ _ ?hE ?hl _ ?hA _ _ ?hb ?hs1 ?hs2 ?hs3) ?k1 ?k2 ?k3 ?k4 ?k5 ?kK ?kd ?ku ?_ ?ke; (case k1 => k_asm); (case k2 => k_asm); (case k3 => k_asm); (case k4 => first | k_asm | exact perm1 (by k_asm) | exact perm2 (by k_asm) | exact perm3 (by k_asm)); (case k5 => k_asm); (case hE => first | assumption | exact ent_mem0 | (refine ent_tail ?_; first | assumption | exact ent_mem0 | (refine ent_tail ?_; first | assumption | exact ent_mem0 | (refine ent_tail ?_; first | assumption | exact ent_mem0 | (refine ent_tail ?_; first | assumption | exact ent_mem0 | (refine ent_tail ?_; first | assumption | exact ent_mem0 | (refine ent_tail ?_; first | assumption | exact ent_mem0))))))); (case hl => first | assumption | omega); (case hA => first | assumption); (case hb => first | assumption | rfl); (case hs1 => first | assumption | k_ne); (case hs2 => first | assumption | k_ne); (case hs3 => first | assumption | (refine apart_cons (by first | assumption | k_ne | (dsimp only; k_ne) | (dsimp only; omega)) ?_; first | assumption | (refine apart_cons (by first | assumption | k_ne | (dsimp only; k_ne) | (dsimp only; omega)) ?_; first | assumption | (refine apart_cons (by first | assumption | k_ne | (dsimp only; k_ne) | (dsimp only; omega)) ?_; first | assumption | (refine apart_cons (by first | assumption | k_ne | (dsimp only; k_ne) | (dsimp only; omega)) ?_; first | assumption | (refine apart_cons (by first | assumption | k_ne | (dsimp only; k_ne) | (dsimp only; omega)) ?_; first | assumption | (refine apart_cons (by first | assumption | k_ne | (dsimp only; k_ne) | (dsimp only; omega)) ?_; first | assumption))))))); (case kK => first | exact rfl | assumption); (case kd => ktr_room); (case ku => ktr_units); (case ke => (intro _ _ _ _ _ _ hF; exact hF.elim)); (intro r n h' tk' F' N' hR; (obtain ⟨t9, hn9, hr9⟩ := hR; replace hn9 := hn9.symm; subst hn9 hr9); (try dsimp only); (try k_fold)))))
  (k_with "call ref" => (k_here; (with_reducible show wpAny _ _ (call (Value.ref 266) _) _ _ _); k_dflt (refine' Ct.use (c_skip_no _ _ _ _ _ _ _ _ _ _ _ _ _ ?hE ?hl _ ?hA _ _ ?hb) ?k1 ?k2 ?k3 ?k4 ?k5 ?kK ?kd ?ku ?_ ?ke; (case k1 => k_asm); (case k2 => k_asm); (case k3 => k_asm); (case k4 => first | k_asm | exact perm1 (by k_asm) | exact perm2 (by k_asm) | exact perm3 (by k_asm)); (case k5 => k_asm); (case hE => first | assumption | exact ent_mem0 | (refine ent_tail ?_; first | assumption | exact ent_mem0 | (refine ent_tail ?_; first | assumption | exact ent_mem0 | (refine ent_tail ?_; first | assumption | exact ent_mem0 | (refine ent_tail ?_; first | assumption | exact ent_mem0 | (refine ent_tail ?_; first | assumption | exact ent_mem0 | (refine ent_tail ?_; first | assumption | exact ent_mem0))))))); (case hl => first | assumption | omega); (case hA => first | assumption); (case hb => first | assumption | rfl); (case kK => first | exact rfl | assumption); (case kd => ktr_room); (case ku => ktr_units); (case ke => (intro _ _ _ _ _ _ hF; exact hF.elim)); (intro r n h' tk' F' N' hR; (obtain ⟨hn9, hr9⟩ := hR; replace hn9 := hn9.symm; subst hn9 hr9); (try dsimp only); (try k_fold)))))
  (k_with "call ref" => (k_here; (with_reducible show wpAny _ _ (call (Value.ref 266) _) _ _ _); k_dflt (refine' Ct.use (c_skip_end _ _ _ _ _ _ _ _ _ _ _ _ _ ?hE ?hl ?hA _ _) ?k1 ?k2 ?k3 ?k4 ?k5 ?kK ?kd ?ku ?_ ?ke; (case k1 => k_asm); (case k2 => k_asm); (case k3 => k_asm); (case k4 => first | k_asm | exact perm1 (by k_asm) | exact perm2 (by k_asm) | exact perm3 (by k_asm)); (case k5 => k_asm); (case hE => first | assumption | exact ent_mem0 | (refine ent_tail ?_; first | assumption | exact ent_mem0 | (refine ent_tail ?_; first | assumption | exact ent_mem0 | (refine ent_tail ?_; first | assumption | exact ent_mem0 | (refine ent_tail ?_; first | assumption | exact ent_mem0 | (refine ent_tail ?_; first | assumption | exact ent_mem0 | (refine ent_tail ?_; first | assumption | exact ent_mem0))))))); (case hl => first | assumption | omega); (case hA => first | assumption); (case kK => first | exact rfl | assumption); (case kd => ktr_room); (case ku => ktr_units); (case ke => (intro _ _ _ _ _ _ hF; exact hF.elim)); (intro r n h' tk' F' N' hR; (obtain ⟨hn9, hr9⟩ := hR; replace hn9 := hn9.symm; subst hn9 hr9); (try dsimp only); (try k_fold)))))
  (k_with "UnrEnd" => (k_here; k_dflt (refine' unrEnd1 ?F ?N ?o ?_; (case F => k_asm); (case N => k_asm); (case o => exact off2 (by assumption)))))
  (k_with "assign Tuple" => (k_here; (with_reducible show wpAny _ _ (assign (Expr.Tuple _ _ _) _ (Value.ref _)) _ _ _); k_dflt (refine' unpackN_ ?F ?N ?T ?k1 ?k2 ?k3 ?_; (case F => k_asm); (case N => k_asm); (case T => (refine' News.isTup ?t ?m; (case t => k_asm); (case m => kst_mem))); (case k1 => exact rfl); (case k2 => exact rfl); (case k3 => exact rfl)); intro h' F' N'; (try k_sweep)))
  (k_with "call builtin:len" => (k_here; (with_reducible show wpAny _ _ (call (Value.builtin "len") [Value.ref _]) _ _ _); k_dflt (refine' len_one ?k1 ?k2 ?_; (case k1 => k_asm); (case k2 => kst_mem)); intro _ _))
  (k_with "subscriptTail" => (k_here; (with_reducible show wpAny _ _ (subscriptTail _ _ (Value.ref _) (Value.int _ _)) _ _ _); k_dflt (refine' item_one ?k1 ?k2 ?_; (case k1 => k_asm); (case k2 => kst_mem))))
  (k_with "call ref" => (k_here; (with_reducible show wpAny _ _ (call (Value.ref 212) _) _ _ _); k_dflt (refine' Ct.use (c_sign_text _ _ _ _ (by omega)) ?k1 ?k2 ?k3 ?k4 ?k5 ?kK ?kd ?ku ?_ ?ke; (case k1 => k_asm); (case k2 => k_asm); (case k3 => k_asm); (case k4 => k_asm); (case k5 => k_asm); (case kK => first | exact rfl | assumption); (case kd => ktr_room); (case ku => ktr_units); (case ke => (intro _ _ _ _ _ _ hF; exact hF.elim)); (intro r n h' tk' F' N' hR; (obtain ⟨hn9, t9, hr9⟩ := hR; replace hn9 := hn9.symm; subst hn9 hr9); (try dsimp only); (try k_fold)))))
  unfold Ct
  k_fill
  intro mean mg mb dp un gd cn cs a ccd cl outer A₀ base h₀ L m s Q E B F X N T hk hdp hun hret hexc
  refine wpAny_call ?_
  k_dflt cell_enter
  dsimp only [Tk.kind, Tk.worth] at hm9
  k_steps
  
  refine Hold.of ?_
  refine join_bytes (l := [(A.toArray, t2)]) (ps := [A.toArray]) (News.isList (by k_asm) (.head _)) rfl (by simp; omega) ?_
  intro t8 k8
  rw [show (([A.toArray] : List (Array UInt8)).map (·.toList)).flatten.toArray = A.toArray by simp]
  try dsimp only
  k_steps
  exact hret _ _ _ _ (by k_asm) (drop0 (by k_asm)) ⟨_, rfl, rfl⟩
end
section
open PySem PySem.W PyProof.Rows
theorem c_domain (w : World) (news : Led) (R dR P : Addr) (es : List TkE) (p n : Int) (k1 k2 k3 t2 t3 : Tok) (hE : ∀ e ∈ es, e.entry ∈ news) (hl : es.length ≤ 100) (q : Int) (x : Str) (hD : Dom es p q x) (hs1 : R ≠ dR) (hs2 : P ≠ dR) (hs3 : ∀ p ∈ news, p.1 ≠ dR) : Ct 6 w 308 ((R, instObj 290 dR) :: (dR, dictOf [⟨PyData.keyHash w.params (Str.ofString "tokens"), .str (Str.ofString "tokens") k1, .ref P⟩, ⟨PyData.keyHash w.params (Str.ofString "at"), .str (Str.ofString "at") k2, .int (p) t2⟩, ⟨PyData.keyHash w.params (Str.ofString "length"), .str (Str.ofString "length") k3, .int n t3⟩] 3) :: (P, LCg.lst (refs es)) :: news) [.ref R] (fun r9 n9 => ∃ t9 t8, n9 = ((R, instObj 290 dR) :: (dR, dictOf [⟨PyData.keyHash w.params (Str.ofString "tokens"), .str (Str.ofString "tokens") k1, .ref P⟩, ⟨PyData.keyHash w.params (Str.ofString "at"), .str (Str.ofString "at") k2, .int (q) t9⟩, ⟨PyData.keyHash w.params (Str.ofString "length"), .str (Str.ofString "length") k3, .int n t3⟩] 3) :: (P, LCg.lst (refs es)) :: news) ∧ r9 = .str x t8) (fun _ _ => False) := by
  rcases hD with ⟨inner, h1, h2, rfl, rfl⟩ | ⟨A, r, h1, h2, h3, h4, rfl⟩
  · exact c_domain_lit w news R dR P es p n k1 k2 k3 t2 t3 hE hl inner h1 h2 hs1 hs2 hs3
  · exact c_domain_dots w news R dR P es p n k1 k2 k3 t2 t3 hE hl A r h1 q h2 h3 h4 hs1 hs2 hs3

set_option maxRecDepth 100000 in
set_option maxHeartbeats 4000000 in
theorem c_mailbox (w : World) (news : Led) (R dR P : Addr) (es : List TkE) (p n : Int) (k1 k2 k3 t2 t3 : Tok) (hE : ∀ e ∈ es, e.entry ∈ news) (hl : es.length ≤ 100) (W ea : Addr) (A : List UInt8) (k9 : Nat) (t4 t5 t6 : Tok) (pos : Int) (hW : (W, listOf #[.ref ea] k9) ∈ news) (hm9 : (ea, tupOf [.str (Tk.atom A).kind t4, .bytes (Tk.atom A).worth.toArray t5, .int pos t6]) ∈ news) (hA : A.length ≤ 100) (hB : At es p (.sign 64)) (q : Int) (x : Str) (hD : Dom es (p + 1) q x) (hs1 : R ≠ dR) (hs2 : P ≠ dR) (hs3 : ∀ p ∈ news, p.1 ≠ dR) : Ct 8 w 322 ((R, instObj 290 dR) :: (dR, dictOf [⟨PyData.keyHash w.params (Str.ofString "tokens"), .str (Str.ofString "tokens") k1, .ref P⟩, ⟨PyData.keyHash w.params (Str.ofString "at"), .str (Str.ofString "at") k2, .int (p) t2⟩, ⟨PyData.keyHash w.params (Str.ofString "length"), .str (Str.ofString "length") k3, .int n t3⟩] 3) :: (P, LCg.lst (refs es)) :: news) [.ref R, .ref W] (fun r n9 => ∃ M dM k4 k5 k6 t4 t5 t6 t9, n9 = (M, instObj 175 dM) :: (dM, dictOf [⟨PyData.keyHash w.params (Str.ofString "name"), .str (Str.ofString "name") k4, .str (Str.ofString "") t4⟩, ⟨PyData.keyHash w.params (Str.ofString "local"), .str (Str.ofString "local") k5, .str (strOf A) t5⟩, ⟨PyData.keyHash w.params (Str.ofString "domain"), .str (Str.ofString "domain") k6, .str (x) t6⟩] 3) :: ((R, instObj 290 dR) :: (dR, dictOf [⟨PyData.keyHash w.params (Str.ofString "tokens"), .str (Str.ofString "tokens") k1, .ref P⟩, ⟨PyData.keyHash w.params (Str.ofString "at"), .str (Str.ofString "at") k2, .int (q) t9⟩, ⟨PyData.keyHash w.params (Str.ofString "length"), .str (Str.ofString "length") k3, .int n t3⟩] 3) :: (P, LCg.lst (refs es)) :: news) ∧ r = .ref M ∧ (@LT.lt Nat _ R dM ∧ @LT.lt Nat _ dR dM ∧ @LT.lt Nat _ P dM ∧ AllLt dM news) ∧ @LT.lt Nat _ dM M) (fun _ _ => False) := by
  k_with_none
  w_top off
  (k_with "compareOp In int bytes" => (refine in_int_bytes (by assumption) (by assumption) ?_))
  (k_with "subscriptTail Name Slice bytes ref" => (k_here; (with_reducible show wpAny _ _ (subscriptTail _ (Expr.Slice _ _ none _) (Value.bytes _ _) (Value.ref _)) _ _ _); k_dflt (refine' slice_b (s := ⟨_, _, _, _, _⟩) ?f ?n ?a ?b ?c ?_; (case f => k_asm); (case n => k_asm); (case a => omega); (case b => omega); (case c => omega)); intro _ _ _ F' N'))
  (k_with "subscriptTail" => (k_here; (with_reducible show wpAny _ _ (subscriptTail _ _ (Value.bytes _ _) (Value.int _ _)) _ _ _); (refine item_b (by omega) (by omega) (by omega) ?_); intro _ _ _ _))
  (k_with "compareOp Eq bytes bytes" => (first | refine eq_cut1 (k := 10) (by omega) (by omega) (by decide) ?_ | refine eq_cut1 (k := 34) (by omega) (by omega) (by decide) ?_ | refine eq_cut1 (k := 40) (by omega) (by omega) (by decide) ?_ | refine eq_cut1 (k := 91) (by omega) (by omega) (by decide) ?_ | refine eq_cut2 (k := 13) (by omega) (by omega) (by decide) (by omega) ?_))
  (k_with "compareOp In int ref" => (k_here; k_dflt (first | refine in_tup2 (News.isTup (by k_asm) (by k_mem)) ?_ | refine in_tup3 (tupK (by k_in) (by k_is)) ?_)))
  (k_with "ite" => (k_here; k_openite; first | (refine ite_pos (by (simp only [decide_eq_true_eq, Bool.and_eq_true, Bool.or_eq_true, Bool.not_eq_true', decide_eq_false_iff_not]; omega)) ?_; walk_say "PRUNED (own)") | (refine ite_neg (by (simp only [decide_eq_true_eq, Bool.and_eq_true, Bool.or_eq_true, Bool.not_eq_true', decide_eq_false_iff_not]; omega)) ?_; walk_say "PRUNED (own)")))
  (k_with "Unr" => (first | refine Unr.succ ?_ | refine Unr.zero ?_))
  (k_with "own k_all" => (first | exact ne_below (by assumption) | exact ne_allLt (by assumption) | exact ne_allLt2 (by assumption)))
  (k_with "own size_fits" => (((try simp only [List.size_toArray, PySem.sizeLine_eq]); omega)))
  (k_with "exec While Compare cons nil" => (k_here; refine Hold.mk ?_))
  (k_with "exec While BoolOp cons nil" => (k_here; refine Hold.mk ?_))
  (k_with "exec While Constant cons nil" => (k_here; refine Hold.mk ?_))
  (k_with "exec While UnaryOp cons nil" => (k_here; refine Hold.mk ?_))
  (k_with "KswEnd" => (refine Hold.mk ?_))
  (k_with "own k_room" => (ktr_room))
  (k_with "call builtin:len" => (k_here; (with_reducible show wpAny _ _ (call (Value.builtin "len") [Value.ref _]) _ _ _); k_dflt (refine' len_refs ?k1 ?k2 ?k3 ?_; (case k1 => k_asm); (case k2 => k_mem); (case k3 => omega)); intro _ _))
  (k_with "subscriptTail" => (k_here; (with_reducible show wpAny _ _ (subscriptTail _ _ (Value.ref _) (Value.int _ _)) _ _ _); k_dflt (refine' item_tupleT (News.isTup ?t ?m) ?a ?b ?c ?d ?_; (case t => k_asm); (case m => kst_mem); (case a => decide); (case b => decide); (case c => rfl); (case d => rfl))))
  (k_with "call ref" => (k_here; (with_reducible show wpAny _ _ (call (Value.ref 238) _) _ _ _); k_dflt (refine' Ct.use (c_is_done_no _ _ _ _ _ _ _ _ _ _ _ _ _ ?hE ?hl _ ?hA) ?k1 ?k2 ?k3 ?k4 ?k5 ?kK ?kd ?ku ?_ ?ke; (case k1 => k_asm); (case k2 => k_asm); (case k3 => k_asm); (case k4 => first | k_asm | exact perm1 (by k_asm) | exact perm2 (by k_asm) | exact perm3 (by k_asm)); (case k5 => k_asm); (case hE => first | assumption | exact ent_mem0 | (refine ent_tail ?_; first | assumption | exact ent_mem0 | (refine ent_tail ?_; first | assumption | exact ent_mem0 | (refine ent_tail ?_; first | assumption | exact ent_mem0 | (refine ent_tail ?_; first | assumption | exact ent_mem0 | (refine ent_tail ?_; first | assumption | exact ent_mem0 | (refine ent_tail ?_; first | assumption | exact ent_mem0))))))); (case hl => first | assumption | omega); (case hA => first | assumption); (case kK => first | exact rfl | assumption); (case kd => ktr_room); (case ku => ktr_units); (case ke => (intro _ _ _ _ _ _ hF; exact hF.elim)); (intro r n h' tk' F' N' hR; (obtain ⟨hn9, hr9⟩ := hR; replace hn9 := hn9.symm; subst hn9 hr9); (try dsimp only); (try k_fold)))))
  (k_with "call ref" => (k_here; (with_reducible show wpAny _ _ (call (Value.ref 238) _) _ _ _); k_dflt (refine' Ct.use (c_is_done_end _ _ _ _ _ _ _ _ _ _ _ _ _ ?hE ?hl ?hA) ?k1 ?k2 ?k3 ?k4 ?k5 ?kK ?kd ?ku ?_ ?ke; (case k1 => k_asm); (case k2 => k_asm); (case k3 => k_asm); (case k4 => first | k_asm | exact perm1 (by k_asm) | exact perm2 (by k_asm) | exact perm3 (by k_asm)); (case k5 => k_asm); (case hE => first | assumption | exact ent_mem0 | (refine ent_tail ?_; first | assumption | exact ent_mem0 | (refine ent_tail ?_; first | assumption | exact ent_mem0 | (refine ent_tail ?_; first | assumption | exact ent_mem0 | (refine ent_tail ?_; first | assumption | exact ent_mem0 | (refine ent_tail ?_; first | assumption | exact ent_mem0 | (refine ent_tail ?_; first | assumption | exact ent_mem0))))))); (case hl => first | assumption | omega); (case hA => first | assumption); (case kK => first | exact rfl | assumption); (case kd => ktr_room); (case ku => ktr_units); (case ke => (intro _ _ _ _ _ _ hF; exact hF.elim)); (intro r n h' tk' F' N' hR; (obtain ⟨hn9, hr9⟩ := hR; replace hn9 := hn9.symm; subst hn9 hr9); (try dsimp only); (try k_fold)))))
  (k_with "call ref" => (k_here; (with_reducible show wpAny _ _ (call (Value.ref 245) _) _ _ _); k_dflt (refine' Ct.use (c_kind _ _ _ _ _ _ _ _ _ _ _ _ _ ?hE ?hl _ ?hA) ?k1 ?k2 ?k3 ?k4 ?k5 ?kK ?kd ?ku ?_ ?ke; (case k1 => k_asm); (case k2 => k_asm); (case k3 => k_asm); (case k4 => first | k_asm | exact perm1 (by k_asm) | exact perm2 (by k_asm) | exact perm3 (by k_asm)); (case k5 => k_asm); (case hE => first | assumption | exact ent_mem0 | (refine ent_tail ?_; first | assumption | exact ent_mem0 | (refine ent_tail ?_; first | assumption | exact ent_mem0 | (refine ent_tail ?_; first | assumption | exact ent_mem0 | (refine ent_tail ?_; first | assumption | exact ent_mem0 | (refine ent_tail ?_; first | assumption | exact ent_mem0 | (refine ent_tail ?_; first | assumption | exact ent_mem0))))))); (case hl => first | assumption | omega); (case hA => first | assumption); (case kK => first | exact rfl | assumption); (case kd => ktr_room); (case ku => ktr_units); (case ke => (intro _ _ _ _ _ _ hF; exact hF.elim)); (intro r n h' tk' F' N' hR; (obtain ⟨hn9, t9, hr9⟩ := hR; replace hn9 := hn9.symm; subst hn9 hr9; (try dsimp only [Tk.kind])); (try dsimp only); (try k_fold)))))
  (k_with "call ref" => (k_here; (with_reducible show wpAny _ _ (call (Value.ref 245) _) _ _ _); k_dflt (refine' Ct.use (c_kind_end _ _ _ _ _ _ _ _ _ _ _ _ _ ?hE ?hl ?hA) ?k1 ?k2 ?k3 ?k4 ?k5 ?kK ?kd ?ku ?_ ?ke; (case k1 => k_asm); (case k2 => k_asm); (case k3 => k_asm); (case k4 => first | k_asm | exact perm1 (by k_asm) | exact perm2 (by k_asm) | exact perm3 (by k_asm)); (case k5 => k_asm); (case hE => first | assumption | exact ent_mem0 | (refine ent_tail ?_; first | assumption | exact ent_mem0 | (refine ent_tail ?_; first | assumption | exact ent_mem0 | (refine ent_tail ?_; first | assumption | exact ent_mem0 | (refine ent_tail ?_; first | assumption | exact ent_mem0 | (refine ent_tail ?_; first | assumption | exact ent_mem0 | (refine ent_tail ?_; first | assumption | exact ent_mem0))))))); (case hl => first | assumption | omega); (case hA => first | assumption); (case kK => first | exact rfl | assumption); (case kd => ktr_room); (case ku => ktr_units); (case ke => (intro _ _ _ _ _ _ hF; exact hF.elim)); (intro r n h' tk' F' N' hR; (obtain ⟨hn9, t9, hr9⟩ := hR; replace hn9 := hn9.symm; subst hn9 hr9; (try dsimp only [Tk.kind])); (try dsimp only); (try k_fold)))))
  (k_with "call ref" => (k_here; (with_reducible show wpAny _ _ (call (Value.ref 252) _) _ _ _); k_dflt (refine' Ct.use (c_stands _ _ _ _ _ _ _ _ _ _ _ _ _ ?hE ?hl _ ?hA _ _ true ?hb) ?k1 ?k2 ?k3 ?k4 ?k5 ?kK ?kd ?ku ?_ ?ke; (case k1 => k_asm); (case k2 => k_asm); (case k3 => k_asm); (case k4 => first | k_asm | exact perm1 (by k_asm) | exact perm2 (by k_asm) | exact perm3 (by k_asm)); (case k5 => k_asm); (case hE => first | assumption | exact ent_mem0 | (refine ent_tail ?_; first | assumption | exact ent_mem0 | (refine ent_tail ?_; first | assumption | exact ent_mem0 | (refine ent_tail ?_; first | assumption | exact ent_mem0 | (refine ent_tail ?_; first | assumption | exact ent_mem0 | (refine ent_tail ?_; first | assumption | exact ent_mem0 | (refine ent_tail ?_; first | assumption | exact ent_mem0))))))); (case hl => first | assumption | omega); (case hA => first | assumption); (case hb => first | assumption | rfl); (case kK => first | exact rfl | assumption); (case kd => ktr_room); (case ku => ktr_units); (case ke => (intro _ _ _ _ _ _ hF; exact hF.elim)); (intro r n h' tk' F' N' hR; (obtain ⟨hn9, hr9⟩ := hR; replace hn9 := hn9.symm; subst hn9 hr9); (try dsimp only); (try k_fold)))))
  (k_with "call ref" => (k_here; (with_reducible show wpAny _ _ (call (Value.ref 252) _) _ _ _); k_dflt (refine' Ct.use (c_stands _ _ _ _ _ _ _ _ _ _ _ _ _ ?hE ?hl _ ?hA _ _ false ?hb) ?k1 ?k2 ?k3 ?k4 ?k5 ?kK ?kd ?ku ?_ ?ke; (case k1 => k_asm); (case k2 => k_asm); (case k3 => k_asm); (case k4 => first | k_asm | exact perm1 (by k_asm) | exact perm2 (by k_asm) | exact perm3 (by k_asm)); (case k5 => k_asm); (case hE => first | assumption | exact ent_mem0 | (refine ent_tail ?_; first | assumption | exact ent_mem0 | (refine ent_tail ?_; first | assumption | exact ent_mem0 | (refine ent_tail ?_; first | assumption | exact ent_mem0 | (refine ent_tail ?_; first | assumption | exact ent_mem0 | (refine ent_tail ?_; first | assumption | exact ent_mem0 | (refine ent_tail ?_; first | assumption | exact ent_mem0))))))); (case hl => first | assumption | omega); (case hA => first | assumption); (case hb => first | assumption | rfl); (case kK => first | exact rfl | assumption); (case kd => ktr_room); (case ku => ktr_units); (case ke => (intro _ _ _ _ _ _ hF; exact hF.elim)); (intro r n h' tk' F' N' hR; (obtain ⟨hn9, hr9⟩ := hR; replace hn9 := hn9.symm; subst hn9 hr9); (try dsimp only); (try k_fold)))))
  (k_with "call ref" => (k_here; (with_reducible show wpAny _ _ (call (Value.ref 252) _) _ _ _); k_dflt (refine' Ct.use (c_stands_end _ _ _ _ _ _ _ _ _ _ _ _ _ ?hE ?hl ?hA _ _) ?k1 ?k2 ?k3 ?k4 ?k5 ?kK ?kd ?ku ?_ ?ke; (case k1 => k_asm); (case k2 => k_asm); (case k3 => k_asm); (case k4 => first | k_asm | exact perm1 (by k_asm) | exact perm2 (by k_asm) | exact perm3 (by k_asm)); (case k5 => k_asm); (case hE => first | assumption | exact ent_mem0 | (refine ent_tail ?_; first | assumption | exact ent_mem0 | (refine ent_tail ?_; first | assumption | exact ent_mem0 | (refine ent_tail ?_; first | assumption | exact ent_mem0 | (refine ent_tail ?_; first | assumption | exact ent_mem0 | (refine ent_tail ?_; first | assumption | exact ent_mem0 | (refine ent_tail ?_; first | assumption | exact ent_mem0))))))); (case hl => first | assumption | omega); (case hA => first | assumption); (case kK => first | exact rfl | assumption); (case kd => ktr_room); (case ku => ktr_units); (case ke => (intro _ _ _ _ _ _ hF; exact hF.elim)); (intro r n h' tk' F' N' hR; (obtain ⟨hn9, hr9⟩ := hR; replace hn9 := hn9.symm; subst hn9 hr9); (try dsimp only); (try k_fold)))))
  (k_with "call ref" => (k_here; (with_reducible show wpAny _ _ (call (Value.ref 259) _) _ _ _); k_dflt (refine' Ct.use (c_take _ _ _ _ _ _ _ _ _ _ _ _ _ ?hE ?hl _ ?hA ?hs1 ?hs2 ?hs3) ?k1 ?k2 ?k3 ?k4 ?k5 ?kK ?kd ?ku ?_ ?ke; (case k1 => k_asm); (case k2 => k_asm); (case k3 => k_asm); (case k4 => first | k_asm | exact perm1 (by k_asm) | exact perm2 (by k_asm) | exact perm3 (by k_asm)); (case k5 => k_asm); (case hE => first | assumption | exact ent_mem0 | (refine ent_tail ?_; first | assumption | exact ent_mem0 | (refine ent_tail ?_; first | assumption | exact ent_mem0 | (refine ent_tail ?_; first | assumption | exact ent_mem0 | (refine ent_tail ?_; first | assumption | exact ent_mem0 | (refine ent_tail ?_; first | assumption | exact ent_mem0 | (refine ent_tail ?_; first | assumption | exact ent_mem0))))))); (case hl => first | assumption | omega); (case hA => first | assumption); (case hs1 => first | assumption | k_ne); (case hs2 => first | assumption | k_ne); (case hs3 => first | assumption | (refine apart_cons (by first | assumption | k_ne | (dsimp only; k_ne) | (dsimp only; omega)) ?_; first | assumption | (refine apart_cons (by first | assumption | k_ne | (dsimp only; k_ne) | (dsimp only; omega)) ?_; first | assumption | (refine apart_cons (by first | assumption | k_ne | (dsimp only; k_ne) | (dsimp only; omega)) ?_; first | assumption | (refine apart_cons (by first | assumption | k_ne | (dsimp only; k_ne) | (dsimp only; omega)) ?_; first | assumption | (refine apart_cons (by first | assumption | k_ne | (dsimp only; k_ne) | (dsimp only; omega)) ?_; first | assumption | (refine apart_cons (by first | assumption | k_ne | (dsimp only; k_ne) | (dsimp only; omega)) ?_; first | assumption))))))); (case kK => first | exact rfl | assumption); (case kd => ktr_room); (case ku => ktr_units); (case ke => (intro _ _ _ _ _ _ hF; exact hF.elim)); (intro r n h' tk' F' N' hR; (obtain ⟨e9, t9, he9, ht9, hm9, hn9, hr9⟩ := hR; replace hn9 := hn9.symm; subst hn9 hr9; dsimp only [Tk.kind, Tk.worth] at hm9); (try dsimp only); (try k_fold)))))
  (k_with "call ref" => (k_here; (with_reducible show wpAny _ _ (call (Value.ref 266) _) _ _ _); k_dflt (refine' Ct.use (c_skip_yes _ _ _ _ _ _ _ _ _ _ _ _ _ ?hE ?hl _ ?hA _ _ ?hb ?hs1 ?hs2 ?hs3) ?k1 ?k2 ?k3 ?k4 ?k5 ?kK ?kd ?ku ?_ ?ke; (case k1 => k_asm); (case k2 => k_asm); (case k3 => k_asm); (case k4 => first | k_asm | exact perm1 (by k_asm) | exact perm2 (by k_asm) | exact perm3 (by k_asm)); (case k5 => k_asm); (case hE => first | assumption | exact ent_mem0 | (refine ent_tail ?_; first | assumption | exact ent_mem0 | (refine ent_tail ?_; first | assumption | exact ent_mem0 | (refine ent_tail ?_; first | assumption | exact ent_mem0 | (refine ent_tail ?_; first | assumption | exact ent_mem0 | (refine ent_tail ?_; first | assumption | exact ent_mem0 | (refine ent_tail ?_; first | assumption | exact ent_mem0))))))); (case hl => first | assumption | omega); (case hA => first | assumption); (case hb => first | assumption | rfl); (case hs1 => first | assumption | k_ne); (case hs2 => first | assumption | k_ne); (case hs3 => first | assumption | (refine apart_cons (by first | assumption | k_ne | (dsimp only; k_ne) | (dsimp only; omega)) ?_; first | assumption | (refine apart_cons (by first | assumption | k_ne | (dsimp only; k_ne) | (dsimp only; omega)) ?_; first | assumption | (refine apart_cons (by first | assumption | k_ne | (dsimp only; k_ne) | (dsimp only; omega)) ?_; first | assumption | (refine apart_cons (by first | assumption | k_ne | (dsimp only; k_ne) | (dsimp only; omega)) ?_; first | assumption | (refine apart_cons (by first | assumption | k_ne | (dsimp only; k_ne) | (dsimp only; omega)) ?_; first | assumption | (refine apart_cons (by first | assumption | k_ne | (dsimp only; k_ne) | (dsimp only; omega)) ?_; first | assumption))))))); (case kK => first | exact rfl | assumption); (case kd => ktr_room); (case ku => ktr_units); (case ke => (intro _ _ _ _ _ _ hF; exact hF.elim)); (intro r n h' tk' F' N' hR; (obtain ⟨t9, hn9, hr9⟩ := hR; replace hn9 := hn9.symm; subst hn9 hr9); (try dsimp only); (try k_fold)))))
  (k_with "call ref" => (k_here; (with_reducible show wpAny _ _ (call (Value.ref 266) _) _ _ _); k_dflt (refine' Ct.use (c_skip_no _ _ _ _ _ _ _ _ _ _ _ _ _ ?hE ?hl _ ?hA _ _ ?hb) ?k1 ?k2 ?k3 ?k4 ?k5 ?kK ?kd ?ku ?_ ?ke; (case k1 => k_asm); (case k2 => k_asm); (case k3 => k_asm); (case k4 => first | k_asm | exact perm1 (by k_asm) | exact perm2 (by k_asm) | exact perm3 (by k_asm)); (case k5 => k_asm); (case hE => first | assumption | exact ent_mem0 | (refine ent_tail ?_; first | assumption | exact ent_mem0 | (refine ent_tail ?_; first | assumption | exact ent_mem0 | (refine ent_tail ?_; first | assumption | exact ent_mem0 | (refine ent_tail ?_; first | assumption | exact ent_mem0 | (refine ent_tail ?_; first | assumption | exact ent_mem0 | (refine ent_tail ?_; first | assumption | exact ent_mem0))))))); (case hl => first | assumption | omega); (case hA => first | assumption); (case hb => first | assumption | rfl); (case kK => first | exact rfl | assumption); (case kd => ktr_room); (case ku => ktr_units); (case ke => (intro _ _ _ _ _ _ hF; exact hF.elim)); (intro r n h' tk' F' N' hR; (obtain ⟨hn9, hr9⟩ := hR; replace hn9 := hn9.symm; subst hn9 hr9); (try dsimp only); (try k_fold)))))
  (k_with "call ref" => (k_here; (with_reducible show wpAny _ _ (call (Value.ref 266) _) _ _ _); k_dflt (refine' Ct.use (c_skip_end _ _ _ _ _ _ _ _ _ _ _ _ _ ?hE ?hl ?hA _ _) ?k1 ?k2 ?k3 ?k4 ?k5 ?kK ?kd ?ku ?_ ?ke; (case k1 => k_asm); (case k2 => k_asm); (case k3 => k_asm); (case k4 => first | k_asm | exact perm1 (by k_asm) | exact perm2 (by k_asm) | exact perm3 (by k_asm)); (case k5 => k_asm); (case hE => first | assumption | exact ent_mem0 | (refine ent_tail ?_; first | assumption | exact ent_mem0 | (refine ent_tail ?_; first | assumption | exact ent_mem0 | (refine ent_tail ?_; first | assumption | exact ent_mem0 | (refine ent_tail ?_; first | assumption | exact ent_mem0 | (refine ent_tail ?_; first | assumption | exact ent_mem0 | (refine ent_tail ?_; first | assumption | exact ent_mem0))))))); (case hl => first | assumption | omega); (case hA => first | assumption); (case kK => first | exact rfl | assumption); (case kd => ktr_room); (case ku => ktr_units); (case ke => (intro _ _ _ _ _ _ hF; exact hF.elim)); (intro r n h' tk' F' N' hR; (obtain ⟨hn9, hr9⟩ := hR; replace hn9 := hn9.symm; subst hn9 hr9); (try dsimp only); (try k_fold)))))
  (k_with "call ref" => (k_here; (with_reducible show wpAny _ _ (call (Value.ref 280) _) _ _ _); k_dflt (refine' Ct.use (c_need _ _ _ _ _ _ _ _ _ _ _ _ _ ?hE ?hl _ ?hA _ _ ?hb ?hs1 ?hs2 ?hs3) ?k1 ?k2 ?k3 ?k4 ?k5 ?kK ?kd ?ku ?_ ?ke; (case k1 => k_asm); (case k2 => k_asm); (case k3 => k_asm); (case k4 => first | k_asm | exact perm1 (by k_asm) | exact perm2 (by k_asm) | exact perm3 (by k_asm)); (case k5 => k_asm); (case hE => first | assumption | exact ent_mem0 | (refine ent_tail ?_; first | assumption | exact ent_mem0 | (refine ent_tail ?_; first | assumption | exact ent_mem0 | (refine ent_tail ?_; first | assumption | exact ent_mem0 | (refine ent_tail ?_; first | assumption | exact ent_mem0 | (refine ent_tail ?_; first | assumption | exact ent_mem0 | (refine ent_tail ?_; first | assumption | exact ent_mem0))))))); (case hl => first | assumption | omega); (case hA => first | assumption); (case hb => first | assumption | rfl); (case hs1 => first | assumption | k_ne); (case hs2 => first | assumption | k_ne); (case hs3 => first | assumption | (refine apart_cons (by first | assumption | k_ne | (dsimp only; k_ne) | (dsimp only; omega)) ?_; first | assumption | (refine apart_cons (by first | assumption | k_ne | (dsimp only; k_ne) | (dsimp only; omega)) ?_; first | assumption | (refine apart_cons (by first | assumption | k_ne | (dsimp only; k_ne) | (dsimp only; omega)) ?_; first | assumption | (refine apart_cons (by first | assumption | k_ne | (dsimp only; k_ne) | (dsimp only; omega)) ?_; first | assumption | (refine apart_cons (by first | assumption | k_ne | (dsimp only; k_ne) | (dsimp only; omega)) ?_; first | assumption | (refine apart_cons (by first | assumption | k_ne | (dsimp only; k_ne) | (dsimp only; omega)) ?_; first | assumption))))))); (case kK => first | exact rfl | assumption); (case kd => ktr_room); (case ku => ktr_units); (case ke => (intro _ _ _ _ _ _ hF; exact hF.elim)); (intro r n h' tk' F' N' hR; (obtain ⟨t9, hn9, hr9⟩ := hR; replace hn9 := hn9.symm; subst hn9 hr9); (try dsimp only); (try k_fold)))))
  (k_with "call ref" => (k_here; (with_reducible show wpAny _ _ (call (Value.ref 287) _) _ _ _); k_dflt (refine' Ct.use (c_words _ _ _ _ _ _ _ _ _ _ _ _ _ ?hE ?hl _ ?hA ?hB ?hs1 ?hs2 ?hs3) ?k1 ?k2 ?k3 ?k4 ?k5 ?kK ?kd ?ku ?_ ?ke; (case k1 => k_asm); (case k2 => k_asm); (case k3 => k_asm); (case k4 => first | k_asm | exact perm1 (by k_asm) | exact perm2 (by k_asm) | exact perm3 (by k_asm)); (case k5 => k_asm); (case hE => first | assumption | exact ent_mem0 | (refine ent_tail ?_; first | assumption | exact ent_mem0 | (refine ent_tail ?_; first | assumption | exact ent_mem0 | (refine ent_tail ?_; first | assumption | exact ent_mem0 | (refine ent_tail ?_; first | assumption | exact ent_mem0 | (refine ent_tail ?_; first | assumption | exact ent_mem0 | (refine ent_tail ?_; first | assumption | exact ent_mem0))))))); (case hl => first | assumption | omega); (case hA => first | assumption); (case hB => first | assumption); (case hs1 => first | assumption | k_ne); (case hs2 => first | assumption | k_ne); (case hs3 => first | assumption | (refine apart_cons (by first | assumption | k_ne | (dsimp only; k_ne) | (dsimp only; omega)) ?_; first | assumption | (refine apart_cons (by first | assumption | k_ne | (dsimp only; k_ne) | (dsimp only; omega)) ?_; first | assumption | (refine apart_cons (by first | assumption | k_ne | (dsimp only; k_ne) | (dsimp only; omega)) ?_; first | assumption | (refine apart_cons (by first | assumption | k_ne | (dsimp only; k_ne) | (dsimp only; omega)) ?_; first | assumption | (refine apart_cons (by first | assumption | k_ne | (dsimp only; k_ne) | (dsimp only; omega)) ?_; first | assumption | (refine apart_cons (by first | assumption | k_ne | (dsimp only; k_ne) | (dsimp only; omega)) ?_; first | assumption))))))); (case kK => first | exact rfl | assumption); (case kd => ktr_room); (case ku => ktr_units); (case ke => (intro _ _ _ _ _ _ hF; exact hF.elim)); (intro r n h' tk' F' N' hR; (obtain ⟨W9, e9, t9, k9, hm9, hn9, hr9, l9⟩ := hR; replace hn9 := hn9.symm; subst hn9 hr9; (try k_lt l9)); (try dsimp only); (try k_fold)))))
  (k_with "call ref" => (k_here; (with_reducible show wpAny _ _ (call (Value.ref 301) _) _ _ _); k_dflt (refine' Ct.use (c_local_of _ _ _ _ _ _ _ _ _ _ _ ?hW ?hm ?hA) ?k1 ?k2 ?k3 ?k4 ?k5 ?kK ?kd ?ku ?_ ?ke; (case k1 => k_asm); (case k2 => k_asm); (case k3 => k_asm); (case k4 => first | k_asm | exact perm1 (by k_asm) | exact perm2 (by k_asm) | exact perm3 (by k_asm)); (case k5 => k_asm); (case hW => first | k_mem | kst_mem); (case hm => kst_mem); (case hA => first | assumption | omega); (case kK => first | exact rfl | assumption); (case kd => ktr_room); (case ku => ktr_units); (case ke => (intro _ _ _ _ _ _ hF; exact hF.elim)); (intro r n h' tk' F' N' hR; (obtain ⟨t9, hn9, hr9⟩ := hR; replace hn9 := hn9.symm; subst hn9 hr9); (try dsimp only); (try k_fold)))))
  (k_with "call ref" => (k_here; (with_reducible show wpAny _ _ (call (Value.ref 308) _) _ _ _); k_dflt (refine' Ct.use (c_domain _ _ _ _ _ _ _ _ _ _ _ _ _ ?hE ?hl _ _ ?hD ?hs1 ?hs2 ?hs3) ?k1 ?k2 ?k3 ?k4 ?k5 ?kK ?kd ?ku ?_ ?ke; (case k1 => k_asm); (case k2 => k_asm); (case k3 => k_asm); (case k4 => first | k_asm | exact perm1 (by k_asm) | exact perm2 (by k_asm) | exact perm3 (by k_asm)); (case k5 => k_asm); (case hE => first | assumption | exact ent_mem0 | (refine ent_tail ?_; first | assumption | exact ent_mem0 | (refine ent_tail ?_; first | assumption | exact ent_mem0 | (refine ent_tail ?_; first | assumption | exact ent_mem0 | (refine ent_tail ?_; first | assumption | exact ent_mem0 | (refine ent_tail ?_; first | assumption | exact ent_mem0 | (refine ent_tail ?_; first | assumption | exact ent_mem0))))))); (case hl => first | assumption | omega); (case hD => first | assumption); (case hs1 => first | assumption | k_ne); (case hs2 => first | assumption | k_ne); (case hs3 => first | assumption | (refine apart_cons (by first | assumption | k_ne | (dsimp only; k_ne) | (dsimp only; omega)) ?_; first | assumption | (refine apart_cons (by first | assumption | k_ne | (dsimp only; k_ne) | (dsimp only; omega)) ?_; first | assumption | (refine apart_cons (by first | assumption | k_ne | (dsimp only; k_ne) | (dsimp only; omega)) ?_; first | assumption | (refine apart_cons (by first | assumption | k_ne | (dsimp only; k_ne) | (dsimp only; omega)) ?_; first | assumption | (refine apart_cons (by first | assumption | k_ne | (dsimp only; k_ne) | (dsimp only; omega)) ?_; first | assumption | (refine apart_cons (by first | assumption | k_ne | (dsimp only; k_ne) | (dsimp only; omega)) ?_; first | assumption))))))); (case kK => first | exact rfl | assumption); (case kd => ktr_room); (case ku => ktr_units); (case ke => (intro _ _ _ _ _ _ hF; exact hF.elim)); (intro r n h' tk' F' N' hR; (obtain ⟨t9, t8, hn9, hr9⟩ := hR; replace hn9 := hn9.symm; subst hn9 hr9); (try dsimp only); (try k_fold)))))
  unfold Ct
  k_fill
  intro mean mg mb dp un gd cn cs a ccd cl outer A₀ base h₀ L m s Q E B F X N T hk hdp hun hret hexc
  refine wpAny_call ?_
  k_dflt cell_enter
  k_steps
  exact hret _ _ _ _ (by k_asm) (by k_asm) ⟨_, _, _, _, _, _, _, _, _, rfl, rfl, by assumption, by assumption⟩
end
section
open PySem PySem.W PyProof.Rows
theorem dropW {h₀ h : Heap} {L : Addr} {x y a b c z : Addr × Obj} {l : Led} (N : News h₀ L h (x :: y :: a :: b :: c :: z :: l)) : News h₀ L h (x :: y :: a :: b :: c :: l) :=
  N.perm fun p hp => by simp only [List.mem_cons] at hp ⊢; rcases hp with h | h | h | h | h | h <;> simp [h]

set_option maxRecDepth 100000 in
set_option maxHeartbeats 4000000 in
theorem c_place (w : World) (news : Led) (R dR P : Addr) (es : List TkE) (p n : Int) (k1 k2 k3 t2 t3 : Tok) (hE : ∀ e ∈ es, e.entry ∈ news) (hl : es.length ≤ 100) (A : List UInt8) (hA : At es p (.atom A)) (hB : A.length ≤ 100) (hC : At es (p + 1) (.sign 64)) (q : Int) (x : Str) (hD : Dom es (p + 1 + 1) q x) (hs1 : R ≠ dR) (hs2 : P ≠ dR) (hs3 : ∀ p ∈ news, p.1 ≠ dR) : Ct 9 w 329 ((R, instObj 290 dR) :: (dR, dictOf [⟨PyData.keyHash w.params (Str.ofString "tokens"), .str (Str.ofString "tokens") k1, .ref P⟩, ⟨PyData.keyHash w.params (Str.ofString "at"), .str (Str.ofString "at") k2, .int (p) t2⟩, ⟨PyData.keyHash w.params (Str.ofString "length"), .str (Str.ofString "length") k3, .int n t3⟩] 3) :: (P, LCg.lst (refs es)) :: news) [.ref R, .bool false] (fun r n9 => ∃ M dM k4 k5 k6 t4 t5 t6 t9, n9 = (M, instObj 175 dM) :: (dM, dictOf [⟨PyData.keyHash w.params (Str.ofString "name"), .str (Str.ofString "name") k4, .str (Str.ofString "") t4⟩, ⟨PyData.keyHash w.params (Str.ofString "local"), .str (Str.ofString "local") k5, .str (strOf A) t5⟩, ⟨PyData.keyHash w.params (Str.ofString "domain"), .str (Str.ofString "domain") k6, .str (x) t6⟩] 3) :: ((R, instObj 290 dR) :: (dR, dictOf [⟨PyData.keyHash w.params (Str.ofString "tokens"), .str (Str.ofString "tokens") k1, .ref P⟩, ⟨PyData.keyHash w.params (Str.ofString "at"), .str (Str.ofString "at") k2, .int (q) t9⟩, ⟨PyData.keyHash w.params (Str.ofString "length"), .str (Str.ofString "length") k3, .int n t3⟩] 3) :: (P, LCg.lst (refs es)) :: news) ∧ r = .ref M ∧ (@LT.lt Nat _ R dM ∧ @LT.lt Nat _ dR dM ∧ @LT.lt Nat _ P dM ∧ AllLt dM news) ∧ @LT.lt Nat _ dM M) (fun _ _ => False) := by
  k_with_none
  w_top off
  (k_with "compareOp In int bytes" => (refine in_int_bytes (by assumption) (by assumption) ?_))
  (k_with "subscriptTail Name Slice bytes ref" => (k_here; (with_reducible show wpAny _ _ (subscriptTail _ (Expr.Slice _ _ none _) (Value.bytes _ _) (Value.ref _)) _ _ _); k_dflt (refine' slice_b (s := ⟨_, _, _, _, _⟩) ?f ?n ?a ?b ?c ?_; (case f => k_asm); (case n => k_asm); (case a => omega); (case b => omega); (case c => omega)); intro _ _ _ F' N'))
  (k_with "subscriptTail" => (k_here; (with_reducible show wpAny _ _ (subscriptTail _ _ (Value.bytes _ _) (Value.int _ _)) _ _ _); (refine item_b (by omega) (by omega) (by omega) ?_); intro _ _ _ _))
  (k_with "compareOp Eq bytes bytes" => (first | refine eq_cut1 (k := 10) (by omega) (by omega) (by decide) ?_ | refine eq_cut1 (k := 34) (by omega) (by omega) (by decide) ?_ | refine eq_cut1 (k := 40) (by omega) (by omega) (by decide) ?_ | refine eq_cut1 (k := 91) (by omega) (by omega) (by decide) ?_ | refine eq_cut2 (k := 13) (by omega) (by omega) (by decide) (by omega) ?_))
  (k_with "compareOp In int ref" => (k_here; k_dflt (first | refine in_tup2 (News.isTup (by k_asm) (by k_mem)) ?_ | refine in_tup3 (tupK (by k_in) (by k_is)) ?_)))
  (k_with "ite" => (k_here; k_openite; first | (refine ite_pos (by (simp only [decide_eq_true_eq, Bool.and_eq_true, Bool.or_eq_true, Bool.not_eq_true', decide_eq_false_iff_not]; omega)) ?_; walk_say "PRUNED (own)") | (refine ite_neg (by (simp only [decide_eq_true_eq, Bool.and_eq_true, Bool.or_eq_true, Bool.not_eq_true', decide_eq_false_iff_not]; omega)) ?_; walk_say "PRUNED (own)")))
  (k_with "Unr" => (first | refine Unr.succ ?_ | refine Unr.zero ?_))
  (k_with "own k_all" => (first | exact ne_below (by assumption) | exact ne_allLt (by assumption) | exact ne_allLt2 (by assumption)))
  (k_with "own size_fits" => (((try simp only [List.size_toArray, PySem.sizeLine_eq]); omega)))
  (k_with "exec While Compare cons nil" => (k_here; refine Hold.mk ?_))
  (k_with "exec While BoolOp cons nil" => (k_here; refine Hold.mk ?_))
  (k_with "exec While Constant cons nil" => (k_here; refine Hold.mk ?_))
  (k_with "exec While UnaryOp cons nil" => (k_here; refine Hold.mk ?_))
  (k_with "KswEnd" => (refine Hold.mk ?_))
  (k_with "call builtin:len" => (k_here; (with_reducible show wpAny _ _ (call (Value.builtin "len") [Value.ref _]) _ _ _); k_dflt (refine' len_refs ?k1 ?k2 ?k3 ?_; (case k1 => k_asm); (case k2 => k_mem); (case k3 => omega)); intro _ _))
  (k_with "subscriptTail" => (k_here; (with_reducible show wpAny _ _ (subscriptTail _ _ (Value.ref _) (Value.int _ _)) _ _ _); k_dflt (refine' item_tupleT (News.isTup ?t ?m) ?a ?b ?c ?d ?_; (case t => k_asm); (case m => kst_mem); (case a => decide); (case b => decide); (case c => rfl); (case d => rfl))))
  (k_with "call ref" => (k_here; (with_reducible show wpAny _ _ (call (Value.ref 238) _) _ _ _); k_dflt (refine' Ct.use (c_is_done_no _ _ _ _ _ _ _ _ _ _ _ _ _ ?hE ?hl _ ?hA) ?k1 ?k2 ?k3 ?k4 ?k5 ?kK ?kd ?ku ?_ ?ke; (case k1 => k_asm); (case k2 => k_asm); (case k3 => k_asm); (case k4 => first | k_asm | exact perm1 (by k_asm) | exact perm2 (by k_asm) | exact perm3 (by k_asm)); (case k5 => k_asm); (case hE => first | assumption | exact ent_mem0 | (refine ent_tail ?_; first | assumption | exact ent_mem0 | (refine ent_tail ?_; first | assumption | exact ent_mem0 | (refine ent_tail ?_; first | assumption | exact ent_mem0 | (refine ent_tail ?_; first | assumption | exact ent_mem0 | (refine ent_tail ?_; first | assumption | exact ent_mem0 | (refine ent_tail ?_; first | assumption | exact ent_mem0))))))); (case hl => first | assumption | omega); (case hA => first | assumption); (case kK => first | exact rfl | assumption); (case kd => ktr_room); (case ku => ktr_units); (case ke => (intro _ _ _ _ _ _ hF; exact hF.elim)); (intro r n h' tk' F' N' hR; (obtain ⟨hn9, hr9⟩ := hR; replace hn9 := hn9.symm; subst hn9 hr9); (try dsimp only); (try k_fold)))))
  (k_with "call ref" => (k_here; (with_reducible show wpAny _ _ (call (Value.ref 238) _) _ _ _); k_dflt (refine' Ct.use (c_is_done_end _ _ _ _ _ _ _ _ _ _ _ _ _ ?hE ?hl ?hA) ?k1 ?k2 ?k3 ?k4 ?k5 ?kK ?kd ?ku ?_ ?ke; (case k1 => k_asm); (case k2 => k_asm); (case k3 => k_asm); (case k4 => first | k_asm | exact perm1 (by k_asm) | exact perm2 (by k_asm) | exact perm3 (by k_asm)); (case k5 => k_asm); (case hE => first | assumption | exact ent_mem0 | (refine ent_tail ?_; first | assumption | exact ent_mem0 | (refine ent_tail ?_; first | assumption | exact ent_mem0 | (refine ent_tail ?_; first | assumption | exact ent_mem0 | (refine ent_tail ?_; first | assumption | exact ent_mem0 | (refine ent_tail ?_; first | assumption | exact ent_mem0 | (refine ent_tail ?_; first | assumption | exact ent_mem0))))))); (case hl => first | assumption | omega); (case hA => first | assumption); (case kK => first | exact rfl | assumption); (case kd => ktr_room); (case ku => ktr_units); (case ke => (intro _ _ _ _ _ _ hF; exact hF.elim)); (intro r n h' tk' F' N' hR; (obtain ⟨hn9, hr9⟩ := hR; replace hn9 := hn9.symm; subst hn9 hr9); (try dsimp only); (try k_fold)))))
  (k_with "call ref" => (k_here; (with_reducible show wpAny _ _ (call (Value.ref 245) _) _ _ _); k_dflt (refine' Ct.use (c_kind _ _ _ _ _ _ _ _ _ _ _ _ _ ?hE ?hl _ ?hA) ?k1 ?k2 ?k3 ?k4 ?k5 ?kK ?kd ?ku ?_ ?ke; (case k1 => k_asm); (case k2 => k_asm); (case k3 => k_asm); (case k4 => first | k_asm | exact perm1 (by k_asm) | exact perm2 (by k_asm) | exact perm3 (by k_asm)); (case k5 => k_asm); (case hE => first | assumption | exact ent_mem0 | (refine ent_tail ?_; first | assumption | exact ent_mem0 | (refine ent_tail ?_; first | assumption | exact ent_mem0 | (refine ent_tail ?_; first | assumption | exact ent_mem0 | (refine ent_tail ?_; first | assumption | exact ent_mem0 | (refine ent_tail ?_; first | assumption | exact ent_mem0 | (refine ent_tail ?_; first | assumption | exact ent_mem0))))))); (case hl => first | assumption | omega); (case hA => first | assumption); (case kK => first | exact rfl | assumption); (case kd => ktr_room); (case ku => ktr_units); (case ke => (intro _ _ _ _ _ _ hF; exact hF.elim)); (intro r n h' tk' F' N' hR; (obtain ⟨hn9, t9, hr9⟩ := hR; replace hn9 := hn9.symm; subst hn9 hr9; (try dsimp only [Tk.kind])); (try dsimp only); (try k_fold)))))
  (k_with "call ref" => (k_here; (with_reducible show wpAny _ _ (call (Value.ref 245) _) _ _ _); k_dflt (refine' Ct.use (c_kind_end _ _ _ _ _ _ _ _ _ _ _ _ _ ?hE ?hl ?hA) ?k1 ?k2 ?k3 ?k4 ?k5 ?kK ?kd ?ku ?_ ?ke; (case k1 => k_asm); (case k2 => k_asm); (case k3 => k_asm); (case k4 => first | k_asm | exact perm1 (by k_asm) | exact perm2 (by k_asm) | exact perm3 (by k_asm)); (case k5 => k_asm); (case hE => first | assumption | exact ent_mem0 | (refine ent_tail ?_; first | assumption | exact ent_mem0 | (refine ent_tail ?_; first | assumption | exact ent_mem0 | (refine ent_tail ?_; first | assumption | exact ent_mem0 | (refine ent_tail ?_; first | assumption | exact ent_mem0 | (refine ent_tail ?_; first | assumption | exact ent_mem0 | (refine ent_tail ?_; first | assumption | exact ent_mem0))))))); (case hl => first | assumption | omega); (case hA => first | assumption); (case kK => first | exact rfl | assumption); (case kd => ktr_room); (case ku => ktr_units); (case ke => (intro _ _ _ _ _ _ hF; exact hF.elim)); (intro r n h' tk' F' N' hR; (obtain ⟨hn9, t9, hr9⟩ := hR; replace hn9 := hn9.symm; subst hn9 hr9; (try dsimp only [Tk.kind])); (try dsimp only); (try k_fold)))))
  (k_with "call ref" => (k_here; (with_reducible show wpAny _ _ (call (Value.ref 252) _) _ _ _); k_dflt (refine' Ct.use (c_stands _ _ _ _ _ _ _ _ _ _ _ _ _ ?hE ?hl _ ?hA _ _ true ?hb) ?k1 ?k2 ?k3 ?k4 ?k5 ?kK ?kd ?ku ?_ ?ke; (case k1 => k_asm); (case k2 => k_asm); (case k3 => k_asm); (case k4 => first | k_asm | exact perm1 (by k_asm) | exact perm2 (by k_asm) | exact perm3 (by k_asm)); (case k5 => k_asm); (case hE => first | assumption | exact ent_mem0 | (refine ent_tail ?_; first | assumption | exact ent_mem0 | (refine ent_tail ?_; first | assumption | exact ent_mem0 | (refine ent_tail ?_; first | assumption | exact ent_mem0 | (refine ent_tail ?_; first | assumption | exact ent_mem0 | (refine ent_tail ?_; first | assumption | exact ent_mem0 | (refine ent_tail ?_; first | assumption | exact ent_mem0))))))); (case hl => first | assumption | omega); (case hA => first | assumption); (case hb => first | assumption | rfl); (case kK => first | exact rfl | assumption); (case kd => ktr_room); (case ku => ktr_units); (case ke => (intro _ _ _ _ _ _ hF; exact hF.elim)); (intro r n h' tk' F' N' hR; (obtain ⟨hn9, hr9⟩ := hR; replace hn9 := hn9.symm; subst hn9 hr9); (try dsimp only); (try k_fold)))))
  (k_with "call ref" => (k_here; (with_reducible show wpAny _ _ (call (Value.ref 252) _) _ _ _); k_dflt (refine' Ct.use (c_stands _ _ _ _ _ _ _ _ _ _ _ _ _ ?hE ?hl _ ?hA _ _ false ?hb) ?k1 ?k2 ?k3 ?k4 ?k5 ?kK ?kd ?ku ?_ ?ke; (case k1 => k_asm); (case k2 => k_asm); (case k3 => k_asm); (case k4 => first | k_asm | exact perm1 (by k_asm) | exact perm2 (by k_asm) | exact perm3 (by k_asm)); (case k5 => k_asm); (case hE => first | assumption | exact ent_mem0 | (refine ent_tail ?_; first | assumption | exact ent_mem0 | (refine ent_tail ?_; first | assumption | exact ent_mem0 | (refine ent_tail ?_; first | assumption | exact ent_mem0 | (refine ent_tail ?_; first | assumption | exact ent_mem0 | (refine ent_tail ?_; first | assumption | exact ent_mem0 | (refine ent_tail ?_; first | assumption | exact ent_mem0))))))); (case hl => first | assumption | omega); (case hA => first | assumption); (case hb => first | assumption | rfl); (case kK => first | exact rfl | assumption); (case kd => ktr_room); (case ku => ktr_units); (case ke => (intro _ _ _ _ _ _ hF; exact hF.elim)); (intro r n h' tk' F' N' hR; (obtain ⟨hn9, hr9⟩ := hR; replace hn9 := hn9.symm; subst hn9 hr9); (try dsimp only); (try k_fold)))))
  (k_with "call ref" => (k_here; (with_reducible show wpAny _ _ (call (Value.ref 252) _) _ _ _); k_dflt (refine' Ct.use (c_stands_end _ _ _ _ _ _ _ _ _ _ _ _ _ ?hE ?hl ?hA _ _) ?k1 ?k2 ?k3 ?k4 ?k5 ?kK ?kd ?ku ?_ ?ke; (case k1 => k_asm); (case k2 => k_asm); (case k3 => k_asm); (case k4 => first | k_asm | exact perm1 (by k_asm) | exact perm2 (by k_asm) | exact perm3 (by k_asm)); (case k5 => k_asm); (case hE => first | assumption | exact ent_mem0 | (refine ent_tail ?_; first | assumption | exact ent_mem0 | (refine ent_tail ?_; first | assumption | exact ent_mem0 | (refine ent_tail ?_; first | assumption | exact ent_mem0 | (refine ent_tail ?_; first | assumption | exact ent_mem0 | (refine ent_tail ?_; first | assumption | exact ent_mem0 | (refine ent_tail ?_; first | assumption | exact ent_mem0))))))); (case hl => first | assumption | omega); (case hA => first | assumption); (case kK => first | exact rfl | assumption); (case kd => ktr_room); (case ku => ktr_units); (case ke => (intro _ _ _ _ _ _ hF; exact hF.elim)); (intro r n h' tk' F' N' hR; (obtain ⟨hn9, hr9⟩ := hR; replace hn9 := hn9.symm; subst hn9 hr9); (try dsimp only); (try k_fold)))))
  (k_with "call ref" => (k_here; (with_reducible show wpAny _ _ (call (Value.ref 259) _) _ _ _); k_dflt (refine' Ct.use (c_take _ _ _ _ _ _ _ _ _ _ _ _ _ ?hE ?hl _ ?hA ?hs1 ?hs2 ?hs3) ?k1 ?k2 ?k3 ?k4 ?k5 ?kK ?kd ?ku ?_ ?ke; (case k1 => k_asm); (case k2 => k_asm); (case k3 => k_asm); (case k4 => first | k_asm | exact perm1 (by k_asm) | exact perm2 (by k_asm) | exact perm3 (by k_asm)); (case k5 => k_asm); (case hE => first | assumption | exact ent_mem0 | (refine ent_tail ?_; first | assumption | exact ent_mem0 | (refine ent_tail ?_; first | assumption | exact ent_mem0 | (refine ent_tail ?_; first | assumption | exact ent_mem0 | (refine ent_tail ?_; first | assumption | exact ent_mem0 | (refine ent_tail ?_; first | assumption | exact ent_mem0 | (refine ent_tail ?_; first | assumption | exact ent_mem0))))))); (case hl => first | assumption | omega); (case hA => first | assumption); (case hs1 => first | assumption | k_ne); (case hs2 => first | assumption | k_ne); (case hs3 => first | assumption | (refine apart_cons (by first | assumption | k_ne | (dsimp only; k_ne) | (dsimp only; omega)) ?_; first | assumption | (refine apart_cons (by first | assumption | k_ne | (dsimp only; k_ne) | (dsimp only; omega)) ?_; first | assumption | (refine apart_cons (by first | assumption | k_ne | (dsimp only; k_ne) | (dsimp only; omega)) ?_; first | assumption | (refine apart_cons (by first | assumption | k_ne | (dsimp only; k_ne) | (dsimp only; omega)) ?_; first | assumption | (refine apart_cons (by first | assumption | k_ne | (dsimp only; k_ne) | (dsimp only; omega)) ?_; first | assumption | (refine apart_cons (by first | assumption | k_ne | (dsimp only; k_ne) | (dsimp only; omega)) ?_; first | assumption))))))); (case kK => first | exact rfl | assumption); (case kd => ktr_room); (case ku => ktr_units); (case ke => (intro _ _ _ _ _ _ hF; exact hF.elim)); (intro r n h' tk' F' N' hR; (obtain ⟨e9, t9, he9, ht9, hm9, hn9, hr9⟩ := hR; replace hn9 := hn9.symm; subst hn9 hr9; dsimp only [Tk.kind, Tk.worth] at hm9); (try dsimp only); (try k_fold)))))
  (k_with "call ref" => (k_here; (with_reducible show wpAny _ _ (call (Value.ref 266) _) _ _ _); k_dflt (refine' Ct.use (c_skip_yes _ _ _ _ _ _ _ _ _ _ _ _ _ ?hE ?hl _ ?hA _ _ ?hb ?hs1 ?hs2 ?hs3) ?k1 ?k2 ?k3 ?k4 ?k5 ?kK ?kd ?ku ?_ ?ke; (case k1 => k_asm); (case k2 => k_asm); (case k3 => k_asm); (case k4 => first | k_asm | exact perm1 (by k_asm) | exact perm2 (by k_asm) | exact perm3 (by k_asm)); (case k5 => k_asm); (case hE => first | assumption | exact ent_mem0 | (refine ent_tail ?_; first | assumption | exact ent_mem0 | (refine ent_tail ?_; first | assumption | exact ent_mem0 | (refine ent_tail ?_; first | assumption | exact ent_mem0 | (refine ent_tail ?_; first | assumption | exact ent_mem0 | (refine ent_tail ?_; first | assumption | exact ent_mem0 | (refine ent_tail ?_; first | assumption | exact ent_mem0))))))); (case hl => first | assumption | omega); (case hA => first | assumption); (case hb => first | assumption | rfl); (case hs1 => first | assumption | k_ne); (case hs2 => first | assumption | k_ne); (case hs3 => first | assumption | (refine apart_cons (by first | assumption | k_ne | (dsimp only; k_ne) | (dsimp only; omega)) ?_; first | assumption | (refine apart_cons (by first | assumption | k_ne | (dsimp only; k_ne) | (dsimp only; omega)) ?_; first | assumption | (refine apart_cons (by first | assumption | k_ne | (dsimp only; k_ne) | (dsimp only; omega)) ?_; first | assumption | (refine apart_cons (by first | assumption | k_ne | (dsimp only; k_ne) | (dsimp only; omega)) ?_; first | assumption | (refine apart_cons (by first | assumption | k_ne | (dsimp only; k_ne) | (dsimp only; omega)) ?_; first | assumption | (refine apart_cons (by first | assumption | k_ne | (dsimp only; k_ne) | (dsimp only; omega)) ?_; first | assumption))))))); (case kK => first | exact rfl | assumption); (case kd => ktr_room); (case ku => ktr_units); (case ke => (intro _ _ _ _ _ _ hF; exact hF.elim)); (intro r n h' tk' F' N' hR; (obtain ⟨t9, hn9, hr9⟩ := hR; replace hn9 := hn9.symm; subst hn9 hr9); (try dsimp only); (try k_fold)))))
  (k_with "call ref" => (k_here; (with_reducible show wpAny _ _ (call (Value.ref 266) _) _ _ _); k_dflt (refine' Ct.use (c_skip_no _ _ _ _ _ _ _ _ _ _ _ _ _ ?hE ?hl _ ?hA _ _ ?hb) ?k1 ?k2 ?k3 ?k4 ?k5 ?kK ?kd ?ku ?_ ?ke; (case k1 => k_asm); (case k2 => k_asm); (case k3 => k_asm); (case k4 => first | k_asm | exact perm1 (by k_asm) | exact perm2 (by k_asm) | exact perm3 (by k_asm)); (case k5 => k_asm); (case hE => first | assumption | exact ent_mem0 | (refine ent_tail ?_; first | assumption | exact ent_mem0 | (refine ent_tail ?_; first | assumption | exact ent_mem0 | (refine ent_tail ?_; first | assumption | exact ent_mem0 | (refine ent_tail ?_; first | assumption | exact ent_mem0 | (refine ent_tail ?_; first | assumption | exact ent_mem0 | (refine ent_tail ?_; first | assumption | exact ent_mem0))))))); (case hl => first | assumption | omega); (case hA => first | assumption); (case hb => first | assumption | rfl); (case kK => first | exact rfl | assumption); (case kd => ktr_room); (case ku => ktr_units); (case ke => (intro _ _ _ _ _ _ hF; exact hF.elim)); (intro r n h' tk' F' N' hR; (obtain ⟨hn9, hr9⟩ := hR; replace hn9 := hn9.symm; subst hn9 hr9); (try dsimp only); (try k_fold)))))
  (k_with "call ref" => (k_here; (with_reducible show wpAny _ _ (call (Value.ref 266) _) _ _ _); k_dflt (refine' Ct.use (c_skip_end _ _ _ _ _ _ _ _ _ _ _ _ _ ?hE ?hl ?hA _ _) ?k1 ?k2 ?k3 ?k4 ?k5 ?kK ?kd ?ku ?_ ?ke; (case k1 => k_asm); (case k2 => k_asm); (case k3 => k_asm); (case k4 => first | k_asm | exact perm1 (by k_asm) | exact perm2 (by k_asm) | exact perm3 (by k_asm)); (case k5 => k_asm); (case hE => first | assumption | exact ent_mem0 | (refine ent_tail ?_; first | assumption | exact ent_mem0 | (refine ent_tail ?_; first | assumption | exact ent_mem0 | (refine ent_tail ?_; first | assumption | exact ent_mem0 | (refine ent_tail ?_; first | assumption | exact ent_mem0 | (refine ent_tail ?_; first | assumption | exact ent_mem0 | (refine ent_tail ?_; first | assumption | exact ent_mem0))))))); (case hl => first | assumption | omega); (case hA => first | assumption); (case kK => first | exact rfl | assumption); (case kd => ktr_room); (case ku => ktr_units); (case ke => (intro _ _ _ _ _ _ hF; exact hF.elim)); (intro r n h' tk' F' N' hR; (obtain ⟨hn9, hr9⟩ := hR; replace hn9 := hn9.symm; subst hn9 hr9); (try dsimp only); (try k_fold)))))
  (k_with "call ref" => (k_here; (with_reducible show wpAny _ _ (call (Value.ref 280) _) _ _ _); k_dflt (refine' Ct.use (c_need _ _ _ _ _ _ _ _ _ _ _ _ _ ?hE ?hl _ ?hA _ _ ?hb ?hs1 ?hs2 ?hs3) ?k1 ?k2 ?k3 ?k4 ?k5 ?kK ?kd ?ku ?_ ?ke; (case k1 => k_asm); (case k2 => k_asm); (case k3 => k_asm); (case k4 => first | k_asm | exact perm1 (by k_asm) | exact perm2 (by k_asm) | exact perm3 (by k_asm)); (case k5 => k_asm); (case hE => first | assumption | exact ent_mem0 | (refine ent_tail ?_; first | assumption | exact ent_mem0 | (refine ent_tail ?_; first | assumption | exact ent_mem0 | (refine ent_tail ?_; first | assumption | exact ent_mem0 | (refine ent_tail ?_; first | assumption | exact ent_mem0 | (refine ent_tail ?_; first | assumption | exact ent_mem0 | (refine ent_tail ?_; first | assumption | exact ent_mem0))))))); (case hl => first | assumption | omega); (case hA => first | assumption); (case hb => first | assumption | rfl); (case hs1 => first | assumption | k_ne); (case hs2 => first | assumption | k_ne); (case hs3 => first | assumption | (refine apart_cons (by first | assumption | k_ne | (dsimp only; k_ne) | (dsimp only; omega)) ?_; first | assumption | (refine apart_cons (by first | assumption | k_ne | (dsimp only; k_ne) | (dsimp only; omega)) ?_; first | assumption | (refine apart_cons (by first | assumption | k_ne | (dsimp only; k_ne) | (dsimp only; omega)) ?_; first | assumption | (refine apart_cons (by first | assumption | k_ne | (dsimp only; k_ne) | (dsimp only; omega)) ?_; first | assumption | (refine apart_cons (by first | assumption | k_ne | (dsimp only; k_ne) | (dsimp only; omega)) ?_; first | assumption | (refine apart_cons (by first | assumption | k_ne | (dsimp only; k_ne) | (dsimp only; omega)) ?_; first | assumption))))))); (case kK => first | exact rfl | assumption); (case kd => ktr_room); (case ku => ktr_units); (case ke => (intro _ _ _ _ _ _ hF; exact hF.elim)); (intro r n h' tk' F' N' hR; (obtain ⟨t9, hn9, hr9⟩ := hR; replace hn9 := hn9.symm; subst hn9 hr9); (try dsimp only); (try k_fold)))))
  (k_with "call ref" => (k_here; (with_reducible show wpAny _ _ (call (Value.ref 287) _) _ _ _); k_dflt (refine' Ct.use (c_words _ _ _ _ _ _ _ _ _ _ _ _ _ ?hE ?hl _ ?hA ?hB ?hs1 ?hs2 ?hs3) ?k1 ?k2 ?k3 ?k4 ?k5 ?kK ?kd ?ku ?_ ?ke; (case k1 => k_asm); (case k2 => k_asm); (case k3 => k_asm); (case k4 => first | k_asm | exact perm1 (by k_asm) | exact perm2 (by k_asm) | exact perm3 (by k_asm)); (case k5 => k_asm); (case hE => first | assumption | exact ent_mem0 | (refine ent_tail ?_; first | assumption | exact ent_mem0 | (refine ent_tail ?_; first | assumption | exact ent_mem0 | (refine ent_tail ?_; first | assumption | exact ent_mem0 | (refine ent_tail ?_; first | assumption | exact ent_mem0 | (refine ent_tail ?_; first | assumption | exact ent_mem0 | (refine ent_tail ?_; first | assumption | exact ent_mem0))))))); (case hl => first | assumption | omega); (case hA => first | assumption); (case hB => first | assumption); (case hs1 => first | assumption | k_ne); (case hs2 => first | assumption | k_ne); (case hs3 => first | assumption | (refine apart_cons (by first | assumption | k_ne | (dsimp only; k_ne) | (dsimp only; omega)) ?_; first | assumption | (refine apart_cons (by first | assumption | k_ne | (dsimp only; k_ne) | (dsimp only; omega)) ?_; first | assumption | (refine apart_cons (by first | assumption | k_ne | (dsimp only; k_ne) | (dsimp only; omega)) ?_; first | assumption | (refine apart_cons (by first | assumption | k_ne | (dsimp only; k_ne) | (dsimp only; omega)) ?_; first | assumption | (refine apart_cons (by first | assumption | k_ne | (dsimp only; k_ne) | (dsimp only; omega)) ?_; first | assumption | (refine apart_cons (by first | assumption | k_ne | (dsimp only; k_ne) | (dsimp only; omega)) ?_; first | assumption))))))); (case kK => first | exact rfl | assumption); (case kd => ktr_room); (case ku => ktr_units); (case ke => (intro _ _ _ _ _ _ hF; exact hF.elim)); (intro r n h' tk' F' N' hR; (obtain ⟨W9, e9, t9, k9, hm9, hn9, hr9, l9⟩ := hR; replace hn9 := hn9.symm; subst hn9 hr9; (try k_lt l9)); (try dsimp only); (try k_fold)))))
  (k_with "call ref" => (k_here; (with_reducible show wpAny _ _ (call (Value.ref 301) _) _ _ _); k_dflt (refine' Ct.use (c_local_of _ _ _ _ _ _ _ _ _ _ _ ?hW ?hm ?hA) ?k1 ?k2 ?k3 ?k4 ?k5 ?kK ?kd ?ku ?_ ?ke; (case k1 => k_asm); (case k2 => k_asm); (case k3 => k_asm); (case k4 => first | k_asm | exact perm1 (by k_asm) | exact perm2 (by k_asm) | exact perm3 (by k_asm)); (case k5 => k_asm); (case hW => first | k_mem | kst_mem); (case hm => kst_mem); (case hA => first | assumption | omega); (case kK => first | exact rfl | assumption); (case kd => ktr_room); (case ku => ktr_units); (case ke => (intro _ _ _ _ _ _ hF; exact hF.elim)); (intro r n h' tk' F' N' hR; (obtain ⟨t9, hn9, hr9⟩ := hR; replace hn9 := hn9.symm; subst hn9 hr9); (try dsimp only); (try k_fold)))))
  (k_with "call ref" => (k_here; (with_reducible show wpAny _ _ (call (Value.ref 322) _) _ _ _); k_dflt (refine' Ct.use (c_mailbox _ _ _ _ _ _ _ _ _ _ _ _ _ ?hE ?hl _ _ _ _ _ _ _ _ ?hW ?hm ?hA ?hB _ _ ?hD ?hs1 ?hs2 ?hs3) ?k1 ?k2 ?k3 ?k4 ?k5 ?kK ?kd ?ku ?_ ?ke; (case k1 => k_asm); (case k2 => k_asm); (case k3 => k_asm); (case k4 => first | k_asm | exact perm1 (by k_asm) | exact perm2 (by k_asm) | exact perm3 (by k_asm)); (case k5 => k_asm); (case hE => first | assumption | exact ent_mem0 | (refine ent_tail ?_; first | assumption | exact ent_mem0 | (refine ent_tail ?_; first | assumption | exact ent_mem0 | (refine ent_tail ?_; first | assumption | exact ent_mem0 | (refine ent_tail ?_; first | assumption | exact ent_mem0))))); (case hl => first | assumption | omega); (case hW => k_mem); (case hm => kst_mem); (case hA => first | assumption | omega); (case hB => assumption); (case hD => assumption); (case hs1 => first | assumption | k_ne); (case hs2 => first | assumption | k_ne); (case hs3 => first | assumption | (refine apart_cons (by first | assumption | k_ne | (dsimp only; k_ne) | (dsimp only; omega)) ?_; first | assumption | (refine apart_cons (by first | assumption | k_ne | (dsimp only; k_ne) | (dsimp only; omega)) ?_; first | assumption | (refine apart_cons (by first | assumption | k_ne | (dsimp only; k_ne) | (dsimp only; omega)) ?_; first | assumption | (refine apart_cons (by first | assumption | k_ne | (dsimp only; k_ne) | (dsimp only; omega)) ?_; first | assumption | (refine apart_cons (by first | assumption | k_ne | (dsimp only; k_ne) | (dsimp only; omega)) ?_; first | assumption)))))); (case kK => first | exact rfl | assumption); (case kd => ktr_room); (case ku => ktr_units); (case ke => (intro _ _ _ _ _ _ hF; exact hF.elim)); (intro r n h' tk' F' N' hR; (obtain ⟨M9, dM9, k4, k5, k6, t4, t5, t6, t9, hn9, hr9, l8, l9⟩ := hR; replace hn9 := hn9.symm; subst hn9 hr9; (try k_lt2 l9); (try k_lt l8)); (try dsimp only); (try k_fold)))))
  unfold Ct
  k_fill
  intro mean mg mb dp un gd cn cs a ccd cl outer A₀ base h₀ L m s Q E B F X N T hk hdp hun hret hexc
  refine wpAny_call ?_
  k_dflt cell_enter
  k_steps
  rename @LT.lt Nat _ R _ ∧ _ ∧ _ ∧ _ => l8
  exact hret _ _ _ _ (by k_asm) (dropW (by k_asm)) ⟨_, _, _, _, _, _, _, _, _, rfl, rfl, ⟨l8.1, l8.2.1, l8.2.2.1, l8.2.2.2.2⟩, by assumption⟩
end
section
open PySem PySem.W PyProof.Rows
set_option maxRecDepth 100000 in
set_option maxHeartbeats 4000000 in
theorem c_list (w : World) (news : Led) (R dR P : Addr) (es : List TkE) (p n : Int) (k1 k2 k3 t2 t3 : Tok) (hE : ∀ e ∈ es, e.entry ∈ news) (hl : es.length ≤ 100) (A Bb : List UInt8) (q z : Int) (x y : Str) (hA1 : At es p (.atom A)) (hsA : A.length ≤ 100) (hB1 : At es (p + 1) (.sign 64)) (hD1 : Dom es (p + 1 + 1) q x) (hC : At es q (.sign 44))
   (hA2 : At es (q + 1) (.atom Bb)) (hsB : Bb.length ≤ 100) (hB2 : At es (q + 1 + 1) (.sign 64)) (hD2 : Dom es (q + 1 + 1 + 1) z y) (hE2 : End es z) (hs1 : R ≠ dR) (hs2 : P ≠ dR) (hs3 : ∀ p ∈ news, p.1 ≠ dR) : Ct 10 w 336 ((R, instObj 290 dR) :: (dR, dictOf [⟨PyData.keyHash w.params (Str.ofString "tokens"), .str (Str.ofString "tokens") k1, .ref P⟩, ⟨PyData.keyHash w.params (Str.ofString "at"), .str (Str.ofString "at") k2, .int (p) t2⟩, ⟨PyData.keyHash w.params (Str.ofString "length"), .str (Str.ofString "length") k3, .int n t3⟩] 3) :: (P, LCg.lst (refs es)) :: news) [.ref R, .bool false] (fun r n9 => ∃ M1 e1 f4 f5 f6 v4 v5 v6 M2 e2 g4 g5 g6 u4 u5 u6 Fd kF t9, n9 = ((R, instObj 290 dR) :: (dR, dictOf [⟨PyData.keyHash w.params (Str.ofString "tokens"), .str (Str.ofString "tokens") k1, .ref P⟩, ⟨PyData.keyHash w.params (Str.ofString "at"), .str (Str.ofString "at") k2, .int (z) t9⟩, ⟨PyData.keyHash w.params (Str.ofString "length"), .str (Str.ofString "length") k3, .int n t3⟩] 3) :: (P, LCg.lst (refs es)) :: (M2, instObj 175 e2) :: (e2, dictOf [⟨PyData.keyHash w.params (Str.ofString "name"), .str (Str.ofString "name") g4, .str (Str.ofString "") u4⟩, ⟨PyData.keyHash w.params (Str.ofString "local"), .str (Str.ofString "local") g5, .str (strOf Bb) u5⟩, ⟨PyData.keyHash w.params (Str.ofString "domain"), .str (Str.ofString "domain") g6, .str (y) u6⟩] 3) :: (M1, instObj 175 e1) :: (e1, dictOf [⟨PyData.keyHash w.params (Str.ofString "name"), .str (Str.ofString "name") f4, .str (Str.ofString "") v4⟩, ⟨PyData.keyHash w.params (Str.ofString "local"), .str (Str.ofString "local") f5, .str (strOf A) v5⟩, ⟨PyData.keyHash w.params (Str.ofString "domain"), .str (Str.ofString "domain") f6, .str (x) v6⟩] 3) :: (Fd, listOf #[.ref M1, .ref M2] kF) :: news) ∧ r = .ref Fd) (fun _ _ => False) := by
  k_with_none
  w_top off
  (k_with "compareOp In int bytes" => (refine in_int_bytes (by assumption) (by assumption) ?_))
  (k_with "subscriptTail Name Slice bytes ref" => (k_here; (with_reducible show wpAny _ _ (subscriptTail _ (Expr.Slice _ _ none _) (Value.bytes _ _) (Value.ref _)) _ _ _); k_dflt (refine' slice_b (s := ⟨_, _, _, _, _⟩) ?f ?n ?a ?b ?c ?_; (case f => k_asm); (case n => k_asm); (case a => omega); (case b => omega); (case c => omega)); intro _ _ _ F' N'))
  (k_with "subscriptTail" => (k_here; (with_reducible show wpAny _ _ (subscriptTail _ _ (Value.bytes _ _) (Value.int _ _)) _ _ _); (refine item_b (by omega) (by omega) (by omega) ?_); intro _ _ _ _))
  (k_with "compareOp Eq bytes bytes" => (first | refine eq_cut1 (k := 10) (by omega) (by omega) (by decide) ?_ | refine eq_cut1 (k := 34) (by omega) (by omega) (by decide) ?_ | refine eq_cut1 (k := 40) (by omega) (by omega) (by decide) ?_ | refine eq_cut1 (k := 91) (by omega) (by omega) (by decide) ?_ | refine eq_cut2 (k := 13) (by omega) (by omega) (by decide) (by omega) ?_))
  (k_with "compareOp In int ref" => (k_here; k_dflt (first | refine in_tup2 (News.isTup (by k_asm) (by k_mem)) ?_ | refine in_tup3 (tupK (by k_in) (by k_is)) ?_)))
  (k_with "ite" => (k_here; k_openite; first | (refine ite_pos (by (simp only [decide_eq_true_eq, Bool.and_eq_true, Bool.or_eq_true, Bool.not_eq_true', decide_eq_false_iff_not]; omega)) ?_; walk_say "PRUNED (own)") | (refine ite_neg (by (simp only [decide_eq_true_eq, Bool.and_eq_true, Bool.or_eq_true, Bool.not_eq_true', decide_eq_false_iff_not]; omega)) ?_; walk_say "PRUNED (own)")))
  (k_with "Unr" => (first | refine Unr.succ ?_ | refine Unr.zero ?_))
  (k_with "own k_all" => (first | exact ne_below (by assumption) | exact ne_allLt (by assumption) | exact ne_allLt2 (by assumption)))
  (k_with "own size_fits" => (((try simp only [List.size_toArray, PySem.sizeLine_eq]); omega)))
  (k_with "exec While Compare cons nil" => (k_here; refine Hold.mk ?_))
  (k_with "exec While BoolOp cons nil" => (k_here; refine Hold.mk ?_))
  (k_with "exec While Constant cons nil" => (k_here; refine Hold.mk ?_))
  (k_with "exec While UnaryOp cons nil" => (k_here; refine Hold.mk ?_))
  (k_with "KswEnd" => (refine Hold.mk ?_))
  (k_with "call builtin:len" => (k_here; (with_reducible show wpAny _ _ (call (Value.builtin "len") [Value.ref _]) _ _ _); k_dflt (refine' len_refs ?k1 ?k2 ?k3 ?_; (case k1 => k_asm); (case k2 => k_mem); (case k3 => omega)); intro _ _))
  (k_with "subscriptTail" => (k_here; (with_reducible show wpAny _ _ (subscriptTail _ _ (Value.ref _) (Value.int _ _)) _ _ _); k_dflt (refine' item_tupleT (News.isTup ?t ?m) ?a ?b ?c ?d ?_; (case t => k_asm); (case m => kst_mem); (case a => decide); (case b => decide); (case c => rfl); (case d => rfl))))
  (k_with "call ref" => (k_here; (with_reducible show wpAny _ _ (call (Value.ref 238) _) _ _ _); k_dflt (refine' Ct.use (c_is_done_no _ _ _ _ _ _ _ _ _ _ _ _ _ ?hE ?hl _ ?hA) ?k1 ?k2 ?k3 ?k4 ?k5 ?kK ?kd ?ku ?_ ?ke; (case k1 => k_asm); (case k2 => k_asm); (case k3 => k_asm); (case k4 => first | k_asm | exact perm1 (by k_asm) | exact perm2 (by k_asm) | exact perm3 (by k_asm)); (case k5 => k_asm); (case hE => first | assumption | exact ent_mem0 | (refine ent_tail ?_; first | assumption | exact ent_mem0 | (refine ent_tail ?_; first | assumption | exact ent_mem0 | (refine ent_tail ?_; first | assumption | exact ent_mem0 | (refine ent_tail ?_; first | assumption | exact ent_mem0 | (refine ent_tail ?_; first | assumption | exact ent_mem0 | (refine ent_tail ?_; first | assumption | exact ent_mem0))))))); (case hl => first | assumption | omega); (case hA => first | assumption); (case kK => first | exact rfl | assumption); (case kd => ktr_room); (case ku => ktr_units); (case ke => (intro _ _ _ _ _ _ hF; exact hF.elim)); (intro r n h' tk' F' N' hR; (obtain ⟨hn9, hr9⟩ := hR; replace hn9 := hn9.symm; subst hn9 hr9); (try dsimp only); (try k_fold)))))
  (k_with "call ref" => (k_here; (with_reducible show wpAny _ _ (call (Value.ref 238) _) _ _ _); k_dflt (refine' Ct.use (c_is_done_end _ _ _ _ _ _ _ _ _ _ _ _ _ ?hE ?hl ?hA) ?k1 ?k2 ?k3 ?k4 ?k5 ?kK ?kd ?ku ?_ ?ke; (case k1 => k_asm); (case k2 => k_asm); (case k3 => k_asm); (case k4 => first | k_asm | exact perm1 (by k_asm) | exact perm2 (by k_asm) | exact perm3 (by k_asm)); (case k5 => k_asm); (case hE => first | assumption | exact ent_mem0 | (refine ent_tail ?_; first | assumption | exact ent_mem0 | (refine ent_tail ?_; first | assumption | exact ent_mem0 | (refine ent_tail ?_; first | assumption | exact ent_mem0 | (refine ent_tail ?_; first | assumption | exact ent_mem0 | (refine ent_tail ?_; first | assumption | exact ent_mem0 | (refine ent_tail ?_; first | assumption | exact ent_mem0))))))); (case hl => first | assumption | omega); (case hA => first | assumption); (case kK => first | exact rfl | assumption); (case kd => ktr_room); (case ku => ktr_units); (case ke => (intro _ _ _ _ _ _ hF; exact hF.elim)); (intro r n h' tk' F' N' hR; (obtain ⟨hn9, hr9⟩ := hR; replace hn9 := hn9.symm; subst hn9 hr9); (try dsimp only); (try k_fold)))))
  (k_with "call ref" => (k_here; (with_reducible show wpAny _ _ (call (Value.ref 245) _) _ _ _); k_dflt (refine' Ct.use (c_kind _ _ _ _ _ _ _ _ _ _ _ _ _ ?hE ?hl _ ?hA) ?k1 ?k2 ?k3 ?k4 ?k5 ?kK ?kd ?ku ?_ ?ke; (case k1 => k_asm); (case k2 => k_asm); (case k3 => k_asm); (case k4 => first | k_asm | exact perm1 (by k_asm) | exact perm2 (by k_asm) | exact perm3 (by k_asm)); (case k5 => k_asm); (case hE => first | assumption | exact ent_mem0 | (refine ent_tail ?_; first | assumption | exact ent_mem0 | (refine ent_tail ?_; first | assumption | exact ent_mem0 | (refine ent_tail ?_; first | assumption | exact ent_mem0 | (refine ent_tail ?_; first | assumption | exact ent_mem0 | (refine ent_tail ?_; first | assumption | exact ent_mem0 | (refine ent_tail ?_; first | assumption | exact ent_mem0))))))); (case hl => first | assumption | omega); (case hA => first | assumption); (case kK => first | exact rfl | assumption); (case kd => ktr_room); (case ku => ktr_units); (case ke => (intro _ _ _ _ _ _ hF; exact hF.elim)); (intro r n h' tk' F' N' hR; (obtain ⟨hn9, t9, hr9⟩ := hR; replace hn9 := hn9.symm; subst hn9 hr9; (try dsimp only [Tk.kind])); (try dsimp only); (try k_fold)))))
  (k_with "call ref" => (k_here; (with_reducible show wpAny _ _ (call (Value.ref 245) _) _ _ _); k_dflt (refine' Ct.use (c_kind_end _ _ _ _ _ _ _ _ _ _ _ _ _ ?hE ?hl ?hA) ?k1 ?k2 ?k3 ?k4 ?k5 ?kK ?kd ?ku ?_ ?ke; (case k1 => k_asm); (case k2 => k_asm); (case k3 => k_asm); (case k4 => first | k_asm | exact perm1 (by k_asm) | exact perm2 (by k_asm) | exact perm3 (by k_asm)); (case k5 => k_asm); (case hE => first | assumption | exact ent_mem0 | (refine ent_tail ?_; first | assumption | exact ent_mem0 | (refine ent_tail ?_; first | assumption | exact ent_mem0 | (refine ent_tail ?_; first | assumption | exact ent_mem0 | (refine ent_tail ?_; first | assumption | exact ent_mem0 | (refine ent_tail ?_; first | assumption | exact ent_mem0 | (refine ent_tail ?_; first | assumption | exact ent_mem0))))))); (case hl => first | assumption | omega); (case hA => first | assumption); (case kK => first | exact rfl | assumption); (case kd => ktr_room); (case ku => ktr_units); (case ke => (intro _ _ _ _ _ _ hF; exact hF.elim)); (intro r n h' tk' F' N' hR; (obtain ⟨hn9, t9, hr9⟩ := hR; replace hn9 := hn9.symm; subst hn9 hr9; (try dsimp only [Tk.kind])); (try dsimp only); (try k_fold)))))
  (k_with "call ref" => (k_here; (with_reducible show wpAny _ _ (call (Value.ref 252) _) _ _ _); k_dflt (refine' Ct.use (c_stands _ _ _ _ _ _ _ _ _ _ _ _ _ ?hE ?hl _ ?hA _ _ true ?hb) ?k1 ?k2 ?k3 ?k4 ?k5 ?kK ?kd ?ku ?_ ?ke; (case k1 => k_asm); (case k2 => k_asm); (case k3 => k_asm); (case k4 => first | k_asm | exact perm1 (by k_asm) | exact perm2 (by k_asm) | exact perm3 (by k_asm)); (case k5 => k_asm); (case hE => first | assumption | exact ent_mem0 | (refine ent_tail ?_; first | assumption | exact ent_mem0 | (refine ent_tail ?_; first | assumption | exact ent_mem0 | (refine ent_tail ?_; first | assumption | exact ent_mem0 | (refine ent_tail ?_; first | assumption | exact ent_mem0 | (refine ent_tail ?_; first | assumption | exact ent_mem0 | (refine ent_tail ?_; first | assumption | exact ent_mem0))))))); (case hl => first | assumption | omega); (case hA => first | assumption); (case hb => first | assumption | rfl); (case kK => first | exact rfl | assumption); (case kd => ktr_room); (case ku => ktr_units); (case ke => (intro _ _ _ _ _ _ hF; exact hF.elim)); (intro r n h' tk' F' N' hR; (obtain ⟨hn9, hr9⟩ := hR; replace hn9 := hn9.symm; subst hn9 hr9); (try dsimp only); (try k_fold)))))
  (k_with "call ref" => (k_here; (with_reducible show wpAny _ _ (call (Value.ref 252) _) _ _ _); k_dflt (refine' Ct.use (c_stands _ _ _ _ _ _ _ _ _ _ _ _ _ ?hE ?hl _ ?hA _ _ false ?hb) ?k1 ?k2 ?k3 ?k4 ?k5 ?kK ?kd ?ku ?_ ?ke; (case k1 => k_asm); (case k2 => k_asm); (case k3 => k_asm); (case k4 => first | k_asm | exact perm1 (by k_asm) | exact perm2 (by k_asm) | exact perm3 (by k_asm)); (case k5 => k_asm); (case hE => first | assumption | exact ent_mem0 | (refine ent_tail ?_; first | assumption | exact ent_mem0 | (refine ent_tail ?_; first | assumption | exact ent_mem0 | (refine ent_tail ?_; first | assumption | exact ent_mem0 | (refine ent_tail ?_; first | assumption | exact ent_mem0 | (refine ent_tail ?_; first | assumption | exact ent_mem0 | (refine ent_tail ?_; first | assumption | exact ent_mem0))))))); (case hl => first | assumption | omega); (case hA => first | assumption); (case hb => first | assumption | rfl); (case kK => first | exact rfl | assumption); (case kd => ktr_room); (case ku => ktr_units); (case ke => (intro _ _ _ _ _ _ hF; exact hF.elim)); (intro r n h' tk' F' N' hR; (obtain ⟨hn9, hr9⟩ := hR; replace hn9 := hn9.symm; subst hn9 hr9); (try dsimp only); (try k_fold)))))
  (k_with "call ref" => (k_here; (with_reducible show wpAny _ _ (call (Value.ref 252) _) _ _ _); k_dflt (refine' Ct.use (c_stands_end _ _ _ _ _ _ _ _ _ _ _ _ _ ?hE ?hl ?hA _ _) ?k1 ?k2 ?k3 ?k4 ?k5 ?kK ?kd ?ku ?_ ?ke; (case k1 => k_asm); (case k2 => k_asm); (case k3 => k_asm); (case k4 => first | k_asm | exact perm1 (by k_asm) | exact perm2 (by k_asm) | exact perm3 (by k_asm)); (case k5 => k_asm); (case hE => first | assumption | exact ent_mem0 | (refine ent_tail ?_; first | assumption | exact ent_mem0 | (refine ent_tail ?_; first | assumption | exact ent_mem0 | (refine ent_tail ?_; first | assumption | exact ent_mem0 | (refine ent_tail ?_; first | assumption | exact ent_mem0 | (refine ent_tail ?_; first | assumption | exact ent_mem0 | (refine ent_tail ?_; first | assumption | exact ent_mem0))))))); (case hl => first | assumption | omega); (case hA => first | assumption); (case kK => first | exact rfl | assumption); (case kd => ktr_room); (case ku => ktr_units); (case ke => (intro _ _ _ _ _ _ hF; exact hF.elim)); (intro r n h' tk' F' N' hR; (obtain ⟨hn9, hr9⟩ := hR; replace hn9 := hn9.symm; subst hn9 hr9); (try dsimp only); (try k_fold)))))
  (k_with "call ref" => (k_here; (with_reducible show wpAny _ _ (call (Value.ref 259) _) _ _ _); k_dflt (refine' Ct.use (c_take _ _ _ _ _ _ _ _ _ _ _ _ _ ?hE ?hl _ ?hA ?hs1 ?hs2 ?hs3) ?k1 ?k2 ?k3 ?k4 ?k5 ?kK ?kd ?ku ?_ ?ke; (case k1 => k_asm); (case k2 => k_asm); (case k3 => k_asm); (case k4 => first | k_asm | exact perm1 (by k_asm) | exact perm2 (by k_asm) | exact perm3 (by k_asm)); (case k5 => k_asm); (case hE => first | assumption | exact ent_mem0 | (refine ent_tail ?_; first | assumption | exact ent_mem0 | (refine ent_tail ?_; first | assumption | exact ent_mem0 | (refine ent_tail ?_; first | assumption | exact ent_mem0 | (refine ent_tail ?_; first | assumption | exact ent_mem0 | (refine ent_tail ?_; first | assumption | exact ent_mem0 | (refine ent_tail ?_; first | assumption | exact ent_mem0))))))); (case hl => first | assumption | omega); (case hA => first | assumption); (case hs1 => first | assumption | k_ne); (case hs2 => first | assumption | k_ne); (case hs3 => first | assumption | (refine apart_cons (by first | assumption | k_ne | (dsimp only; k_ne) | (dsimp only; omega)) ?_; first | assumption | (refine apart_cons (by first | assumption | k_ne | (dsimp only; k_ne) | (dsimp only; omega)) ?_; first | assumption | (refine apart_cons (by first | assumption | k_ne | (dsimp only; k_ne) | (dsimp only; omega)) ?_; first | assumption | (refine apart_cons (by first | assumption | k_ne | (dsimp only; k_ne) | (dsimp only; omega)) ?_; first | assumption | (refine apart_cons (by first | assumption | k_ne | (dsimp only; k_ne) | (dsimp only; omega)) ?_; first | assumption | (refine apart_cons (by first | assumption | k_ne | (dsimp only; k_ne) | (dsimp only; omega)) ?_; first | assumption))))))); (case kK => first | exact rfl | assumption); (case kd => ktr_room); (case ku => ktr_units); (case ke => (intro _ _ _ _ _ _ hF; exact hF.elim)); (intro r n h' tk' F' N' hR; (obtain ⟨e9, t9, he9, ht9, hm9, hn9, hr9⟩ := hR; replace hn9 := hn9.symm; subst hn9 hr9; dsimp only [Tk.kind, Tk.worth] at hm9); (try dsimp only); (try k_fold)))))
  (k_with "call ref" => (k_here; (with_reducible show wpAny _ _ (call (Value.ref 266) _) _ _ _); k_dflt (refine' Ct.use (c_skip_yes _ _ _ _ _ _ _ _ _ _ _ _ _ ?hE ?hl _ ?hA _ _ ?hb ?hs1 ?hs2 ?hs3) ?k1 ?k2 ?k3 ?k4 ?k5 ?kK ?kd ?ku ?_ ?ke; (case k1 => k_asm); (case k2 => k_asm); (case k3 => k_asm); (case k4 => first | k_asm | exact perm1 (by k_asm) | exact perm2 (by k_asm) | exact perm3 (by k_asm)); (case k5 => k_asm); (case hE => first | assumption | exact ent_mem0 | (refine ent_tail ?_; first | assumption | exact ent_mem0 | (refine ent_tail ?_; first | assumption | exact ent_mem0 | (refine ent_tail ?_; first | assumption | exact ent_mem0 | (refine ent_tail ?_; first | assumption | exact ent_mem0 | (refine ent_tail ?_; first | assumption | exact ent_mem0 | (refine ent_tail ?_; first | assumption | exact ent_mem0))))))); (case hl => first | assumption | omega); (case hA => first | assumption); (case hb => first | assumption | rfl); (case hs1 => first | assumption | k_ne); (case hs2 => first | assumption | k_ne); (case hs3 => first | assumption | (refine apart_cons (by first | assumption | k_ne | (dsimp only; k_ne) | (dsimp only; omega)) ?_; first | assumption | (refine apart_cons (by first | assumption | k_ne | (dsimp only; k_ne) | (dsimp only; omega)) ?_; first | assumption | (refine apart_cons (by first | assumption | k_ne | (dsimp only; k_ne) | (dsimp only; omega)) ?_; first | assumption | (refine apart_cons (by first | assumption | k_ne | (dsimp only; k_ne) | (dsimp only; omega)) ?_; first | assumption | (refine apart_cons (by first | assumption | k_ne | (dsimp only; k_ne) | (dsimp only; omega)) ?_; first | assumption | (refine apart_cons (by first | assumption | k_ne | (dsimp only; k_ne) | (dsimp only; omega)) ?_; first | assumption))))))); (case kK => first | exact rfl | assumption); (case kd => ktr_room); (case ku => ktr_units); (case ke => (intro _ _ _ _ _ _ hF; exact hF.elim)); (intro r n h' tk' F' N' hR; (obtain ⟨t9, hn9, hr9⟩ := hR; replace hn9 := hn9.symm; subst hn9 hr9); (try dsimp only); (try k_fold)))))
  (k_with "call ref" => (k_here; (with_reducible show wpAny _ _ (call (Value.ref 266) _) _ _ _); k_dflt (refine' Ct.use (c_skip_no _ _ _ _ _ _ _ _ _ _ _ _ _ ?hE ?hl _ ?hA _ _ ?hb) ?k1 ?k2 ?k3 ?k4 ?k5 ?kK ?kd ?ku ?_ ?ke; (case k1 => k_asm); (case k2 => k_asm); (case k3 => k_asm); (case k4 => first | k_asm | exact perm1 (by k_asm) | exact perm2 (by k_asm) | exact perm3 (by k_asm)); (case k5 => k_asm); (case hE => first | assumption | exact ent_mem0 | (refine ent_tail ?_; first | assumption | exact ent_mem0 | (refine ent_tail ?_; first | assumption | exact ent_mem0 | (refine ent_tail ?_; first | assumption | exact ent_mem0 | (refine ent_tail ?_; first | assumption | exact ent_mem0 | (refine ent_tail ?_; first | assumption | exact ent_mem0 | (refine ent_tail ?_; first | assumption | exact ent_mem0))))))); (case hl => first | assumption | omega); (case hA => first | assumption); (case hb => first | assumption | rfl); (case kK => first | exact rfl | assumption); (case kd => ktr_room); (case ku => ktr_units); (case ke => (intro _ _ _ _ _ _ hF; exact hF.elim)); (intro r n h' tk' F' N' hR; (obtain ⟨hn9, hr9⟩ := hR; replace hn9 := hn9.symm; subst hn9 hr9); (try dsimp only); (try k_fold)))))
  (k_with "call ref" => (k_here; (with_reducible show wpAny _ _ (call (Value.ref 266) _) _ _ _); k_dflt (refine' Ct.use (c_skip_end _ _ _ _ _ _ _ _ _ _ _ _ _ ?hE ?hl ?hA _ _) ?k1 ?k2 ?k3 ?k4 ?k5 ?kK ?kd ?ku ?_ ?ke; (case k1 => k_asm); (case k2 => k_asm); (case k3 => k_asm); (case k4 => first | k_asm | exact perm1 (by k_asm) | exact perm2 (by k_asm) | exact perm3 (by k_asm)); (case k5 => k_asm); (case hE => first | assumption | exact ent_mem0 | (refine ent_tail ?_; first | assumption | exact ent_mem0 | (refine ent_tail ?_; first | assumption | exact ent_mem0 | (refine ent_tail ?_; first | assumption | exact ent_mem0 | (refine ent_tail ?_; first | assumption | exact ent_mem0 | (refine ent_tail ?_; first | assumption | exact ent_mem0 | (refine ent_tail ?_; first | assumption | exact ent_mem0))))))); (case hl => first | assumption | omega); (case hA => first | assumption); (case kK => first | exact rfl | assumption); (case kd => ktr_room); (case ku => ktr_units); (case ke => (intro _ _ _ _ _ _ hF; exact hF.elim)); (intro r n h' tk' F' N' hR; (obtain ⟨hn9, hr9⟩ := hR; replace hn9 := hn9.symm; subst hn9 hr9); (try dsimp only); (try k_fold)))))
  (k_with "call ref" => (k_here; (with_reducible show wpAny _ _ (call (Value.ref 280) _) _ _ _); k_dflt (refine' Ct.use (c_need _ _ _ _ _ _ _ _ _ _ _ _ _ ?hE ?hl _ ?hA _ _ ?hb ?hs1 ?hs2 ?hs3) ?k1 ?k2 ?k3 ?k4 ?k5 ?kK ?kd ?ku ?_ ?ke; (case k1 => k_asm); (case k2 => k_asm); (case k3 => k_asm); (case k4 => first | k_asm | exact perm1 (by k_asm) | exact perm2 (by k_asm) | exact perm3 (by k_asm)); (case k5 => k_asm); (case hE => first | assumption | exact ent_mem0 | (refine ent_tail ?_; first | assumption | exact ent_mem0 | (refine ent_tail ?_; first | assumption | exact ent_mem0 | (refine ent_tail ?_; first | assumption | exact ent_mem0 | (refine ent_tail ?_; first | assumption | exact ent_mem0 | (refine ent_tail ?_; first | assumption | exact ent_mem0 | (refine ent_tail ?_; first | assumption | exact ent_mem0))))))); (case hl => first | assumption | omega); (case hA => first | assumption); (case hb => first | assumption | rfl); (case hs1 => first | assumption | k_ne); (case hs2 => first | assumption | k_ne); (case hs3 => first | assumption | (refine apart_cons (by first | assumption | k_ne | (dsimp only; k_ne) | (dsimp only; omega)) ?_; first | assumption | (refine apart_cons (by first | assumption | k_ne | (dsimp only; k_ne) | (dsimp only; omega)) ?_; first | assumption | (refine apart_cons (by first | assumption | k_ne | (dsimp only; k_ne) | (dsimp only; omega)) ?_; first | assumption | (refine apart_cons (by first | assumption | k_ne | (dsimp only; k_ne) | (dsimp only; omega)) ?_; first | assumption | (refine apart_cons (by first | assumption | k_ne | (dsimp only; k_ne) | (dsimp only; omega)) ?_; first | assumption | (refine apart_cons (by first | assumption | k_ne | (dsimp only; k_ne) | (dsimp only; omega)) ?_; first | assumption))))))); (case kK => first | exact rfl | assumption); (case kd => ktr_room); (case ku => ktr_units); (case ke => (intro _ _ _ _ _ _ hF; exact hF.elim)); (intro r n h' tk' F' N' hR; (obtain ⟨t9, hn9, hr9⟩ := hR; replace hn9 := hn9.symm; subst hn9 hr9); (try dsimp only); (try k_fold)))))
  (k_with "call ref" => (k_here; (with_reducible show wpAny _ _ (call (Value.ref 329) _) _ _ _); k_dflt (refine' Ct.use (c_place _ _ _ _ _ _ _ _ _ _ _ _ _ ?hE ?hl _ ?hA ?hB ?hC _ _ ?hD ?hs1 ?hs2 ?hs3) ?k1 ?k2 ?k3 ?k4 ?k5 ?kK ?kd ?ku ?_ ?ke; (case k1 => k_asm); (case k2 => k_asm); (case k3 => k_asm); (case k4 => first | k_asm | exact perm1 (by k_asm) | exact perm2 (by k_asm) | exact perm3 (by k_asm)); (case k5 => k_asm); (case hE => first | assumption | exact ent_mem0 | (refine ent_tail ?_; first | assumption | exact ent_mem0 | (refine ent_tail ?_; first | assumption | exact ent_mem0 | (refine ent_tail ?_; first | assumption | exact ent_mem0 | (refine ent_tail ?_; first | assumption | exact ent_mem0 | (refine ent_tail ?_; first | assumption | exact ent_mem0 | (refine ent_tail ?_; first | assumption | exact ent_mem0))))))); (case hl => first | assumption | omega); (case hA => assumption); (case hB => first | assumption | omega); (case hC => assumption); (case hD => assumption); (case hs1 => first | assumption | k_ne); (case hs2 => first | assumption | k_ne); (case hs3 => first | assumption | (refine apart_cons (by first | assumption | k_ne | (dsimp only; k_ne) | (dsimp only; omega)) ?_; first | assumption | (refine apart_cons (by first | assumption | k_ne | (dsimp only; k_ne) | (dsimp only; omega)) ?_; first | assumption | (refine apart_cons (by first | assumption | k_ne | (dsimp only; k_ne) | (dsimp only; omega)) ?_; first | assumption | (refine apart_cons (by first | assumption | k_ne | (dsimp only; k_ne) | (dsimp only; omega)) ?_; first | assumption | (refine apart_cons (by first | assumption | k_ne | (dsimp only; k_ne) | (dsimp only; omega)) ?_; first | assumption | (refine apart_cons (by first | assumption | k_ne | (dsimp only; k_ne) | (dsimp only; omega)) ?_; first | assumption))))))); (case kK => first | exact rfl | assumption); (case kd => ktr_room); (case ku => ktr_units); (case ke => (intro _ _ _ _ _ _ hF; exact hF.elim)); (intro r n h' tk' F' N' hR; (obtain ⟨M9, dM9, k4, k5, k6, t4, t5, t6, t9, hn9, hr9, l8, l9⟩ := hR; replace hn9 := hn9.symm; subst hn9 hr9; (try dsimp only [AllLt] at l8); (try k_lt2 l9); (try k_lt l8)); (try dsimp only); (try k_fold)))))
  unfold Ct
  k_fill
  intro mean mg mb dp un gd cn cs a ccd cl outer A₀ base h₀ L m s Q E B F X N T hk hdp hun hret hexc
  refine wpAny_call ?_
  k_dflt cell_enter
  k_steps
  refine Hold.of ?_
  refine While_unr 3 ?_
  k_steps
  exact hret _ _ _ _ (by k_asm) (by k_asm) ⟨_, _, _, _, _, _, _, _, _, _, _, _, _, _, _, _, _, _, _, rfl, rfl⟩
end
section
open PySem PySem.W PyProof.Rows
set_option maxRecDepth 100000 in
set_option maxHeartbeats 4000000 in
theorem c_closed_at (w : World) (news : Led) (data : Array UInt8) (td : Tok) (hn : data.size ≤ 100) (begun : Int) (ta tb tc : Tok) (inner rest : List UInt8) (h0 : 0 ≤ begun) (hd : data.toList.drop (begun + 1).toNat = escL inner ++ 93 :: rest) (ht : ∀ c ∈ inner, tame c) (hi : inner.length ≤ 100) : Ct 5 w 90 news [.bytes data td, .int begun ta, .bytes #[93] tb, .bytes #[91] tc] (fun r n => ∃ D t1 t2, n = (D, tupOf [.bytes inner.toArray t1, .int (begun + 1 + (escL inner).length + 1) t2]) :: news ∧ (∀ p ∈ news, p.1 < D) ∧ r = .ref D) (fun _ _ => False) := by
  k_with_none
  w_top off
  (k_with "compareOp In int bytes" => (refine in_int_bytes (by assumption) (by assumption) ?_))
  (k_with "subscriptTail Name Slice bytes ref" => (k_here; (with_reducible show wpAny _ _ (subscriptTail _ (Expr.Slice _ _ none _) (Value.bytes _ _) (Value.ref _)) _ _ _); (with_reducible rename Fr _ _ _ _ => F'); (with_reducible rename News _ _ _ _ => N'); (refine slice_b (s := ⟨_, _, _, _, _⟩) F' N' (by omega) (by omega) (by omega) ?_); intro _ _ _ F' N'))
  (k_with "subscriptTail" => (k_here; (with_reducible show wpAny _ _ (subscriptTail _ _ (Value.bytes _ _) (Value.int _ _)) _ _ _); (refine item_b (by omega) (by omega) (by omega) ?_); intro _ _ _ _))
  (k_with "compareOp Eq bytes bytes" => (first | refine eq_cut1 (k := 10) (by omega) (by omega) (by decide) ?_ | refine eq_cut1 (k := 34) (by omega) (by omega) (by decide) ?_ | refine eq_cut1 (k := 40) (by omega) (by omega) (by decide) ?_ | refine eq_cut1 (k := 91) (by omega) (by omega) (by decide) ?_ | refine eq_cut2 (k := 13) (by omega) (by omega) (by decide) (by omega) ?_))
  (k_with "compareOp In int ref" => (k_here; k_dflt (first | refine in_tup2 (News.isTup (by k_asm) (by k_mem)) ?_ | refine in_tup3 (tupK (by k_in) (by k_is)) ?_)))
  (k_with "ite" => (k_here; k_openite; first | (refine ite_pos (by (simp only [decide_eq_true_eq, Bool.and_eq_true, Bool.or_eq_true, Bool.not_eq_true', decide_eq_false_iff_not]; omega)) ?_; walk_say "PRUNED (own)") | (refine ite_neg (by (simp only [decide_eq_true_eq, Bool.and_eq_true, Bool.or_eq_true, Bool.not_eq_true', decide_eq_false_iff_not]; omega)) ?_; walk_say "PRUNED (own)")))
  (k_with "Unr" => (first | refine Unr.succ ?_ | refine Unr.zero ?_))
  (k_with "own k_all" => (first | exact ne_below (by assumption) | exact ne_allLt (by assumption) | exact ne_allLt2 (by assumption)))
  (k_with "own size_fits" => (((try simp only [List.size_toArray, PySem.sizeLine_eq]); omega)))
  (k_with "getMethod bytes" => (first | refine method_join ?_ | refine method_split ?_))
  (k_with "call builtin:bytes.join" => (refine Hold.mk ?_))
  (k_with "compareOp NotEq bytes bytes" => (refine ne_cut1 (k := 93) (by omega) (by omega) (by decide) ?_))
  (k_with "compareOp In int bytes" => (first | refine in_int_b1 (k' := 91) (by assumption) (by assumption) (by decide) ?_ | refine in_int_bytes (by assumption) (by assumption) ?_))
  (k_with "exec While Compare cons nil" => (k_here; refine Hold.mk ?_))
  (k_with "KswEnd" => (refine Hold.mk ?_))
  (k_with "call ref" => (k_here; (with_reducible show wpAny _ _ (call (Value.ref 83) _) _ _ _); k_dflt (refine' Ct.use (c_inside_at _ _ _ _ (by omega) _ _ _ _ (by omega) (by omega) (by omega) (by omega)) ?k1 ?k2 ?k3 ?k4 ?k5 ?kK ?kd ?ku ?_ ?ke; (case k1 => k_asm); (case k2 => k_asm); (case k3 => k_asm); (case k4 => k_asm); (case k5 => k_asm); (case kK => first | exact rfl | assumption); (case kd => ktr_room); (case ku => ktr_units); (case ke => (intro _ _ _ _ _ _ hF; exact hF.elim)); (intro r n h' tk' F' N' hR; (obtain ⟨D9, t9, u9, hn9, l9, hr9⟩ := hR; subst hn9 hr9; (try k_lt l9)); (try dsimp only); (try k_fold)))))
  unfold Ct
  k_fill
  intro mean mg mb dp un gd cn cs a ccd cl outer A₀ base h₀ L m s Q E B F X N T hk hdp hun hret hexc
  refine wpAny_call ?_
  k_dflt cell_enter
  k_steps
  refine Hold.of ?_
  (k_dflt (refine' ksw_while (σ := ClS) (fun c => (_, listOf c.vs.toArray c.n) :: news) (fun c => [(Str.ofString "at", .int c.a c.ta)]) (fun _ => True) [Str.ofString "octets"] (fun c => c.ok inner begun) (fun c => c.todo.length) ⟨[], inner, [], [], 0, begun + 1, _⟩ ?k1 ?k2 trivial ?k3 ⟨rfl, rfl, rfl, rfl, by simp [escL]⟩ ?_))
  case k1 => k_asm
  case k2 => k_asm
  case k3 => kst_all
  rintro ⟨done, todo, l9, vs9, n9, a9, ta9⟩ u9 h9 tk9 _ hP9 F9 N9
  dsimp only [kstB] at F9 N9 hP9
  obtain ⟨hin9, hvs9, hfl9, hvl9, ha9⟩ := hP9
  dsimp only at hin9 hvs9 hfl9 hvl9 ha9
  have hil9 := congrArg List.length hin9
  rw [List.length_append] at hil9
  have hdr9 := drop_more (i := begun + 1) (a := escL done) (b := escL todo ++ 93 :: rest) (by omega) (by rw [hd, hin9]; simp [escL])
  rw [← ha9] at hdr9
  have h09 : 0 ≤ a9 := by omega
  cases todo with
  | nil =>
    have hx9 := drop_head (c := 93) h09 hdr9
    have hx1 : bAt data a9 = 93 := hx9.2.1
    have hx2 := hx9.1
    clear hx9
    try k_unmd
    try k_fold
    k_steps
    refine Hold.of ?_
    k_dflt (refine' join_bytes (l := l9) (ps := l9.map (·.1)) ?k1 rfl ?k3 ?_)
    case k1 => (rw [← hvs9]; exact News.isList (by k_asm) (by k_mem))
    case k3 => (rw [List.map_map]; rw [show (fun p : Array UInt8 × Tok => p.1.toList) = (fun p : Array UInt8 => p.toList) ∘ (fun p : Array UInt8 × Tok => p.1) from rfl] at hfl9; rw [hfl9]; omega)
    intro t8 k8
    rw [List.map_map, show (fun p : Array UInt8 => p.toList) ∘ (fun p : Array UInt8 × Tok => p.1) = (fun p : Array UInt8 × Tok => p.1.toList) from rfl, hfl9]
    try dsimp only
    k_steps
    have e1 : inner = done := by simpa using hin9
    subst e1
    subst ha9
    refine hret _ _ _ _ (by k_asm) (drop1 (by k_asm)) ⟨_, _, _, rfl, kst_ltOf (And.right (by assumption)), rfl⟩
  | cons c9 r9 =>
    have hx9 := at_esc (c := c9) (tl := escL r9 ++ 93 :: rest) h09 (by rw [hdr9, escL_cons, List.append_assoc])
    have ht9 := ht c9 (by rw [hin9]; simp)
    unfold tame at ht9
    obtain ⟨hx1, hx2, hx3, hx4⟩ := hx9
    try k_unmd
    try k_fold
    k_steps
    refine Hold.of ?_
    rename News _ _ _ _ => nE
    simp only [List.push_toArray] at nE
    exact cl_end (by k_asm) nE (by with_unfolding_all rfl) (by ksw_same) hin9 hvs9 hfl9 hvl9 ha9 hx3 hx4
end
section
open PySem PySem.W PyProof.Rows
set_option maxRecDepth 100000 in
set_option maxHeartbeats 4000000 in
theorem c_tok_atom (w : World) (news : Led) (data : Array UInt8) (td : Tok) (hn : data.size ≤ 100) (at_ : Int) (ta : Tok) (A B : List UInt8) (hd : data.toList.drop at_.toNat = A ++ B) (hA : ∀ c ∈ A, atomU c = true) (hB : ∀ c ∈ B.head?, atomU c = false) (hne : A ≠ []) (h0 : 0 ≤ at_) (h1 : at_ < data.size) : Ct 9 w 111 news [.bytes data td, .int at_ ta] (fun r n => ∃ D1 D2 t1 t2 t3 t4, n = (D2, tupOf [.ref D1, .int (at_ + A.length) t4]) :: (D1, tupOf [.str (Str.ofString "atom") t1, .bytes A.toArray t2, .int at_ t3]) :: news ∧ (∀ p ∈ news, p.1 < D1) ∧ D1 < D2 ∧ r = .ref D2) (fun _ _ => False) := by
  k_with_none
  w_top off
  (k_with "compareOp In int bytes" => (refine in_int_bytes (by assumption) (by assumption) ?_))
  (k_with "subscriptTail Name Slice bytes ref" => (k_here; (with_reducible show wpAny _ _ (subscriptTail _ (Expr.Slice _ _ none _) (Value.bytes _ _) (Value.ref _)) _ _ _); k_dflt (refine' slice_b (s := ⟨_, _, _, _, _⟩) ?f ?n ?a ?b ?c ?_; (case f => k_asm); (case n => k_asm); (case a => omega); (case b => omega); (case c => omega)); intro _ _ _ F' N'))
  (k_with "subscriptTail" => (k_here; (with_reducible show wpAny _ _ (subscriptTail _ _ (Value.bytes _ _) (Value.int _ _)) _ _ _); (refine item_b (by omega) (by omega) (by omega) ?_); intro _ _ _ _))
  (k_with "compareOp Eq bytes bytes" => (first | refine eq_cut1 (k := 10) (by omega) (by omega) (by decide) ?_ | refine eq_cut1 (k := 34) (by omega) (by omega) (by decide) ?_ | refine eq_cut1 (k := 40) (by omega) (by omega) (by decide) ?_ | refine eq_cut1 (k := 91) (by omega) (by omega) (by decide) ?_ | refine eq_cut2 (k := 13) (by omega) (by omega) (by decide) (by omega) ?_))
  (k_with "compareOp In int ref" => (k_here; k_dflt (first | refine in_tup2 (News.isTup (by k_asm) (by k_mem)) ?_ | refine in_tup3 (tupK (by k_in) (by k_is)) ?_)))
  (k_with "ite" => (k_here; k_openite; first | (refine ite_pos (by (simp only [decide_eq_true_eq, Bool.and_eq_true, Bool.or_eq_true, Bool.not_eq_true', decide_eq_false_iff_not]; omega)) ?_; walk_say "PRUNED (own)") | (refine ite_neg (by (simp only [decide_eq_true_eq, Bool.and_eq_true, Bool.or_eq_true, Bool.not_eq_true', decide_eq_false_iff_not]; omega)) ?_; walk_say "PRUNED (own)")))
  (k_with "Unr" => (first | refine Unr.succ ?_ | refine Unr.zero ?_))
  (k_with "own k_all" => (first | exact ne_below (by assumption) | exact ne_allLt (by assumption) | exact ne_allLt2 (by assumption)))
  (k_with "own size_fits" => (((try simp only [List.size_toArray, PySem.sizeLine_eq]); omega)))
  (k_with "exec While Compare cons nil" => (k_here; refine Hold.mk ?_))
  (k_with "exec While BoolOp cons nil" => (k_here; refine Hold.mk ?_))
  (k_with "exec While Constant cons nil" => (k_here; refine Hold.mk ?_))
  (k_with "exec While UnaryOp cons nil" => (k_here; refine Hold.mk ?_))
  (k_with "KswEnd" => (refine Hold.mk ?_))
  (k_with "call ref" => (k_here; (with_reducible show wpAny _ _ (call (Value.ref 69) _) _ _ _); k_dflt (refine' Ct.use (c_atom_code _ _ _ _ (by omega) (by omega)) ?k1 ?k2 ?k3 ?k4 ?k5 ?kK ?kd ?ku ?_ ?ke; (case k1 => k_asm); (case k2 => k_asm); (case k3 => k_asm); (case k4 => k_asm); (case k5 => k_asm); (case kK => first | exact rfl | assumption); (case kd => ktr_room); (case ku => ktr_units); (case ke => (intro _ _ _ _ _ _ hF; exact hF.elim)); (intro r n h' tk' F' N' hR; (obtain ⟨hn9, hr9⟩ := hR; replace hn9 := hn9.symm; subst hn9 hr9); (try dsimp only); (try k_fold)))))
  (k_with "call ref" => (k_here; (with_reducible show wpAny _ _ (call (Value.ref 104) _) _ _ _); k_dflt (refine' Ct.use (c_atom_at _ _ _ _ (by omega) _ _ _ _ (by omega) (by omega) (by assumption) (by assumption) (by assumption)) ?k1 ?k2 ?k3 ?k4 ?k5 ?kK ?kd ?ku ?_ ?ke; (case k1 => k_asm); (case k2 => k_asm); (case k3 => k_asm); (case k4 => k_asm); (case k5 => k_asm); (case kK => first | exact rfl | assumption); (case kd => ktr_room); (case ku => ktr_units); (case ke => (intro _ _ _ _ _ _ hF; exact hF.elim)); (intro r n h' tk' F' N' hR; (obtain ⟨D9, t9, u9, hn9, l9, hr9⟩ := hR; subst hn9 hr9; (try k_lt l9)); (try dsimp only); (try k_fold)))))
  (k_with "call ref" => (k_here; (with_reducible show wpAny _ _ (call (Value.ref 90) _) _ _ _); k_dflt (refine' Ct.use (c_closed_at _ _ _ _ (by omega) _ _ _ _ _ _ (by omega) (by assumption) (by assumption) (by omega)) ?k1 ?k2 ?k3 ?k4 ?k5 ?kK ?kd ?ku ?_ ?ke; (case k1 => k_asm); (case k2 => k_asm); (case k3 => k_asm); (case k4 => k_asm); (case k5 => k_asm); (case kK => first | exact rfl | assumption); (case kd => ktr_room); (case ku => ktr_units); (case ke => (intro _ _ _ _ _ _ hF; exact hF.elim)); (intro r n h' tk' F' N' hR; (obtain ⟨D9, t9, u9, hn9, l9, hr9⟩ := hR; subst hn9 hr9; (try k_lt l9)); (try dsimp only); (try k_fold)))))
  (k_with "compareOp In bytes bytes" => (k_here; k_dflt (refine' in_signs ?k1 ?k2 ?k3 ?k4 ?k5 ?_; (case k1 => k_asm); (case k2 => k_asm); (case k3 => exact rfl); (case k4 => omega); (case k5 => omega)); intro _ _ F' N'))
  (k_with "compareOp In int bytes" => (refine in_int_bytes (by assumption) (by assumption) ?_))
  unfold Ct
  k_fill
  intro mean mg mb dp un gd cn cs a ccd cl outer A₀ base h₀ L m s Q E B F X N T hk hdp hun hret hexc
  refine wpAny_call ?_
  k_dflt cell_enter
  obtain ⟨c9, r9, rfl⟩ := List.exists_cons_of_ne_nil hne
  have hx := bAt_head h0 (by rw [hd]; rfl)
  have hy := acode_not (hA c9 (.head _))
  have hz := hA c9 (.head _)
  unfold atomU at hz
  rw [← hx.2] at hy hz
  obtain ⟨hy1, hy2⟩ := hy
  k_steps
  all_goals (try (exfalso; omega))
  exact hret _ _ _ _ (by k_asm) (drop2 (by k_asm)) ⟨_, _, _, _, _, _, rfl, kst_ltOf (And.right (by assumption)), And.left (by assumption), rfl⟩

set_option maxRecDepth 100000 in
set_option maxHeartbeats 4000000 in
theorem c_tok_sign (w : World) (news : Led) (data : Array UInt8) (td : Tok) (hn : data.size ≤ 100) (at_ : Int) (ta : Tok) (c : UInt8) (tl : List UInt8) (hd : data.toList.drop at_.toNat = c :: tl) (hs : isSign (c.toNat : Int) = true) (h0 : 0 ≤ at_) (h1 : at_ < data.size) : Ct 9 w 111 news [.bytes data td, .int at_ ta] (fun r n => ∃ D1 D2 t1 t2 t3 t4, n = (D2, tupOf [.ref D1, .int (at_ + 1) t4]) :: (D1, tupOf [.str (Str.ofString "sign") t1, .bytes #[c] t2, .int at_ t3]) :: news ∧ (∀ p ∈ news, p.1 < D1) ∧ D1 < D2 ∧ r = .ref D2) (fun _ _ => False) := by
  unfold Ct
  k_fill
  intro mean mg mb dp un gd cn cs a ccd cl outer A₀ base h₀ L m s Q E B F X N T hk hdp hun hret hexc
  refine wpAny_call ?_
  k_dflt cell_enter
  have hx := bAt_head h0 hd
  have hz := hs
  rw [← hx.2] at hz
  have hy : bAt data at_ ≠ 34 ∧ bAt data at_ ≠ 40 ∧ bAt data at_ ≠ 91 := by (unfold isSign at hz; simp only [decide_eq_true_eq] at hz; omega)
  k_steps
  all_goals (try (exfalso; omega))
  rw [cut_at h0 hd] at *
  exact hret _ _ _ _ (by k_asm) (by k_asm) ⟨_, _, _, _, _, _, rfl, by assumption, And.left (by assumption), rfl⟩

set_option maxRecDepth 100000 in
set_option maxHeartbeats 4000000 in
theorem c_tok_lit (w : World) (news : Led) (data : Array UInt8) (td : Tok) (hn : data.size ≤ 100) (at_ : Int) (ta : Tok) (inner rest : List UInt8) (hd : data.toList.drop at_.toNat = 91 :: (escL inner ++ 93 :: rest)) (ht : ∀ c ∈ inner, tame c) (hi : inner.length ≤ 100) (h0 : 0 ≤ at_) (h1 : at_ < data.size) : Ct 9 w 111 news [.bytes data td, .int at_ ta] (fun r n => ∃ D1 D2 t1 t2 t3 t4, n = (D2, tupOf [.ref D1, .int (at_ + 1 + (escL inner).length + 1) t4]) :: (D1, tupOf [.str (Str.ofString "literal") t1, .bytes inner.toArray t2, .int at_ t3]) :: news ∧ (∀ p ∈ news, p.1 < D1) ∧ D1 < D2 ∧ r = .ref D2) (fun _ _ => False) := by
  unfold Ct
  k_fill
  intro mean mg mb dp un gd cn cs a ccd cl outer A₀ base h₀ L m s Q E B F X N T hk hdp hun hret hexc
  refine wpAny_call ?_
  k_dflt cell_enter
  have hx := bAt_head h0 hd
  have hx1 : bAt data at_ = 91 := hx.2
  have hd2 := (drop_head h0 hd).2.2
  k_steps
  all_goals (try (exfalso; omega))
  exact hret _ _ _ _ (by k_asm) (drop2 (by k_asm)) ⟨_, _, _, _, _, _, rfl, kst_ltOf (And.right (by assumption)), And.left (by assumption), rfl⟩
end
section
open PySem PySem.W PyProof.Rows
set_option maxRecDepth 100000 in
set_option maxHeartbeats 4000000 in
theorem c_tokens_of (w : World) (news : Led) (data : Array UInt8) (td : Tok) (hn : data.size ≤ 100) (toks : List (Bool × Tk)) (hd : data.toList = render toks) (hw : Wf toks) (hl : toks.length ≤ 100) : Ct 14 w 125 news [.bytes data td] (fun r n => ∃ P es k, n = (P, listOf (refs es).toArray k) :: (ents es ++ news) ∧ es.map (·.tk) = toks.map (·.2) ∧ r = .ref P) (fun _ _ => False) := by
  k_with_none
  w_top off
  (k_with "compareOp In int bytes" => (refine in_int_bytes (by assumption) (by assumption) ?_))
  (k_with "subscriptTail Name Slice bytes ref" => (k_here; (with_reducible show wpAny _ _ (subscriptTail _ (Expr.Slice _ _ none _) (Value.bytes _ _) (Value.ref _)) _ _ _); k_dflt (refine' slice_b (s := ⟨_, _, _, _, _⟩) ?f ?n ?a ?b ?c ?_; (case f => k_asm); (case n => k_asm); (case a => omega); (case b => omega); (case c => omega)); intro _ _ _ F' N'))
  (k_with "subscriptTail" => (k_here; (with_reducible show wpAny _ _ (subscriptTail _ _ (Value.bytes _ _) (Value.int _ _)) _ _ _); (refine item_b (by omega) (by omega) (by omega) ?_); intro _ _ _ _))
  (k_with "compareOp Eq bytes bytes" => (first | refine eq_cut1 (k := 10) (by omega) (by omega) (by decide) ?_ | refine eq_cut1 (k := 34) (by omega) (by omega) (by decide) ?_ | refine eq_cut1 (k := 40) (by omega) (by omega) (by decide) ?_ | refine eq_cut1 (k := 91) (by omega) (by omega) (by decide) ?_ | refine eq_cut2 (k := 13) (by omega) (by omega) (by decide) (by omega) ?_))
  (k_with "compareOp In int ref" => (k_here; k_dflt (first | refine in_tup2 (News.isTup (by k_asm) (by k_mem)) ?_ | refine in_tup3 (tupK (by k_in) (by k_is)) ?_)))
  (k_with "ite" => (k_here; k_openite; first | (refine ite_pos (by (simp only [decide_eq_true_eq, Bool.and_eq_true, Bool.or_eq_true, Bool.not_eq_true', decide_eq_false_iff_not]; omega)) ?_; walk_say "PRUNED (own)") | (refine ite_neg (by (simp only [decide_eq_true_eq, Bool.and_eq_true, Bool.or_eq_true, Bool.not_eq_true', decide_eq_false_iff_not]; omega)) ?_; walk_say "PRUNED (own)")))
  (k_with "Unr" => (first | refine Unr.succ ?_ | refine Unr.zero ?_))
  (k_with "own k_all" => (first | exact ne_below (by assumption) | exact ne_allLt (by assumption) | exact ne_allLt2 (by assumption)))
  (k_with "own size_fits" => (((try simp only [List.size_toArray, PySem.sizeLine_eq]); omega)))
  (k_with "exec While Compare cons nil" => (k_here; refine Hold.mk ?_))
  (k_with "exec While BoolOp cons nil" => (k_here; refine Hold.mk ?_))
  (k_with "exec While Constant cons nil" => (k_here; refine Hold.mk ?_))
  (k_with "exec While UnaryOp cons nil" => (k_here; refine Hold.mk ?_))
  (k_with "KswEnd" => (refine Hold.mk ?_))
  (k_with "call ref" => (k_here; (with_reducible show wpAny _ _ (call (Value.ref 118) _) _ _ _); k_dflt (refine' Ct.use (c_past_white _ _ _ _ (by omega) _ _ (by omega) (by omega) (by omega) (by omega)) ?k1 ?k2 ?k3 ?k4 ?k5 ?kK ?kd ?ku ?_ ?ke; (case k1 => k_asm); (case k2 => k_asm); (case k3 => k_asm); (case k4 => k_asm); (case k5 => k_asm); (case kK => first | exact rfl | assumption); (case kd => ktr_room); (case ku => ktr_units); (case ke => (intro _ _ _ _ _ _ hF; exact hF.elim)); (intro r n h' tk' F' N' hR; (obtain ⟨hn9, t9, hr9⟩ := hR; replace hn9 := hn9.symm; subst hn9 hr9); (try dsimp only); (try k_fold)))))
  (k_with "call ref" => (k_here; (with_reducible show wpAny _ _ (call (Value.ref 111) _) _ _ _); k_dflt (refine' Ct.use (c_tok_atom _ _ _ _ (by omega) _ _ _ _ (by assumption) (by assumption) (by assumption) (by assumption) (by omega) (by omega)) ?k1 ?k2 ?k3 ?k4 ?k5 ?kK ?kd ?ku ?_ ?ke; (case k1 => k_asm); (case k2 => k_asm); (case k3 => k_asm); (case k4 => k_asm); (case k5 => k_asm); (case kK => first | exact rfl | assumption); (case kd => ktr_room); (case ku => ktr_units); (case ke => (intro _ _ _ _ _ _ hF; exact hF.elim)); (intro r n h' tk' F' N' hR; (obtain ⟨D8, D9, t6, t7, t8, t9, hn9, l8, l9, hr9⟩ := hR; replace hn9 := hn9.symm; subst hn9 hr9; (try k_lt l8); (try k_lt2 l9)); (try dsimp only); (try k_fold)))))
  (k_with "call ref" => (k_here; (with_reducible show wpAny _ _ (call (Value.ref 111) _) _ _ _); k_dflt (refine' Ct.use (c_tok_sign _ _ _ _ (by omega) _ _ _ _ (by assumption) (by assumption) (by omega) (by omega)) ?k1 ?k2 ?k3 ?k4 ?k5 ?kK ?kd ?ku ?_ ?ke; (case k1 => k_asm); (case k2 => k_asm); (case k3 => k_asm); (case k4 => k_asm); (case k5 => k_asm); (case kK => first | exact rfl | assumption); (case kd => ktr_room); (case ku => ktr_units); (case ke => (intro _ _ _ _ _ _ hF; exact hF.elim)); (intro r n h' tk' F' N' hR; (obtain ⟨D8, D9, t6, t7, t8, t9, hn9, l8, l9, hr9⟩ := hR; replace hn9 := hn9.symm; subst hn9 hr9; (try k_lt l8); (try k_lt2 l9)); (try dsimp only); (try k_fold)))))
  (k_with "call ref" => (k_here; (with_reducible show wpAny _ _ (call (Value.ref 111) _) _ _ _); k_dflt (refine' Ct.use (c_tok_lit _ _ _ _ (by omega) _ _ _ _ (by assumption) (by assumption) (by omega) (by omega) (by omega)) ?k1 ?k2 ?k3 ?k4 ?k5 ?kK ?kd ?ku ?_ ?ke; (case k1 => k_asm); (case k2 => k_asm); (case k3 => k_asm); (case k4 => k_asm); (case k5 => k_asm); (case kK => first | exact rfl | assumption); (case kd => ktr_room); (case ku => ktr_units); (case ke => (intro _ _ _ _ _ _ hF; exact hF.elim)); (intro r n h' tk' F' N' hR; (obtain ⟨D8, D9, t6, t7, t8, t9, hn9, l8, l9, hr9⟩ := hR; replace hn9 := hn9.symm; subst hn9 hr9; (try k_lt l8); (try k_lt2 l9)); (try dsimp only); (try k_fold)))))
  (k_with "own k_all" => (assumption))
  (k_with "own size_fits" => (((try simp only [refs, List.size_toArray, List.length_map, PySem.sizeLine_eq]); omega)))
  unfold Ct
  k_fill
  intro mean mg mb dp un gd cn cs a ccd cl outer A₀ base h₀ L m s Q E B F X N T hk hdp hun hret hexc
  refine wpAny_call ?_
  k_dflt cell_enter
  obtain ⟨hp1, hp2, hp3, hp4⟩ := pw_facts (data := data) (j := 0) (by omega) (by omega) (by simpa using hd) hw
  k_steps
  refine Hold.of ?_
  (k_dflt (refine' ksw_while (σ := TksS) (fun c => (_, listOf (refs c.es).toArray c.n) :: (ents c.es ++ news)) (fun c => [(Str.ofString "at", .int c.a c.ta)]) (fun _ => True) [Str.ofString "token"] (fun c => c.ok data toks _ news) (fun c => c.todo.length) ⟨[], toks, [], 0, pwf data 0, _⟩ ?k1 ?k2 trivial ?k3 ?k4 ?_))
  case k1 => k_asm
  case k2 => k_asm
  case k3 => kst_all
  case k4 => exact ⟨rfl, rfl, hw, hp2, hp3, hp4, ne_below (by assumption)⟩
  rintro ⟨done, todo, es, n9, a9, ta9⟩ u9 h9 tk9 _ hP9 F9 N9
  dsimp only [kstB] at F9 N9 hP9
  obtain ⟨ht9, he9, hw9, ha9, hb9, hd9, hne9⟩ := hP9
  dsimp only at ht9 he9 hw9 ha9 hb9 hd9 hne9
  have hle9 : es.length ≤ 100 := by
    have e1 := congrArg List.length he9
    have e2 := congrArg List.length ht9
    simp only [List.length_map, List.length_append] at e1 e2
    omega
  cases todo with
  | nil =>
    have hx9 : a9 = data.size := by
      have sz := size_run (a := []) ha9 hb9 (by rw [hd9]; rfl)
      simp only [renderT, List.length_nil] at sz
      omega
    try k_unmd
    try k_fold
    k_steps
    exact hret _ _ _ _ (by k_asm) (by k_asm) ⟨_, _, _, rfl, by rw [he9, ht9, List.append_nil], rfl⟩
  | cons x r =>
  obtain ⟨g9, x9⟩ := x
  have hsz9 := size_run (a := x9.src) (b := render r) ha9 hb9 hd9
  have hdj := drop_more (a := x9.src) (b := render r) ha9 hd9
  cases x9 with
  | atom A =>
    have hA9 := hw9.1.2
    have hne8 := hw9.1.1
    have hB9 := hw9.2.1 ⟨A, rfl⟩
    change data.toList.drop a9.toNat = A ++ render r at hd9
    change a9 + A.length + _ = _ at hsz9
    change data.toList.drop (a9 + A.length).toNat = _ at hdj
    have hlt9 : 0 < A.length := by (cases A with | nil => exact absurd rfl hne8 | cons _ _ => exact Nat.succ_pos _)
    obtain ⟨hq1, hq2, hq3, hq4⟩ := pw_facts (data := data) (j := a9 + A.length) (by omega) (by omega) (by exact hdj) hw9.2.2
    try k_unmd
    try k_fold
    k_steps
    refine Hold.of ?_
    rename News _ _ _ _ => nE
    exact tks_end (by k_asm) nE (by with_unfolding_all rfl) (by ksw_same) ht9 he9 hw9.2.2 hq2 hq3 hq4 hne9 (And.left (by assumption))
  | sign c =>
    have hs9 : isSign (c.toNat : Int) = true := hw9.1
    change data.toList.drop a9.toNat = c :: render r at hd9
    change a9 + 1 + _ = _ at hsz9
    change data.toList.drop (a9 + 1).toNat = _ at hdj
    obtain ⟨hq1, hq2, hq3, hq4⟩ := pw_facts (data := data) (j := a9 + 1) (by omega) (by omega) (by exact hdj) hw9.2.2
    try k_unmd
    try k_fold
    k_steps
    refine Hold.of ?_
    rename News _ _ _ _ => nE
    exact tks_end (by k_asm) nE (by with_unfolding_all rfl) (by ksw_same) ht9 he9 hw9.2.2 hq2 hq3 hq4 hne9 (And.left (by assumption))
  | lit inner =>
    have ht8 := hw9.1.1
    have hi8 := hw9.1.2
    have el : ((91 :: (escL inner ++ [93])).length : Int) = 1 + (escL inner).length + 1 := by simp; omega
    change a9 + ((91 :: (escL inner ++ [93])).length : Nat) + _ = _ at hsz9
    change data.toList.drop (a9 + ((91 :: (escL inner ++ [93])).length : Nat)).toNat = _ at hdj
    have hd8 : data.toList.drop a9.toNat = 91 :: (escL inner ++ 93 :: render r) := by rw [hd9]; simp [renderT, Tk.src]
    rw [show a9 + ((91 :: (escL inner ++ [93])).length : Nat) = a9 + 1 + (escL inner).length + 1 by omega] at hdj
    obtain ⟨hq1, hq2, hq3, hq4⟩ := pw_facts (data := data) (j := a9 + 1 + (escL inner).length + 1) (by omega) (by omega) (by exact hdj) hw9.2.2
    try k_unmd
    try k_fold
    k_steps
    refine Hold.of ?_
    rename News _ _ _ _ => nE
    exact tks_end (by k_asm) nE (by with_unfolding_all rfl) (by ksw_same) ht9 he9 hw9.2.2 hq2 hq3 hq4 hne9 (And.left (by assumption))
end
section
open PySem PySem.W PyProof.Rows
set_option maxRecDepth 100000 in
set_option maxHeartbeats 4000000 in
theorem c_addresses (w : World) (news : Led) (data : Array UInt8) (td : Tok) (hn : data.size ≤ 100) (toks : List (Bool × Tk)) (hd : data.toList = render toks) (hw : Wf toks) (hl : toks.length ≤ 100) (D : List Tk) (A Bb C : List UInt8) (x : Str) (ht : toks.map (·.2) = .atom A :: .sign 64 :: (D ++ [.sign 44, .atom Bb, .sign 64, .atom C])) (hD : DomL D x) (hA : A.length ≤ 100) (hBb : Bb.length ≤ 100) (hC : C.length ≤ 100) : Ct 16 w 343 news [.bytes data td] (fun r n9 => ∃ M1 e1 f4 f5 f6 v4 v5 v6 M2 e2 g4 g5 g6 u4 u5 u6 Fd kF, n9 = (M2, instObj 175 e2) :: (e2, dictOf [⟨PyData.keyHash w.params (Str.ofString "name"), .str (Str.ofString "name") g4, .str (Str.ofString "") u4⟩, ⟨PyData.keyHash w.params (Str.ofString "local"), .str (Str.ofString "local") g5, .str (strOf Bb) u5⟩, ⟨PyData.keyHash w.params (Str.ofString "domain"), .str (Str.ofString "domain") g6, .str (strOf C) u6⟩] 3) :: (M1, instObj 175 e1) :: (e1, dictOf [⟨PyData.keyHash w.params (Str.ofString "name"), .str (Str.ofString "name") f4, .str (Str.ofString "") v4⟩, ⟨PyData.keyHash w.params (Str.ofString "local"), .str (Str.ofString "local") f5, .str (strOf A) v5⟩, ⟨PyData.keyHash w.params (Str.ofString "domain"), .str (Str.ofString "domain") f6, .str (x) v6⟩] 3) :: (Fd, listOf #[.ref M1, .ref M2] kF) :: news ∧ r = .ref Fd) (fun _ _ => False) := by
  k_with_none
  w_top off
  (k_with "compareOp In int bytes" => (refine in_int_bytes (by assumption) (by assumption) ?_))
  (k_with "subscriptTail Name Slice bytes ref" => (k_here; (with_reducible show wpAny _ _ (subscriptTail _ (Expr.Slice _ _ none _) (Value.bytes _ _) (Value.ref _)) _ _ _); k_dflt (refine' slice_b (s := ⟨_, _, _, _, _⟩) ?f ?n ?a ?b ?c ?_; (case f => k_asm); (case n => k_asm); (case a => omega); (case b => omega); (case c => omega)); intro _ _ _ F' N'))
  (k_with "subscriptTail" => (k_here; (with_reducible show wpAny _ _ (subscriptTail _ _ (Value.bytes _ _) (Value.int _ _)) _ _ _); (refine item_b (by omega) (by omega) (by omega) ?_); intro _ _ _ _))
  (k_with "compareOp Eq bytes bytes" => (first | refine eq_cut1 (k := 10) (by omega) (by omega) (by decide) ?_ | refine eq_cut1 (k := 34) (by omega) (by omega) (by decide) ?_ | refine eq_cut1 (k := 40) (by omega) (by omega) (by decide) ?_ | refine eq_cut1 (k := 91) (by omega) (by omega) (by decide) ?_ | refine eq_cut2 (k := 13) (by omega) (by omega) (by decide) (by omega) ?_))
  (k_with "compareOp In int ref" => (k_here; k_dflt (first | refine in_tup2 (News.isTup (by k_asm) (by k_mem)) ?_ | refine in_tup3 (tupK (by k_in) (by k_is)) ?_)))
  (k_with "ite" => (k_here; k_openite; first | (refine ite_pos (by (simp only [decide_eq_true_eq, Bool.and_eq_true, Bool.or_eq_true, Bool.not_eq_true', decide_eq_false_iff_not]; omega)) ?_; walk_say "PRUNED (own)") | (refine ite_neg (by (simp only [decide_eq_true_eq, Bool.and_eq_true, Bool.or_eq_true, Bool.not_eq_true', decide_eq_false_iff_not]; omega)) ?_; walk_say "PRUNED (own)")))
  (k_with "Unr" => (first | refine Unr.succ ?_ | refine Unr.zero ?_))
  (k_with "own k_all" => (first | exact ne_below (by assumption) | exact ne_allLt (by assumption) | exact ne_allLt2 (by assumption)))
  (k_with "own size_fits" => (((try simp only [List.size_toArray, PySem.sizeLine_eq]); omega)))
  (k_with "exec While Compare cons nil" => (k_here; refine Hold.mk ?_))
  (k_with "exec While BoolOp cons nil" => (k_here; refine Hold.mk ?_))
  (k_with "exec While Constant cons nil" => (k_here; refine Hold.mk ?_))
  (k_with "exec While UnaryOp cons nil" => (k_here; refine Hold.mk ?_))
  (k_with "KswEnd" => (refine Hold.mk ?_))
  (k_with "own k_room" => (ktr_room))
  (k_with "call builtin:len" => (k_here; (with_reducible show wpAny _ _ (call (Value.builtin "len") [Value.ref _]) _ _ _); k_dflt (refine' len_refs ?k1 ?k2 ?k3 ?_; (case k1 => k_asm); (case k2 => k_mem); (case k3 => omega)); intro _ _))
  (k_with "subscriptTail" => (k_here; (with_reducible show wpAny _ _ (subscriptTail _ _ (Value.ref _) (Value.int _ _)) _ _ _); k_dflt (refine' item_tupleT (News.isTup ?t ?m) ?a ?b ?c ?d ?_; (case t => k_asm); (case m => kst_mem); (case a => decide); (case b => decide); (case c => rfl); (case d => rfl))))
  (k_with "call ref" => (k_here; (with_reducible show wpAny _ _ (call (Value.ref 238) _) _ _ _); k_dflt (refine' Ct.use (c_is_done_no _ _ _ _ _ _ _ _ _ _ _ _ _ ?hE ?hl _ ?hA) ?k1 ?k2 ?k3 ?k4 ?k5 ?kK ?kd ?ku ?_ ?ke; (case k1 => k_asm); (case k2 => k_asm); (case k3 => k_asm); (case k4 => first | k_asm | exact perm1 (by k_asm) | exact perm2 (by k_asm) | exact perm3 (by k_asm)); (case k5 => k_asm); (case hE => first | assumption | exact ent_mem0 | (refine ent_tail ?_; first | assumption | exact ent_mem0 | (refine ent_tail ?_; first | assumption | exact ent_mem0 | (refine ent_tail ?_; first | assumption | exact ent_mem0 | (refine ent_tail ?_; first | assumption | exact ent_mem0 | (refine ent_tail ?_; first | assumption | exact ent_mem0 | (refine ent_tail ?_; first | assumption | exact ent_mem0))))))); (case hl => first | assumption | omega); (case hA => first | assumption); (case kK => first | exact rfl | assumption); (case kd => ktr_room); (case ku => ktr_units); (case ke => (intro _ _ _ _ _ _ hF; exact hF.elim)); (intro r n h' tk' F' N' hR; (obtain ⟨hn9, hr9⟩ := hR; replace hn9 := hn9.symm; subst hn9 hr9); (try dsimp only); (try k_fold)))))
  (k_with "call ref" => (k_here; (with_reducible show wpAny _ _ (call (Value.ref 238) _) _ _ _); k_dflt (refine' Ct.use (c_is_done_end _ _ _ _ _ _ _ _ _ _ _ _ _ ?hE ?hl ?hA) ?k1 ?k2 ?k3 ?k4 ?k5 ?kK ?kd ?ku ?_ ?ke; (case k1 => k_asm); (case k2 => k_asm); (case k3 => k_asm); (case k4 => first | k_asm | exact perm1 (by k_asm) | exact perm2 (by k_asm) | exact perm3 (by k_asm)); (case k5 => k_asm); (case hE => first | assumption | exact ent_mem0 | (refine ent_tail ?_; first | assumption | exact ent_mem0 | (refine ent_tail ?_; first | assumption | exact ent_mem0 | (refine ent_tail ?_; first | assumption | exact ent_mem0 | (refine ent_tail ?_; first | assumption | exact ent_mem0 | (refine ent_tail ?_; first | assumption | exact ent_mem0 | (refine ent_tail ?_; first | assumption | exact ent_mem0))))))); (case hl => first | assumption | omega); (case hA => first | assumption); (case kK => first | exact rfl | assumption); (case kd => ktr_room); (case ku => ktr_units); (case ke => (intro _ _ _ _ _ _ hF; exact hF.elim)); (intro r n h' tk' F' N' hR; (obtain ⟨hn9, hr9⟩ := hR; replace hn9 := hn9.symm; subst hn9 hr9); (try dsimp only); (try k_fold)))))
  (k_with "call ref" => (k_here; (with_reducible show wpAny _ _ (call (Value.ref 125) _) _ _ _); k_dflt (refine' Ct.use (c_tokens_of _ _ _ _ ?hn _ ?hd ?hw ?hl) ?k1 ?k2 ?k3 ?k4 ?k5 ?kK ?kd ?ku ?_ ?ke; (case k1 => k_asm); (case k2 => k_asm); (case k3 => k_asm); (case k4 => first | k_asm | exact perm1 (by k_asm) | exact perm2 (by k_asm) | exact perm3 (by k_asm)); (case k5 => k_asm); (case hn => assumption); (case hd => assumption); (case hw => assumption); (case hl => assumption); (case kK => first | exact rfl | assumption); (case kd => ktr_room); (case ku => ktr_units); (case ke => (intro _ _ _ _ _ _ hF; exact hF.elim)); (intro r n h' tk' F' N' hR; (obtain ⟨P9, es9, k9, hn9, hes9, hr9⟩ := hR; replace hn9 := hn9.symm; subst hn9 hr9; obtain ⟨hle9, ha1, ha2, ha3, ha4, ha5, ha6, ha7, ha8⟩ := addr_facts hes9 (by assumption) (by assumption) (by assumption) (by assumption)); (try dsimp only); (try k_fold)))))
  (k_with "call ref" => (k_here; (with_reducible show wpAny _ _ (call (Value.ref 130) _) _ _ _); k_dflt (refine' Ct.use (c_without _ _ _ _ _ ?hl) ?k1 ?k2 ?k3 ?k4 ?k5 ?kK ?kd ?ku ?_ ?ke; (case k1 => k_asm); (case k2 => k_asm); (case k3 => k_asm); (case k4 => first | k_asm | exact perm1 (by k_asm) | exact perm2 (by k_asm) | exact perm3 (by k_asm)); (case k5 => k_asm); (case hl => assumption); (case kK => first | exact rfl | assumption); (case kd => ktr_room); (case ku => ktr_units); (case ke => (intro _ _ _ _ _ _ hF; exact hF.elim)); (intro r n h' tk' F' N' hR; (obtain ⟨D9, hn9, hr9⟩ := hR; replace hn9 := hn9.symm; subst hn9 hr9); (try dsimp only); (try k_fold)))))
  (k_with "call ref" => (k_here; (with_reducible show wpAny _ _ (call (Value.ref 336) _) _ _ _); k_dflt (refine' Ct.use (c_list _ _ _ _ _ _ _ _ _ _ _ _ _ ?hE ?hl _ _ _ _ _ _ ?a1 ?a2 ?a3 ?a4 ?a5 ?a6 ?a7 ?a8 ?a9 ?b1 ?hs1 ?hs2 ?hs3) ?k1 ?k2 ?k3 ?k4 ?k5 ?kK ?kd ?ku ?_ ?ke; (case k1 => k_asm); (case k2 => k_asm); (case k3 => k_asm); (case k4 => first | k_asm | exact perm1 (by k_asm) | exact perm2 (by k_asm) | exact perm3 (by k_asm)); (case k5 => k_asm); (case hE => first | assumption | exact ent_mem0 | (refine ent_tail ?_; first | assumption | exact ent_mem0 | (refine ent_tail ?_; first | assumption | exact ent_mem0 | (refine ent_tail ?_; first | assumption | exact ent_mem0 | (refine ent_tail ?_; first | assumption | exact ent_mem0 | (refine ent_tail ?_; first | assumption | exact ent_mem0 | (refine ent_tail ?_; first | assumption | exact ent_mem0))))))); (case hl => first | assumption | omega); (case a1 => assumption); (case a2 => assumption); (case a3 => assumption); (case a4 => assumption); (case a5 => assumption); (case a6 => assumption); (case a7 => assumption); (case a8 => assumption); (case a9 => assumption); (case b1 => assumption); (case hs1 => first | assumption | k_ne); (case hs2 => first | assumption | k_ne); (case hs3 => first | assumption | exact ne_allLt2 (by assumption) | exact ne_allLt (by assumption) | exact ne_below (by assumption)); (case kK => first | exact rfl | assumption); (case kd => ktr_room); (case ku => ktr_units); (case ke => (intro _ _ _ _ _ _ hF; exact hF.elim)); (intro r n h' tk' F' N' hR; (obtain ⟨M1, e1, f4, f5, f6, v4, v5, v6, M2, e2, g4, g5, g6, u4, u5, u6, Fd, kF, t9, hn9, hr9⟩ := hR; replace hn9 := hn9.symm; subst hn9 hr9); (try dsimp only); (try k_fold)))))
  unfold Ct
  k_fill
  intro mean mg mb dp un gd cn cs a ccd cl outer A₀ base h₀ L m s Q E B F X N T hk hdp hun hret hexc
  refine wpAny_call ?_
  k_dflt cell_enter
  k_steps
  exact hret _ _ _ _ (by k_asm) (drop_reader (by k_asm)) ⟨_, _, _, _, _, _, _, _, _, _, _, _, _, _, _, _, _, _, rfl, rfl⟩
end
section
open PySem PySem.W PyProof.Rows
set_option maxRecDepth 100000 in
set_option maxHeartbeats 4000000 in
theorem c_law_is_atom (w : World) (news : Led) (o : List UInt8) (to : Tok) (hl : o.length ≤ 100) (ha : ∀ c ∈ o, c.toNat < 128) : Ct 3 w 373 news [.str (strOf o) to] (fun r n9 => n9 = news ∧ r = .bool (isAtomL o)) (fun _ _ => False) := by
  k_with_none
  w_top off
  (k_with "compareOp In int bytes" => (refine in_int_bytes (by assumption) (by assumption) ?_))
  (k_with "subscriptTail Name Slice bytes ref" => (k_here; (with_reducible show wpAny _ _ (subscriptTail _ (Expr.Slice _ _ none _) (Value.bytes _ _) (Value.ref _)) _ _ _); k_dflt (refine' slice_b (s := ⟨_, _, _, _, _⟩) ?f ?n ?a ?b ?c ?_; (case f => k_asm); (case n => k_asm); (case a => omega); (case b => omega); (case c => omega)); intro _ _ _ F' N'))
  (k_with "subscriptTail" => (k_here; (with_reducible show wpAny _ _ (subscriptTail _ _ (Value.bytes _ _) (Value.int _ _)) _ _ _); (refine item_b (by omega) (by omega) (by omega) ?_); intro _ _ _ _))
  (k_with "compareOp Eq bytes bytes" => (first | refine eq_cut1 (k := 10) (by omega) (by omega) (by decide) ?_ | refine eq_cut1 (k := 34) (by omega) (by omega) (by decide) ?_ | refine eq_cut1 (k := 40) (by omega) (by omega) (by decide) ?_ | refine eq_cut1 (k := 91) (by omega) (by omega) (by decide) ?_ | refine eq_cut2 (k := 13) (by omega) (by omega) (by decide) (by omega) ?_))
  (k_with "compareOp In int ref" => (k_here; k_dflt (first | refine in_tup2 (News.isTup (by k_asm) (by k_mem)) ?_ | refine in_tup3 (tupK (by k_in) (by k_is)) ?_)))
  (k_with "ite" => (k_here; k_openite; first | (refine ite_pos (by (simp only [decide_eq_true_eq, Bool.and_eq_true, Bool.or_eq_true, Bool.not_eq_true', decide_eq_false_iff_not]; omega)) ?_; walk_say "PRUNED (own)") | (refine ite_neg (by (simp only [decide_eq_true_eq, Bool.and_eq_true, Bool.or_eq_true, Bool.not_eq_true', decide_eq_false_iff_not]; omega)) ?_; walk_say "PRUNED (own)")))
  (k_with "Unr" => (first | refine Unr.succ ?_ | refine Unr.zero ?_))
  (k_with "own k_all" => (first | exact ne_below (by assumption) | exact ne_allLt (by assumption) | exact ne_allLt2 (by assumption)))
  (k_with "own size_fits" => (((try simp only [List.size_toArray, PySem.sizeLine_eq]); omega)))
  (k_with "eval ListComp" => (refine Hold.mk ?_))
  (k_with "CompSrcT" => (refine Hold.mk ?_))
  (k_with "CompSrc" => (refine Hold.mk ?_))
  (k_with "CompEnd" => (refine Hold.mk ?_))
  (k_with "Exists" => (refine Hold.mk ?_))
  (k_with "call builtin:str.join" => (refine Hold.mk ?_))
  (k_with "compareOp Eq ref ref" => (refine Hold.mk ?_))
  unfold Ct
  k_fill
  intro mean mg mb dp un gd cn cs a ccd cl outer A₀ base h₀ L m s Q E B F X N T hk hdp hun hret hexc
  refine wpAny_call ?_
  k_dflt cell_enter
  have hsl := strOf_length o
  k_steps
  · refine Hold.of ?_
    k_dflt (refine comp_T (by k_asm) (by with_unfolding_all rfl) (by decide) (by rfl) (by decide) (by rfl) ?_)
    k_steps
    refine Hold.of ?_
    refine ⟨_, _, _, Src.str rfl (ascii_all ha) (by rw [PySem.sizeLine_eq]; show (strOf o).length ≤ _; omega), by k_asm, by k_asm, fun g9 => ?_⟩
    refine restT (fun i ys => ys.isEmpty = (o.take i).all atomU) ?turn rfl ?fin
    case turn =>
      rintro i ys v I oI C oC D m₂ h tk E' hi hi9 ⟨c9, u9, hc9, hv9⟩ hC hx F9 N9 off ne
      subst hv9
      rw [strOf_get] at hc9
      obtain ⟨c8, hc8, rfl⟩ := Option.map_eq_some_iff.mp hc9
      have hq9 := occ_eq (ha c8 (List.mem_of_getElem? hc8))
      have hlt9 := ha c8 (List.mem_of_getElem? hc8)
      try k_unmd
      try k_fold
      k_steps
      all_goals refine Hold.of ?_
      · have hb9 : atomU c8 = false := by (rename (PySem.Builtin.Str.occurrences _ _ _ _ _).isEmpty = true => hz; rw [hz] at hq9; simpa using hq9.symm)
        exact ⟨_, _, _, rfl, by k_asm, by k_asm, off, trivial, rfl, by rw [take_all hc8, hb9, Bool.and_false]; simp⟩
      · have hb9 : atomU c8 = true := by (rename (PySem.Builtin.Str.occurrences _ _ _ _ _).isEmpty = false => hz; rw [hz] at hq9; simpa using hq9.symm)
        exact ⟨_, _, _, rfl, by k_asm, by k_asm, off, trivial, rfl, by rw [take_all hc8, hb9, Bool.and_true]; exact hi9⟩
    case fin =>
      intro ys hys
      intro D9 h9 tk9 F9 N9 off9
      try dsimp only
      k_steps
      refine Hold.of ?_
      refine eq_nil (News.isList (by k_asm) (.tail _ (.head _))) (News.isList (by k_asm) (.head _)) (by ktr_units) ?_
      try dsimp only
      k_steps
      refine hret _ _ _ _ (by k_asm) (dropF2 (by k_asm)) ⟨rfl, ?_⟩
      rename (strOf o != _) = true => hne
      rw [strOf_ne] at hne
      rw [hys, show (strOf o).cps.size = o.length from hsl, List.take_length]
      unfold isAtomL
      rw [hne]; rfl
  · refine hret _ _ _ _ (by k_asm) (by k_asm) ⟨rfl, ?_⟩
    rename (strOf o != _) = false => hne
    rw [hne]
    rw [strOf_ne] at hne
    unfold isAtomL
    rw [hne]; rfl
end
section
open PySem PySem.W PyProof.Rows
set_option maxRecDepth 100000 in
set_option maxHeartbeats 4000000 in
theorem c_box (w : World) (news : Led) (sc : Addr) (vs : List Value) (ns : List Int) (hv : IntsAre vs ns) (hl : ns.length ≤ 63) : CtH (fun h => h.IsList sc vs.toArray) 3 w 361 news [.ref sc] (fun r n9 => ∃ Pl Cl g st tg ts tp n0 c0 vs' ns', n9 = (Pl, listOf #[.ref Cl, .int g tg, .int st ts, .int 0 tp] n0) :: (Cl, listOf (List.toArray vs') c0) :: news ∧ IntsAre vs' ns' ∧ vs'.length ≤ 40 ∧ 0 ≤ g ∧ 0 ≤ st ∧ st < 2147483647 ∧ (∀ p ∈ (Cl, listOf (List.toArray vs') c0) :: news, p.1 ≠ Pl) ∧ r = .ref Pl) := by
  k_with_none
  w_top off
  (k_with "eval ListComp" => (refine Hold.mk ?_))
  (k_with "CompSrcT" => (refine Hold.mk ?_))
  (k_with "CompSrc" => (refine Hold.mk ?_))
  (k_with "CompEnd" => (refine Hold.mk ?_))
  (k_with "pyIter ref" => (k_here; refine Hold.mk ?_))
  (k_with "InvEndN" => (refine Hold.mk ?_))
  (k_with "truthy ref" => (k_here; (with_reducible show wpAny _ _ (truthy (Value.ref _)) _ _ _); k_dflt (refine' truthy_cons ?k1 ?k2 ?k3 ?_; (case k1 => k_asm); (case k2 => k_mem); (case k3 => (simp only [List.length_cons] at *; omega))); intro _))
  (k_with "subscriptTail" => (k_here; (with_reducible show wpAny _ _ (subscriptTail _ _ (Value.ref _) (Value.int 0 _)) _ _ _); k_dflt (refine' item_head ?k1 ?k2 ?_; (case k1 => k_asm); (case k2 => k_mem))))
  (k_with "exec For Name Name cons nil" => (k_here; refine Hold.mk ?_))
  (k_with "subscriptTail Name Slice ref ref" => (k_here; (with_reducible show wpAny _ _ (subscriptTail _ (PySem.Expr.Slice _ _ none _) (Value.ref _) (Value.ref _)) _ _ _); k_dflt (refine' kmk_slice_ints ?F ?N ?l ?p ?q ?i ?m ?c ?_ ?s ?t ?z; (case F => k_asm); (case N => k_asm); (case l => exact Fr.lst (by k_asm) (by assumption)); (case p => kmk_part); (case q => kmk_part); (case i => assumption); (case m => exact kmk_upto (by assumption) (by decide)); (case c => exact rfl); (case s => with_unfolding_all rfl); (case t => kmk_pure); (case z => exact kmk_sz (by assumption) (by rw [PySem.sizeLine_eq]; omega))); intro D' ws' h' F' N' l1 hI' hC' hL'; (try k_lt l1)))
  unfold CtH
  k_fill
  intro mean mg mb dp un gd cn cs a ccd cl outer A₀ base h₀ L m s Q E B F X N T hk hdp hun hL hret
  refine wpAny_call ?_
  k_dflt cell_enter
  rename Fr h₀ L _ m => FG9
  have hLg := FG9.lst hL
  k_steps
  refine Hold.of ?_
  k_dflt (refine' LCg.CompSrc.ledger ?h1 ?h2 ?h3 ?h4 ?h5 ?_)
  case h1 => exact rfl
  case h2 => k_asm
  case h3 => k_asm
  case h4 => k_mem
  case h5 => (rw [List.size_toArray, IntsAre.length (by assumption)]; rw [PySem.sizeLine_eq]; omega)
  intro g9
  rename IntsAre _ (List.take (Int.toNat 40) ns) => hws
  rename News _ _ _ ((_, listOf _ 0) :: news) => nW
  have hle : (List.take (Int.toNat 40) ns).length ≤ 40 := by rw [List.length_take]; exact Nat.min_le_left _ _
  change IntsAre _ (List.take 40 ns) at hws
  change (List.take 40 ns).length ≤ 40 at hle
  generalize List.take 40 ns = ms at hws hle
  refine restU (fun i ys nws => nws = _ ∧ IntsAre ys (ms.take i)) ?turn ⟨rfl, .nil⟩ ?fin
  case turn =>
    rintro i ys nws v I oI C oC D m₂ h tk E' hi ⟨hn9, hi9⟩ hv9 hC hx F9 N9 off ne
    obtain ⟨x9, t9, hv8, ht9⟩ := ints_at hws i v hv9
    replace hn9 := hn9.symm
    subst hn9 hv8
    try k_unmd
    try k_fold
    k_steps
    refine Hold.of ?_
    refine ⟨_, _, _, rfl, by k_asm, by k_asm, off, .inr ⟨_, .head _, rfl, _, rfl⟩, rfl, ?_⟩
    rw [ht9]
    exact ints_snoc hi9 _ _
  case fin =>
    rintro ys nws ⟨hn9, hi9⟩
    replace hn9 := hn9.symm
    subst hn9
    rw [List.size_toArray, IntsAre.length hws, List.take_length] at hi9
    intro D9 h9 tk9 F9 N9 off9
    have hyl := IntsAre.length hi9
    cases hi9 with
    | nil =>
      try dsimp only
      k_steps
      refine Hold.of ?_
      k_dflt (refine' For_invVF ?zFa ?zxa ?zpa ?_ ?zhsa ?zhEa)
      case zFa => k_asm
      case zxa => rfl
      case zpa => rfl
      case zhsa => (intro _; rfl)
      case zhEa => passes_own
      k_steps
      refine Hold.of ?_
      (rename Fr _ _ _ _ => lF'); (rename News _ _ _ _ => lN')
      (with_unfolding_all refine' kst_listL (σ := BxS) (nn := _) (fun _ => (D9, LCg.lst ([])) :: (_, listOf _ 0) :: news) (fun c => [(Str.ofString "state", .int c.st c.t)]) (fun _ => True) [] (fun _ c => 0 ≤ c.st ∧ c.st < 2147483647) ⟨7, _⟩ (by rfl) (fun _ => .head _) IntsAre.nil lF' ?zna trivial ?zka ⟨(show (0:Int) ≤ 7 by decide), (show (7:Int) < 2147483647 by decide)⟩ ?_ ?_)
      case zna => exact lN'
      case zka => kst_all
      · rintro ⟨st9, ts9⟩ pre9 post9 n9 t9 u9 h9 tk9 own hns9 hin9 off9 _ ⟨hs90, hs91⟩ F9 N9
        dsimp only [kstB] at F9 N9 hs90 hs91
        try k_unmd
        try k_fold
        k_steps
        refine Hold.of ?_
        rename News _ _ _ _ => nE
        exact kst_end (BxS.mk _ _) (by k_asm) nE (fun p hp => List.mem_append.mpr (.inl hp)) (fun p hp => List.mem_append.mpr (.inr hp)) rfl trivial (by kst_all) (by kst_same) ⟨(fmod_in (by decide)).1, (fmod_in (by decide)).2⟩
      · rintro ⟨st9, ts9⟩ u9 h9 tk9 _ ⟨hs90, hs91⟩ F9 N9
        dsimp only [kstB] at F9 N9 hs90 hs91
        try k_unmd
        try k_fold
        k_steps
        refine hret _ _ _ _ (by k_asm) (drop2 (by k_asm)) ⟨_, _, _, _, _, _, _, _, _, _, _, rfl, (IntsAre.nil), ?_, ?_, hs90, hs91, off3 (by assumption), rfl⟩
        · (simp only [List.length_cons, List.length_nil] at hyl ⊢; first | omega | (simp only [List.length_cons, List.length_nil] at hle; omega))
        · first | exact Int.le_refl 0 | exact (fmod_in (by decide)).1 | omega
    | cons x0 t0 hi8 =>
      try dsimp only
      k_steps
      · refine Hold.of ?_
        k_dflt (refine' For_invVF ?zFb ?zxb ?zpb ?_ ?zhsb ?zhEb)
        case zFb => k_asm
        case zxb => rfl
        case zpb => rfl
        case zhsb => (intro _; rfl)
        case zhEb => passes_own
        k_steps
        refine Hold.of ?_
        (rename Fr _ _ _ _ => lF'); (rename News _ _ _ _ => lN')
        (with_unfolding_all refine' kst_listL (σ := BxS) (nn := _) (fun _ => (D9, LCg.lst (_)) :: (_, listOf _ 0) :: news) (fun c => [(Str.ofString "state", .int c.st c.t)]) (fun _ => True) [] (fun _ c => 0 ≤ c.st ∧ c.st < 2147483647) ⟨7, _⟩ (by rfl) (fun _ => .head _) (.cons x0 t0 hi8) lF' ?znb trivial ?zkb ⟨(show (0:Int) ≤ 7 by decide), (show (7:Int) < 2147483647 by decide)⟩ ?_ ?_)
        case znb => exact lN'
        case zkb => kst_all
        · rintro ⟨st9, ts9⟩ pre9 post9 n9 t9 u9 h9 tk9 own hns9 hin9 off9 _ ⟨hs90, hs91⟩ F9 N9
          dsimp only [kstB] at F9 N9 hs90 hs91
          try k_unmd
          try k_fold
          k_steps
          refine Hold.of ?_
          rename News _ _ _ _ => nE
          exact kst_end (BxS.mk _ _) (by k_asm) nE (fun p hp => List.mem_append.mpr (.inl hp)) (fun p hp => List.mem_append.mpr (.inr hp)) rfl trivial (by kst_all) (by kst_same) ⟨(fmod_in (by decide)).1, (fmod_in (by decide)).2⟩
        · rintro ⟨st9, ts9⟩ u9 h9 tk9 _ ⟨hs90, hs91⟩ F9 N9
          dsimp only [kstB] at F9 N9 hs90 hs91
          try k_unmd
          try k_fold
          k_steps
          refine hret _ _ _ _ (by k_asm) (drop2 (by k_asm)) ⟨_, _, _, _, _, _, _, _, _, _, _, rfl, ((.cons x0 t0 hi8)), ?_, ?_, hs90, hs91, off3 (by assumption), rfl⟩
          · (simp only [List.length_cons, List.length_nil] at hyl ⊢; first | omega | (simp only [List.length_cons, List.length_nil] at hle; omega))
          · first | exact Int.le_refl 0 | exact (fmod_in (by decide)).1 | omega
      · refine Hold.of ?_
        k_dflt (refine' For_invVF ?zFc ?zxc ?zpc ?_ ?zhsc ?zhEc)
        case zFc => k_asm
        case zxc => rfl
        case zpc => rfl
        case zhsc => (intro _; rfl)
        case zhEc => passes_own
        k_steps
        refine Hold.of ?_
        (rename Fr _ _ _ _ => lF'); (rename News _ _ _ _ => lN')
        (with_unfolding_all refine' kst_listL (σ := BxS) (nn := _) (fun _ => (D9, LCg.lst (_)) :: (_, listOf _ 0) :: news) (fun c => [(Str.ofString "state", .int c.st c.t)]) (fun _ => True) [] (fun _ c => 0 ≤ c.st ∧ c.st < 2147483647) ⟨7, _⟩ (by rfl) (fun _ => .head _) (.cons x0 t0 hi8) lF' ?znc trivial ?zkc ⟨(show (0:Int) ≤ 7 by decide), (show (7:Int) < 2147483647 by decide)⟩ ?_ ?_)
        case znc => exact lN'
        case zkc => kst_all
        · rintro ⟨st9, ts9⟩ pre9 post9 n9 t9 u9 h9 tk9 own hns9 hin9 off9 _ ⟨hs90, hs91⟩ F9 N9
          dsimp only [kstB] at F9 N9 hs90 hs91
          try k_unmd
          try k_fold
          k_steps
          refine Hold.of ?_
          rename News _ _ _ _ => nE
          exact kst_end (BxS.mk _ _) (by k_asm) nE (fun p hp => List.mem_append.mpr (.inl hp)) (fun p hp => List.mem_append.mpr (.inr hp)) rfl trivial (by kst_all) (by kst_same) ⟨(fmod_in (by decide)).1, (fmod_in (by decide)).2⟩
        · rintro ⟨st9, ts9⟩ u9 h9 tk9 _ ⟨hs90, hs91⟩ F9 N9
          dsimp only [kstB] at F9 N9 hs90 hs91
          try k_unmd
          try k_fold
          k_steps
          refine hret _ _ _ _ (by k_asm) (drop2 (by k_asm)) ⟨_, _, _, _, _, _, _, _, _, _, _, rfl, ((.cons x0 t0 hi8)), ?_, ?_, hs90, hs91, off3 (by assumption), rfl⟩
          · (simp only [List.length_cons, List.length_nil] at hyl ⊢; first | omega | (simp only [List.length_cons, List.length_nil] at hle; omega))
          · first | exact Int.le_refl 0 | exact (fmod_in (by decide)).1 | omega
end
section
open PySem PySem.W PyProof.Rows
set_option maxRecDepth 100000 in
set_option maxHeartbeats 4000000 in
theorem c_draw (w : World) (news : Led) (Pl Cl : Addr) (g st pl most : Int) (tg ts tp tm : Tok) (n0 c0 : Nat) (vs : List Value) (ns : List Int) (hm : (Cl, listOf vs.toArray c0) ∈ news) (hv : IntsAre vs ns) (hvl : vs.length ≤ 40) (hP : ∀ p ∈ news, p.1 ≠ Pl) (hg : 0 ≤ g) (hs0 : 0 ≤ st) (hs1 : st < 2147483647) (hp0 : 0 ≤ pl) (hp1 : pl ≤ 100) (hm0 : 2 ≤ most) (hm1 : most ≤ 9) : Ct 2 w 368 ((Pl, listOf #[.ref Cl, .int (g) tg, .int (st) ts, .int (pl) tp] n0) ::  news) [.ref Pl, .int most tm] (fun r n9 => ∃ g9 s9 t1 t2 t3 n1 d9 t4, n9 = (Pl, listOf #[.ref Cl, .int (g9) t1, .int (s9) t2, .int (pl + 1) t3] n1) ::  news ∧ 0 ≤ g9 ∧ 0 ≤ s9 ∧ s9 < 2147483647 ∧ r = .int d9 t4 ∧ 0 ≤ d9 ∧ d9 < most) (fun _ _ => False) := by
  k_with_none
  w_top off
  (k_with "compareOp In int bytes" => (refine in_int_bytes (by assumption) (by assumption) ?_))
  (k_with "subscriptTail Name Slice bytes ref" => (k_here; (with_reducible show wpAny _ _ (subscriptTail _ (Expr.Slice _ _ none _) (Value.bytes _ _) (Value.ref _)) _ _ _); k_dflt (refine' slice_b (s := ⟨_, _, _, _, _⟩) ?f ?n ?a ?b ?c ?_; (case f => k_asm); (case n => k_asm); (case a => omega); (case b => omega); (case c => omega)); intro _ _ _ F' N'))
  (k_with "compareOp Eq bytes bytes" => (first | refine eq_cut1 (k := 10) (by omega) (by omega) (by decide) ?_ | refine eq_cut1 (k := 34) (by omega) (by omega) (by decide) ?_ | refine eq_cut1 (k := 40) (by omega) (by omega) (by decide) ?_ | refine eq_cut1 (k := 91) (by omega) (by omega) (by decide) ?_ | refine eq_cut2 (k := 13) (by omega) (by omega) (by decide) (by omega) ?_))
  (k_with "compareOp In int ref" => (k_here; k_dflt (first | refine in_tup2 (News.isTup (by k_asm) (by k_mem)) ?_ | refine in_tup3 (tupK (by k_in) (by k_is)) ?_)))
  (k_with "ite" => (k_here; k_openite; first | (refine ite_pos (by (simp only [decide_eq_true_eq, Bool.and_eq_true, Bool.or_eq_true, Bool.not_eq_true', decide_eq_false_iff_not]; omega)) ?_; walk_say "PRUNED (own)") | (refine ite_neg (by (simp only [decide_eq_true_eq, Bool.and_eq_true, Bool.or_eq_true, Bool.not_eq_true', decide_eq_false_iff_not]; omega)) ?_; walk_say "PRUNED (own)")))
  (k_with "Unr" => (first | refine Unr.succ ?_ | refine Unr.zero ?_))
  (k_with "own k_all" => (first | exact ne_below (by assumption) | exact ne_allLt (by assumption) | exact ne_allLt2 (by assumption)))
  (k_with "own size_fits" => (((try simp only [List.size_toArray, PySem.sizeLine_eq]); omega)))
  (k_with "own k_all" => (assumption))
  (k_with "call builtin:len" => (k_here; (with_reducible show wpAny _ _ (call (Value.builtin "len") [Value.ref _]) _ _ _); k_dflt (refine' len_vals ?k1 ?k2 ?k3 ?_; (case k1 => k_asm); (case k2 => kst_mem); (case k3 => omega)); intro _ _))
  (k_with "subscriptTail" => (k_here; (with_reducible show wpAny _ _ (subscriptTail _ _ (Value.ref _) (Value.int _ _)) _ _ _); k_dflt (refine' item_vals ?k1 ?k2 ?k3 ?k4 ?k5 ?k6 ?_; (case k1 => k_asm); (case k2 => kst_mem); (case k3 => assumption); (case k4 => omega); (case k5 => omega); (case k6 => omega)); intro _ _))
  unfold Ct
  k_fill
  intro mean mg mb dp un gd cn cs a ccd cl outer A₀ base h₀ L m s Q E B F X N T hk hdp hun hret hexc
  refine wpAny_call ?_
  k_dflt cell_enter
  k_steps
  all_goals (refine hret _ _ _ _ (by k_asm) (by k_asm) ⟨_, _, _, _, _, _, _, _, rfl, ?_, ?_, ?_, rfl, (fmod_in (by omega)).1, (fmod_in (by omega)).2⟩; all_goals first | omega | exact fdiv_in (by omega) (by omega) | exact (fmod_in (by omega)).1 | exact (fmod_in (by omega)).2)
end
section
open PySem PySem.W PyProof.Rows
set_option maxRecDepth 100000 in
set_option maxHeartbeats 8000000 in
theorem walk : PySem.Challenge.rw_nz0310_01.Holds := hd (by
  k_with_none
  w_top off
  (k_with "compareOp In int bytes" => (refine in_int_bytes (by assumption) (by assumption) ?_))
  (k_with "subscriptTail Name Slice bytes ref" => (k_here; (with_reducible show wpAny _ _ (subscriptTail _ (Expr.Slice _ _ none _) (Value.bytes _ _) (Value.ref _)) _ _ _); k_dflt (refine' slice_b (s := ⟨_, _, _, _, _⟩) ?f ?n ?a ?b ?c ?_; (case f => k_asm); (case n => k_asm); (case a => omega); (case b => omega); (case c => omega)); intro _ _ _ F' N'))
  (k_with "subscriptTail" => (k_here; (with_reducible show wpAny _ _ (subscriptTail _ _ (Value.bytes _ _) (Value.int _ _)) _ _ _); (refine item_b (by omega) (by omega) (by omega) ?_); intro _ _ _ _))
  (k_with "compareOp Eq bytes bytes" => (first | refine eq_cut1 (k := 10) (by omega) (by omega) (by decide) ?_ | refine eq_cut1 (k := 34) (by omega) (by omega) (by decide) ?_ | refine eq_cut1 (k := 40) (by omega) (by omega) (by decide) ?_ | refine eq_cut1 (k := 91) (by omega) (by omega) (by decide) ?_ | refine eq_cut2 (k := 13) (by omega) (by omega) (by decide) (by omega) ?_))
  (k_with "compareOp In int ref" => (k_here; k_dflt (first | refine in_tup2 (News.isTup (by k_asm) (by k_mem)) ?_ | refine in_tup3 (tupK (by k_in) (by k_is)) ?_)))
  (k_with "ite" => (k_here; k_openite; first | (refine ite_pos (by (simp only [decide_eq_true_eq, Bool.and_eq_true, Bool.or_eq_true, Bool.not_eq_true', decide_eq_false_iff_not]; omega)) ?_; walk_say "PRUNED (own)") | (refine ite_neg (by (simp only [decide_eq_true_eq, Bool.and_eq_true, Bool.or_eq_true, Bool.not_eq_true', decide_eq_false_iff_not]; omega)) ?_; walk_say "PRUNED (own)")))
  (k_with "Unr" => (first | refine Unr.succ ?_ | refine Unr.zero ?_))
  (k_with "own k_all" => (first | exact ne_below (by assumption) | exact ne_allLt (by assumption) | exact ne_allLt2 (by assumption)))
  (k_with "own size_fits" => (((try simp only [List.size_toArray, PySem.sizeLine_eq]); omega)))
  (k_with "eval ListComp" => (k_here; (first | (with_reducible show wpAny _ _ (eval (Expr.ListComp (Expr.Subscript _ _ _) _ _ _) _) _ _ _) | (with_reducible show wpAny _ _ (eval (Expr.ListComp (Expr.IfExp _ _ _ _) _ _ _) _) _ _ _) | (with_reducible show wpAny _ _ (eval (Expr.ListComp (Expr.Name _ _) _ _ _) _) _ _ _) | (with_reducible show wpAny _ _ (eval (Expr.ListComp (Expr.Call _ _ _ _) _ _ _) _) _ _ _) | (with_reducible show wpAny _ _ (eval (Expr.ListComp (Expr.Tuple _ _ _) _ _ _) _) _ _ _)); refine Hold.mk ?_))
  (k_with "CompSrcT" => (refine Hold.mk ?_))
  (k_with "CompSrc" => (refine Hold.mk ?_))
  (k_with "CompEnd" => (refine Hold.mk ?_))
  (k_with "Exists" => (refine Hold.mk ?_))
  (k_with "call builtin:str.join" => (refine Hold.mk ?_))
  (k_with "binaryOp Add bytes bytes" => (k_here; (refine KBy.add_bytes ?z ?_; (case z => ((simp only [List.size_toArray, Array.size_append, List.length_cons, List.length_nil]); omega))); intro _ _))
  (k_with "call type:bytes" => (k_here; refine Hold.mk ?_))
  (k_with "binaryOp Add str str" => (k_here; (with_reducible show wpAny _ _ (binaryOp _ (Value.str (Str.ofString "[") _) (Value.str (strOf _) _)) _ _ _); (refine add_open ?z ?_; (case z => omega)); intro _ _))
  (k_with "binaryOp Add str str" => (k_here; (with_reducible show wpAny _ _ (binaryOp _ (Value.str (strOf _) _) (Value.str (Str.ofString "]") _)) _ _ _); (refine add_close ?z ?_; (case z => (simp only [List.length_cons]; omega))); intro _ _))
  (k_with "binaryOp Add str str" => (k_here; (with_reducible show wpAny _ _ (binaryOp _ (Value.str (Str.ofString "\\") _) (Value.str _ _)) _ _ _); (refine add_back ?_); intro _ _))
  (k_with "compareOp Eq ref ref" => (refine Hold.mk ?_))
  (k_with "exec Try" => (refine Hold.mk ?_))
  (k_with "exec If" => (k_here; refine Hold.mk ?_))
  (k_with "call ref" => (k_here; (with_reducible show wpAny _ _ (call (Value.ref 361) _) _ _ _); refine Hold.mk ?_))
  (k_with "call ref" => (k_here; (with_reducible show wpAny _ _ (call (Value.ref 368) _) _ _ _); refine Hold.mk ?_))
  (k_with "call ref" => (k_here; (with_reducible show wpAny _ _ (call (Value.ref 373) _) _ _ _); k_dflt (refine' Ct.use (c_law_is_atom _ _ _ _ ?hl ?ha) ?k1 ?k2 ?k3 ?k4 ?k5 ?kK ?kd ?ku ?_ ?ke; (case k1 => k_asm); (case k2 => k_asm); (case k3 => k_asm); (case k4 => first | k_asm | exact perm1 (by k_asm) | exact perm2 (by k_asm) | exact perm3 (by k_asm)); (case k5 => k_asm); (case hl => assumption); (case ha => assumption); (case kK => first | exact rfl | assumption); (case kd => ktr_room); (case ku => ktr_units); (case ke => (intro _ _ _ _ _ _ hF; exact hF.elim)); (intro r n h' tk' F' N' hR; (obtain ⟨hn9, hr9⟩ := hR; replace hn9 := hn9.symm; subst hn9 hr9); (try dsimp only); (try k_fold)))))
  (k_with "call ref" => (k_here; (with_reducible show wpAny _ _ (call (Value.ref 355) _) _ _ _); refine Hold.mk ?_))
  (k_with "call ref" => (k_here; (with_reducible show wpAny _ _ (call (Value.ref 343) _) _ _ _); refine Hold.mk ?_))
  w_strict (k_go0; (all_goals try k_fold); k_steps)
  refine Hold.of ?_
  k_dflt (refine' CtH.use (c_box _ _ _ _ _ ?hI ?hl) ?k1 ?k2 ?k3 ?k4 ?k5 ?kK ?kd ?ku ?kP ?_)
  case k1 => k_asm
  case k2 => k_asm
  case k3 => k_asm
  case k4 => k_asm
  case k5 => k_asm
  case kK => exact rfl
  case kd => ktr_room
  case ku => ktr_units
  case kP => assumption
  case hI => assumption
  case hl => omega
  rintro _ _ hA tkA FA NA ⟨Pl, Cl, g0, st0, tg0, ts0, tp0, n0, c0, vs9, ns9, rfl, hI9, hv9, hg0, hs00, hs01, hP0, rfl⟩
  (try dsimp only); (try k_fold)
  k_steps
  refine Hold.of ?_
  k_dflt (refine' Ct.use (c_draw _ _ Pl Cl _ _ _ _ _ _ _ _ _ _ vs9 ns9 ?hm hI9 hv9 ?hP hg0 hs00 hs01 ?hp0 ?hp1 (by decide) (by decide)) ?k1 ?k2 ?k3 ?k4 ?k5 ?kK ?kd ?ku ?_ (fun _ _ _ _ _ _ hF => hF.elim))
  case k1 => k_asm
  case k2 => k_asm
  case k3 => k_asm
  case k4 => k_asm
  case k5 => k_asm
  case kK => exact rfl
  case kd => ktr_room
  case ku => ktr_units
  case hm => k_mem
  case hP => exact apart_swap hP0
  case hp0 => omega
  case hp1 => omega

  rintro _ _ hB tkB FB NB ⟨g1, s1, t11, t12, t13, n1, d1, t14, rfl, hg1, hs10, hs11, rfl, hd10, hd11⟩
  (try dsimp only); (try k_fold)
  k_steps
  refine Hold.of ?_
  k_dflt (refine LCg.ListComp_U (F₀ := by k_asm) (by with_unfolding_all rfl) (by decide) (by rfl) (by decide) (by rfl) ?_)
  k_steps
  refine Hold.of ?_
  k_dflt (refine' Ct.use (c_draw _ _ Pl Cl _ _ _ _ _ _ _ _ _ _ vs9 ns9 ?hm hI9 hv9 ?hP hg1 hs10 hs11 ?hp0 ?hp1 (by decide) (by decide)) ?k1 ?k2 ?k3 ?k4 ?k5 ?kK ?kd ?ku ?_ (fun _ _ _ _ _ _ hF => hF.elim))
  case k1 => k_asm
  case k2 => k_asm
  case k3 => k_asm
  case k4 => k_asm
  case k5 => k_asm
  case kK => exact rfl
  case kd => ktr_room
  case ku => ktr_units
  case hm => k_mem
  case hP => exact apart_swap hP0
  case hp0 => omega
  case hp1 => omega

  rintro _ _ hC' tkC FC NC ⟨g2, s2, t21, t22, t23, n2, d2, t24, rfl, hg2, hs20, hs21, rfl, hd20, hd21⟩
  (try dsimp only); (try k_fold)
  k_steps
  refine Hold.of ?_
  obtain ⟨n8, rfl⟩ := Int.eq_ofNat_of_zero_le hd20
  rename IsRange _ _ _ _ _ _ _ _ => rgX
  k_dflt (refine' LCg.CompSrc.range (n := n8) ?h1 ?h2 ?h3 rgX ?h5 ?h6 ?h7 ?_)
  case h1 => exact rfl
  case h2 => k_asm
  case h3 => k_asm
  case h5 => exact small_one (by omega) (by omega) (by omega) (by omega)
  case h6 => rw [rangeSize_nat]; omega
  case h7 => rw [PySem.sizeLine_eq]; omega
  intro g9
  refine restU (RT Pl Cl _) ?turn ⟨g2, s2, t21, t22, t23, n2, [], [], by rw [Int.ofNat_zero, Int.add_zero], hg2, hs20, hs21, rfl, rfl, rfl, fun x hx => (List.not_mem_nil hx).elim⟩ ?fin

  case turn =>
    rintro i ys nws v I oI C oC D m₂ h tk E' hi ⟨g3, s3, t31, t32, t33, n3, l9, ws9, hn9, hg3, hs30, hs31, hy9, hl9, hw9, hm9⟩ ⟨u9, hv9'⟩ hC hx F9 N9 off ne
    subst hn9 hy9 hv9'
    try k_unmd
    try k_fold
    k_steps
    refine Hold.of ?_
    k_dflt (refine' Ct.use (c_draw _ _ Pl Cl _ _ _ _ _ _ _ _ _ _ vs9 ns9 ?hm hI9 hv9 ?hP hg3 hs30 hs31 ?hp0 ?hp1 (by decide) (by decide)) ?k1 ?k2 ?k3 ?k4 ?k5 ?kK ?kd ?ku ?_ (fun _ _ _ _ _ _ hF => hF.elim))
    case k1 => k_asm
    case k2 => k_asm
    case k3 => k_asm
    case k4 => exact perm3 (by k_asm)
    case k5 => k_asm
    case kK => exact rfl
    case kd => ktr_room
    case ku => ktr_units
    case hm => k_mem
    case hP => exact apart_turn (apart_swap hP0) off
    case hp0 => omega
    case hp1 => omega

    rintro _ _ hD tkD FD ND ⟨g4, s4, t41, t42, t43, n4, d4, t44, hn4, hg4, hs40, hs41, hr4, hd40, hd41⟩
    subst hn4 hr4
    (try dsimp only); (try k_fold)
    k_steps
    all_goals refine Hold.of ?_
    all_goals refine turn_end (by k_asm) (perm3b (by k_asm)) (off3_swap off) hg4 hs40 hs41 hl9 hw9 hm9 ?_
    all_goals first | exact ⟨[97], by decide, by decide⟩ | exact ⟨[46], by decide, by decide⟩ | exact ⟨[98, 45, 49], by decide, by decide⟩ | exact ⟨[91], by decide, by decide⟩ | exact ⟨[93], by decide, by decide⟩ | exact ⟨[92], by decide, by decide⟩ | exact ⟨[32], by decide, by decide⟩ | exact ⟨[46, 46], by decide, by decide⟩

  case fin =>
    rintro ys nws ⟨g3, s3, t31, t32, t33, n3, l9, ws9, hn9, hg3, hs30, hs31, hy9, hl9, hw9, hm9⟩
    subst hn9 hy9
    intro D9 h9 tk9 F9 N9 off9
    try dsimp only
    k_steps
    refine Hold.of ?_
    refine SC.join (News.isList (by k_asm) (by k_mem)) hl9 (join_fits hm9 (by omega)) ?_
    intro t8 k8
    rw [join_menu]
    obtain ⟨hol, hoa⟩ := flat_menu hm9
    generalize ws9.flatten = o9 at hol hoa
    have hol2 : o9.length ≤ 26 := by omega
    try dsimp only
    k_steps
    refine Hold.of ?_
    rename Fr _ _ _ _ => F8
    rename News _ _ _ _ => N8
    refine text_cut F8 N8 ?_ ?_
    · refine wpAny_If ?_
      k_steps
      · have hXl : ((91 :: o9) ++ [93]).length ≤ 26 := by (simp only [List.length_append, List.length_cons, List.length_nil]; omega)
        have hXa : ∀ c ∈ (91 :: o9) ++ [93], alpha c = true := fun c hc => by
          rcases List.mem_append.mp hc with hc | hc
          · rcases List.mem_cons.mp hc with rfl | hc
            · rfl
            · exact hoa c hc
          · rw [List.mem_singleton.mp hc]; rfl
        exact (CutT.mk hXl hXa (fr_over (by k_asm)) (by k_asm)).2
      · exact (CutT.mk hol2 hoa (by k_asm) (by k_asm)).2
    · clear F8 N8
      intro X u8 h8' tk8' hXl hXa FX NX
      (try dsimp only); (try k_fold)
      k_steps
      have hsl := strOf_length X
      refine Hold.of ?_
      refine wpAny_If ?_
      rename Fr _ _ _ _ => F8
      rename News _ _ _ _ => N8
      refine test_cut F8 N8 (isLit X) ?_ ?_
      · k_steps
        all_goals (refine CutB.mk ?_ (by k_asm) (by k_asm); first | exact lit_t (by assumption) (by assumption) (by assumption) | exact lit_l (by assumption) (by assumption) | exact lit_f (by assumption) (by assumption) | exact lit_s (by assumption))
      · intro h7 tk7 F7 N7
        by_cases hq : isLit X = true
        · rw [if_pos hq]
          k_steps
          refine Hold.of ?_
          k_dflt (refine comp_U (by k_asm) (by with_unfolding_all rfl) (by decide) (by rfl) (by decide) (by rfl) ?_)
          k_steps
          have hlen : 1 < X.length := by
            unfold isLit at hq
            simp only [Bool.and_eq_true, decide_eq_true_eq] at hq
            exact hq.2
          rw [slice_midL hlen]
          have hml := midL_len X
          refine Hold.of ?_
          refine ⟨_, _, _, Src.str rfl (ascii_all fun c hc => alpha_low (hXa c (midL_mem hc))) (by rw [PySem.sizeLine_eq]; show (strOf (midL X)).length ≤ _; rw [strOf_length]; omega), by k_asm, by k_asm, fun g9 => ?_⟩
          refine restU (RE (midL X) _) ?eturn ⟨rfl, [], rfl, rfl⟩ ?efin
          case eturn =>
            rintro i ys nws v I oI C oC D m₂ h tk E' hi ⟨hn9, q9, hy9, hq9⟩ ⟨c9, u9, hc9, hv9⟩ hC hx F9 N9 off ne
            subst hn9 hy9 hv9
            rw [strOf_get] at hc9
            obtain ⟨c8, hc8, rfl⟩ := Option.map_eq_some_iff.mp hc9
            try k_unmd
            try k_fold
            k_steps
            all_goals refine Hold.of ?_
            all_goals first | exact esc_end (by k_asm) (by k_asm) off hq9 hc8 (esc_yes (by assumption)) | exact esc_end (by k_asm) (by k_asm) off hq9 hc8 (esc_no (by assumption))
          case efin =>
            rintro ys nws ⟨hn9, q9, hy9, hq9⟩
            subst hn9 hy9
            intro D9 h9 tk9 F9 N9 off9
            rw [List.take_of_length_le (by show (midL X).length ≤ (strOf (midL X)).length; rw [strOf_length]; exact Nat.le_refl _)] at hq9
            try dsimp only
            k_steps
            refine Hold.of ?_
            refine SC.join (News.isList (by k_asm) (by k_mem)) hq9 (esc_fits (by omega)) ?_
            intro t8 k8
            rw [join_esc]
            have hel : (escL (midL X)).length ≤ 2 * X.length := by (have := escL_len (midL X); omega)
            try dsimp only
            k_steps
            refine Hold.of ?_
            refine wpAny_Try_except ?_
            k_steps
            refine Hold.of ?_
            k_dflt (refine' CtX.use (c_domain_octets _ _ X _ (by omega) (by omega) (fun c hc => alpha_low (hXa c hc)) (fun c hc => alpha_tame (hXa c (midL_mem hc))) (bs_size hXl) (bs_len hXl)) ?k1 ?k2 ?k3 ?k4 ?k5 ?kK ?kd ?ku ?hret ?hexc)
            case k1 => k_asm
            case k2 => k_asm
            case k3 => k_asm
            case k4 => k_asm
            case k5 => k_asm
            case kK => exact rfl
            case kd => ktr_room
            case ku => ktr_units
            case hret =>
              rintro _ _ hG tkG FG NG ⟨rfl, o5, t5, ho5, rfl⟩
              rw [domO_lit hq] at ho5
              obtain rfl := Option.some.inj ho5
              (try dsimp only); (try k_fold)
              k_steps
              obtain ⟨toks, DD, hd1, hd2, hd3, hd4, hd5, hdl, hda⟩ := addr_data (domO_lit hq) hXl hXa
              refine Hold.of ?_
              refine wpAny_If ?_
              rename Fr _ _ _ _ => F4
              rename News _ _ _ _ => N4
              refine test_cut F4 N4 false ?_ ?_
              · k_steps
                refine Hold.of ?_
                k_dflt (refine comp_U (by k_asm) (by with_unfolding_all rfl) (by decide) (by rfl) (by decide) (by rfl) ?_)
                k_steps
                refine Hold.of ?_
                refine ⟨_, _, _, Src.str rfl (ascii_all hda) (by rw [PySem.sizeLine_eq]; show (strOf ((91 :: escL (midL X)) ++ [93])).length ≤ _; rw [strOf_length]; omega), by k_asm, by k_asm, fun g9 => ?_⟩
                refine restU (RI ((91 :: escL (midL X)) ++ [93]) _) ?iturn ⟨rfl, .nil⟩ ?ifin
                case iturn =>
                  rintro i ys nws v I oI C oC D m₂ h tk E' hi ⟨hn9, hi9⟩ ⟨c9, u9, hc9, hv9⟩ hC hx F9 N9 off ne
                  subst hn9 hv9
                  try k_unmd
                  try k_fold
                  k_steps
                  refine Hold.of ?_
                  rw [strOf_get] at hc9
                  obtain ⟨c8, hc8, rfl⟩ := Option.map_eq_some_iff.mp hc9
                  refine ⟨_, _, _, rfl, F9, N9, off, trivial, rfl, ?_⟩
                  rw [codesI_take hc8]
                  exact ints_snoc hi9 _ _
                case ifin =>
                  rintro ys nws ⟨hn9, hi9⟩
                  subst hn9
                  intro D9 h9 tk9 F9 N9 off9
                  rw [List.take_of_length_le (by show (((91 :: escL (midL X)) ++ [93])).length ≤ (strOf ((91 :: escL (midL X)) ++ [93])).length; rw [strOf_length]; exact Nat.le_refl _)] at hi9
                  try dsimp only
                  k_steps
                  refine Hold.of ?_
                  k_dflt (refine' KBa.make_K ?k1 ?k2 ?k3 ?k4 hi9 (codesI_in ((91 :: escL (midL X)) ++ [93])) ?k6 ?_)
                  case k1 => k_asm
                  case k2 => k_asm
                  case k3 => rfl
                  case k4 => exact News.isList (by k_asm) (by k_mem)
                  case k6 => (unfold codesI; rw [List.length_map]; omega)
                  intro h8 t8 k8 F8 N8 _
                  rw [codesI_bytes]
                  try dsimp only
                  k_steps
                  all_goals first
                    | exact CutB.mk rfl (by k_asm) (by first | k_asm | exact drop0 (by k_asm))
                    | (exfalso; rename (_ != _) = true => hne; simp at hne; done)
              · intro h3 tk3 F3 N3
                rw [if_neg (by decide)]
                k_steps
                refine Hold.of ?_
                k_dflt (refine LCg.ListComp_U (F₀ := by k_asm) (by with_unfolding_all rfl) (by decide) (by rfl) (by decide) (by rfl) ?_)
                k_steps
                refine Hold.of ?_
                k_dflt (refine' Ct.use (c_addresses _ _ _ _ ?hn toks hd1 hd2 hd3 DD [97] [98] [99] _ hd4 hd5 (by decide) (by decide) (by decide)) ?k1 ?k2 ?k3 ?k4 ?k5 ?kK ?kd ?ku ?_ (fun _ _ _ _ _ _ hF => hF.elim))
                case k1 => k_asm
                case k2 => k_asm
                case k3 => k_asm
                case k4 => k_asm
                case k5 => k_asm
                case kK => exact rfl
                case kd => ktr_room
                case ku => ktr_units
                case hn => simp only [List.size_toArray, Array.size_append, List.length_append, List.length_cons, List.length_nil] at hdl ⊢; omega
                rintro _ _ hH tkH FH NH ⟨M1, e1, f4, f5, f6, v4, v5, v6, M2, e2, g4, g5, g6, u4, u5, u6, Fd, kF, rfl, rfl⟩
                (try dsimp only); (try k_fold)
                k_steps
                refine Hold.of ?_
                k_dflt (refine' LCg.CompSrc.ledger ?h1 ?h2 ?h3 ?h4 ?h5 ?_)
                case h1 => exact rfl
                case h2 => k_asm
                case h3 => k_asm
                case h4 => k_mem
                case h5 => exact Nat.le_of_ble_eq_true rfl
                intro g9
                refine LCg.CompRest.succ (k := 1) ?_
                intro v I oI C oC D m₂ h tk E' hv hC hx F9 N9 off ne
                obtain rfl : Value.ref M1 = v := Option.some.inj hv
                try k_unmd
                try k_fold
                k_steps
                refine Hold.of ?_
                rename News _ _ _ ((_, _) :: (I, _) :: _) => NT
                rename (@LT.lt Nat _ I _ ∧ _) => lT
                refine tup_end (by k_asm) NT lT off (Or.inr ⟨_, by k_mem, rfl, _, rfl⟩) ?_
                clear NT lT hx hv hC
                refine LCg.CompRest.succ (k := 0) ?_
                intro v I' oI' C' oC' D' m₂' h' tk' E'' hv' hC' hx' F9' N9' off' ne'
                obtain rfl : Value.ref M2 = v := Option.some.inj hv'
                try k_unmd
                try k_fold
                k_steps
                refine Hold.of ?_
                rename News _ _ _ ((_, _) :: (I', _) :: _) => NT
                rename (@LT.lt Nat _ I' _ ∧ _) => lT
                refine tup_end (by k_asm) NT lT off' (Or.inr ⟨_, by k_mem, rfl, _, rfl⟩) ?_
                refine LCg.CompRest.zero ?_
                intro D3 h3' tk3' F3' N3' off3'
                try dsimp only
                k_steps
                refine Hold.of ?_
                k_dflt (refine' eq_pairs ?zl ?zb ?zt1 ?zt2 ?zu1 ?zu2 ?zn1 ?zn2 ?ze1 ?ze2 ?ze3 ?ze4 (by ktr_units) ?_)
                case zl => exact News.isList (by k_asm) (by k_mem)
                case zb => exact News.isList (by k_asm) (by k_mem)
                case zt1 => exact News.isTup (by k_asm) (by k_mem)
                case zt2 => exact News.isTup (by k_asm) (by k_mem)
                case zu1 => exact News.isTup (by k_asm) (by k_mem)
                case zu2 => exact News.isTup (by k_asm) (by k_mem)
                case zn1 => k_ne
                case zn2 => k_ne
                case ze1 => decide
                case ze2 => rfl
                case ze3 => decide
                case ze4 => decide
                try dsimp only
                k_steps
            case hexc =>
              intro hbad
              rw [domO_lit hq] at hbad
              cases hbad

        · rw [if_neg hq]
          k_steps
          refine Hold.of ?_
          refine wpAny_If ?_
          rename Fr _ _ _ _ => F6
          rename News _ _ _ _ => N6
          refine test_cut F6 N6 ((cutP X).all isAtomL) ?_ ?_
          · k_steps
            refine Hold.of ?_
            k_dflt (refine LCt.ListComp_T (F₀ := by k_asm) (by with_unfolding_all rfl) (by decide) (by rfl) (by decide) (by rfl) ?_)
            k_steps
            refine Hold.of ?_
            rename (List.map _ _ = Txt.split _ _) => hl8
            rw [split_cut] at hl8
            k_dflt (refine' LCt.CompSrcT.ledger ?h1 ?h2 ?h3 ?h4 ?h5 ?_)
            case h1 => exact rfl
            case h2 => k_asm
            case h3 => k_asm
            case h4 => k_mem
            case h5 => (have e := congrArg List.length hl8; rw [List.length_map, List.length_map] at e; have e2 := (cutP_len X).1; rw [List.size_toArray]; simp only [strValues, List.length_map, PySem.sizeLine_eq]; omega)
            intro g9
            refine restT (RW X) ?wturn rfl ?wfin
            case wturn =>
              rintro i ys v I oI C oC D m₂ h tk E' hi hys hv hC hx F9 N9 off ne
              obtain ⟨w9, t9, hv9, hwl, hwa, hwt⟩ := word_at hl8 hi hv hXa
              subst hv9
              have hwl2 : w9.length ≤ 100 := by omega
              try k_unmd
              try k_fold
              k_steps
              · refine Hold.of ?_
                exact ⟨_, _, _, rfl, by k_asm, by k_asm, off, .inr ⟨_, .head _, rfl, _, rfl⟩, rfl, hwt.1 (by assumption) hys⟩
              · refine Hold.of ?_
                exact ⟨_, _, _, rfl, by k_asm, by k_asm, off, .inr ⟨_, .head _, rfl, _, rfl⟩, rfl, hwt.2 (by first | assumption | simpa using (show ¬ isAtomL w9 = true by assumption)) _⟩
            case wfin =>
              intro ys hys
              intro D9 h9 tk9 F9 N9 off9
              try dsimp only
              k_steps
              refine Hold.of ?_
              refine eq_nil (News.isList (by k_asm) (.tail _ (.head _))) (News.isList (by k_asm) (.head _)) (by ktr_units) ?_
              try dsimp only
              k_steps
              exact CutB.mk (rw_end hl8 hys) (by k_asm) (dropF3 (by k_asm))
          · intro h3 tk3 F3 N3
            by_cases hw : (cutP X).all isAtomL = true
            · rw [if_pos hw]
              k_steps
              refine Hold.of ?_
              refine wpAny_Try_except ?_
              k_steps
              refine Hold.of ?_
              k_dflt (refine' CtX.use (c_domain_octets _ _ X _ (by omega) (by omega) (fun c hc => alpha_low (hXa c hc)) (fun c hc => alpha_tame (hXa c (midL_mem hc))) (bs_size hXl) (bs_len hXl)) ?k1 ?k2 ?k3 ?k4 ?k5 ?kK ?kd ?ku ?hret ?hexc)
              case k1 => k_asm
              case k2 => k_asm
              case k3 => k_asm
              case k4 => k_asm
              case k5 => k_asm
              case kK => exact rfl
              case kd => ktr_room
              case ku => ktr_units
              case hret =>
                rintro _ _ hG tkG FG NG ⟨rfl, o5, t5, ho5, rfl⟩
                rw [domO_at hq hw] at ho5
                obtain rfl := Option.some.inj ho5
                (try dsimp only); (try k_fold)
                k_steps
                obtain ⟨toks, DD, hd1, hd2, hd3, hd4, hd5, hdl, hda⟩ := addr_data (domO_at hq hw) hXl hXa
                refine Hold.of ?_
                refine wpAny_If ?_
                rename Fr _ _ _ _ => F4
                rename News _ _ _ _ => N4
                refine test_cut F4 N4 false ?_ ?_
                · k_steps
                  refine Hold.of ?_
                  k_dflt (refine comp_U (by k_asm) (by with_unfolding_all rfl) (by decide) (by rfl) (by decide) (by rfl) ?_)
                  k_steps
                  refine Hold.of ?_
                  refine ⟨_, _, _, Src.str rfl (ascii_all hda) (by rw [PySem.sizeLine_eq]; show (strOf X).length ≤ _; rw [strOf_length]; omega), by k_asm, by k_asm, fun g9 => ?_⟩
                  refine restU (RI X _) ?iturn ⟨rfl, .nil⟩ ?ifin
                  case iturn =>
                    rintro i ys nws v I oI C oC D m₂ h tk E' hi ⟨hn9, hi9⟩ ⟨c9, u9, hc9, hv9⟩ hC hx F9 N9 off ne
                    subst hn9 hv9
                    try k_unmd
                    try k_fold
                    k_steps
                    refine Hold.of ?_
                    rw [strOf_get] at hc9
                    obtain ⟨c8, hc8, rfl⟩ := Option.map_eq_some_iff.mp hc9
                    refine ⟨_, _, _, rfl, F9, N9, off, trivial, rfl, ?_⟩
                    rw [codesI_take hc8]
                    exact ints_snoc hi9 _ _
                  case ifin =>
                    rintro ys nws ⟨hn9, hi9⟩
                    subst hn9
                    intro D9 h9 tk9 F9 N9 off9
                    rw [List.take_of_length_le (by show (X).length ≤ (strOf X).length; rw [strOf_length]; exact Nat.le_refl _)] at hi9
                    try dsimp only
                    k_steps
                    refine Hold.of ?_
                    k_dflt (refine' KBa.make_K ?k1 ?k2 ?k3 ?k4 hi9 (codesI_in X) ?k6 ?_)
                    case k1 => k_asm
                    case k2 => k_asm
                    case k3 => rfl
                    case k4 => exact News.isList (by k_asm) (by k_mem)
                    case k6 => (unfold codesI; rw [List.length_map]; omega)
                    intro h8 t8 k8 F8 N8 _
                    rw [codesI_bytes]
                    try dsimp only
                    k_steps
                    all_goals first
                      | exact CutB.mk rfl (by k_asm) (by first | k_asm | exact drop0 (by k_asm))
                      | (exfalso; rename (_ != _) = true => hne; simp at hne; done)
                · intro h3 tk3 F3 N3
                  rw [if_neg (by decide)]
                  k_steps
                  refine Hold.of ?_
                  k_dflt (refine LCg.ListComp_U (F₀ := by k_asm) (by with_unfolding_all rfl) (by decide) (by rfl) (by decide) (by rfl) ?_)
                  k_steps
                  refine Hold.of ?_
                  k_dflt (refine' Ct.use (c_addresses _ _ _ _ ?hn toks hd1 hd2 hd3 DD [97] [98] [99] _ hd4 hd5 (by decide) (by decide) (by decide)) ?k1 ?k2 ?k3 ?k4 ?k5 ?kK ?kd ?ku ?_ (fun _ _ _ _ _ _ hF => hF.elim))
                  case k1 => k_asm
                  case k2 => k_asm
                  case k3 => k_asm
                  case k4 => k_asm
                  case k5 => k_asm
                  case kK => exact rfl
                  case kd => ktr_room
                  case ku => ktr_units
                  case hn => simp only [List.size_toArray, Array.size_append, List.length_append, List.length_cons, List.length_nil] at hdl ⊢; omega
                  rintro _ _ hH tkH FH NH ⟨M1, e1, f4, f5, f6, v4, v5, v6, M2, e2, g4, g5, g6, u4, u5, u6, Fd, kF, rfl, rfl⟩
                  (try dsimp only); (try k_fold)
                  k_steps
                  refine Hold.of ?_
                  k_dflt (refine' LCg.CompSrc.ledger ?h1 ?h2 ?h3 ?h4 ?h5 ?_)
                  case h1 => exact rfl
                  case h2 => k_asm
                  case h3 => k_asm
                  case h4 => k_mem
                  case h5 => exact Nat.le_of_ble_eq_true rfl
                  intro g9
                  refine LCg.CompRest.succ (k := 1) ?_
                  intro v I oI C oC D m₂ h tk E' hv hC hx F9 N9 off ne
                  obtain rfl : Value.ref M1 = v := Option.some.inj hv
                  try k_unmd
                  try k_fold
                  k_steps
                  refine Hold.of ?_
                  rename News _ _ _ ((_, _) :: (I, _) :: _) => NT
                  rename (@LT.lt Nat _ I _ ∧ _) => lT
                  refine tup_end (by k_asm) NT lT off (Or.inr ⟨_, by k_mem, rfl, _, rfl⟩) ?_
                  clear NT lT hx hv hC
                  refine LCg.CompRest.succ (k := 0) ?_
                  intro v I' oI' C' oC' D' m₂' h' tk' E'' hv' hC' hx' F9' N9' off' ne'
                  obtain rfl : Value.ref M2 = v := Option.some.inj hv'
                  try k_unmd
                  try k_fold
                  k_steps
                  refine Hold.of ?_
                  rename News _ _ _ ((_, _) :: (I', _) :: _) => NT
                  rename (@LT.lt Nat _ I' _ ∧ _) => lT
                  refine tup_end (by k_asm) NT lT off' (Or.inr ⟨_, by k_mem, rfl, _, rfl⟩) ?_
                  refine LCg.CompRest.zero ?_
                  intro D3 h3' tk3' F3' N3' off3'
                  try dsimp only
                  k_steps
                  refine Hold.of ?_
                  k_dflt (refine' eq_pairs ?zl ?zb ?zt1 ?zt2 ?zu1 ?zu2 ?zn1 ?zn2 ?ze1 ?ze2 ?ze3 ?ze4 (by ktr_units) ?_)
                  case zl => exact News.isList (by k_asm) (by k_mem)
                  case zb => exact News.isList (by k_asm) (by k_mem)
                  case zt1 => exact News.isTup (by k_asm) (by k_mem)
                  case zt2 => exact News.isTup (by k_asm) (by k_mem)
                  case zu1 => exact News.isTup (by k_asm) (by k_mem)
                  case zu2 => exact News.isTup (by k_asm) (by k_mem)
                  case zn1 => k_ne
                  case zn2 => k_ne
                  case ze1 => decide
                  case ze2 => rfl
                  case ze3 => decide
                  case ze4 => decide
                  try dsimp only
                  k_steps
              case hexc =>
                intro hbad
                rw [domO_at hq hw] at hbad
                cases hbad

            · rw [if_neg hw]
              k_steps
              refine Hold.of ?_
              refine wpAny_Try_except ?_
              k_steps
              refine Hold.of ?_
              k_dflt (refine' CtX.use (c_domain_octets _ _ X _ (by omega) (by omega) (fun c hc => alpha_low (hXa c hc)) (fun c hc => alpha_tame (hXa c (midL_mem hc))) (bs_size hXl) (bs_len hXl)) ?k1 ?k2 ?k3 ?k4 ?k5 ?kK ?kd ?ku ?hret ?hexc)
              case k1 => k_asm
              case k2 => k_asm
              case k3 => k_asm
              case k4 => k_asm
              case k5 => k_asm
              case kK => exact rfl
              case kd => ktr_room
              case ku => ktr_units
              case hret =>
                rintro _ _ hG tkG FG NG ⟨rfl, o5, t5, ho5, rfl⟩
                rw [domO_no hq hw] at ho5
                cases ho5
              case hexc =>
                intro hbad
                intro g5 e5 h5 tk5 F5 R5 U5
                k_steps
                k_dflt (refine caught_word (KF := hd.heap_39 _) (by assumption) (by assumption) R5 U5 (by k_asm) (by k_asm) (by k_is) (by kernel_rfl) ?_)
                intro h4 F4 N4
                k_steps

  )
end
end Mine
open PySem PySem.W PyProof.Rows
theorem PySem.Challenge.cw_nz0310_01_holds : PySem.Challenge.rw_nz0310_01.Holds := by
  exact Mine.walk
