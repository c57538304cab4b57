import PyProof.Rows.All
import Wide.All
import OpenK.AllK
import Wide.FinOn
import HandS.ForMost
import HandS.Property
import HandS.Star
import HandS.SlotsOwn
import HandS.ClsMeth
import HandS.Defaults
import HandS.MakeKwOnly
import HandS.HeadHook1
import HandS.HeadHook2
import HandS.HeadNt
import HandS.Codes
import KE.KStateDown
import HandS.Head0
import HandS.Head1
import HandS.Head2
import HandS.HeadEnd
import HandS.IsInst
import HandS.Conv
import HandS.SortInts
import HandS.Deep
import HandS.TupAny
import HandS.WideBits
import KE.GoesEnum
import PySem.Challenge.RW_agedfiles_k53_whole_safe_books_spare_wha
set_option Elab.async false
set_option linter.all false
set_option maxRecDepth 100000
set_option maxHeartbeats 4000000
section
set_option maxHeartbeats 2000000
/-! AgR: rules that the layer lacks: len, a subscript, a property's store of an own class; a staticmethod called by its class; dict.update by a dict; what is never asked. -/
namespace AgR
open PySem PySem.Spec PyProof.Rows L2

def tNo : TE := fun _ _ _ => False
theorem pe_no {X : Cx} {e : Expr} : PE X e tNo := ⟨fun _ _ _ _ _ _ h => h.elim⟩

section
variable {X : Cx} {CX : CXT} {n : Nat} {C g : Addr} {sp : Sp} {E : XK}
/-! ### len(o) -/
def rLenO (C : Addr) (sp : Sp) (E : XK) : List V → Hp → VK → Prop := fun xs H Q => ∃ (a dx : Addr) (fs : List (Str × V)), xs = [V.ref a] ∧ H a = some (.ins C dx fs) ∧
  sp [.ref a] H (fun z H' => ∃ i : Int, z = .int i ∧ 0 ≤ i ∧ i < 2 ^ 63 ∧ Q (.int i) H') E
theorem call_lenO (hs : PySem.W.findIn X.K (.ref C) "__len__" = some (some (.ref g))) (hf : PySem.W.isFn X.K (.ref g) = true) (F : FnR X.prog X.w X.K X.mg X.base CX n g sp) (hr : Room (n + 1) X.A) (hx : Passes CX X E) : CallR X (.builtin "len") (rLenO C sp E) := by
  intro pins s σ H xs us Q I r h
  obtain ⟨a, dx, fs, rfl, ea, q⟩ := h
  obtain ⟨u, rfl, ru⟩ := vals1 r
  cases (show u = Value.ref a from ru)
  obtain ⟨mA, O, _⟩ := ins_get I.hok ea
  obtain ⟨od, J, _⟩ := O.look
  obtain ⟨m, hF⟩ := I.fr
  refine PySem.W.len_K hF I.ok.mod.kin J hs hf (wpAny_mono (wpAny_call (SlX.run_at (us := [.ref a]) (ws := [.ref a]) F hr.in1 I.env0.in1 hx I (.cons rfl .nil) q)) (fun w s' z => ?_) fun _ _ x => x)
  obtain ⟨z', H', I', rz, i, ei, h0, h1, q'⟩ := z
  subst ei
  obtain ⟨t, e⟩ := (show ∃ t, w = Value.int i t from rz)
  subst e
  exact ⟨⟨h0, h1⟩, .int i, H', I'.tok _, ⟨_, rfl⟩, q'⟩

/-! ### o[e] -/
def tSubO (C : Addr) (sp : Sp) (E : XK) (ta tb : TE) : TE := fun σ H Q => ta σ H fun x H1 => tb σ H1 fun y H2 => ∃ (a dx : Addr) (fs : List (Str × V)), x = V.ref a ∧ H2 a = some (.ins C dx fs) ∧ sp [.ref a, y] H2 Q E
theorem pe_subO {a b : Expr} {ta tb : TE} {pos : Pos} (hs : PySem.W.findIn X.K (.ref C) "__getitem__" = some (some (.ref g))) (hf : PySem.W.isFn X.K (.ref g) = true) (hfn : PySem.W.fnIn X.K g = true) (F : FnR X.prog X.w X.K X.mg X.base CX n g sp) (hr : Room (n + 1) X.A) (hx : Passes CX X E)
    (ha : PE X a ta) (hb : PE X b tb) (hsl : ∀ o i, subscripted b true o i = runValue (.builtin "lifetime.subscript" ⟨[o, i], []⟩) := by intro _ _; with_unfolding_all rfl) : PE X (.Subscript a b pos) (tSubO C sp E ta tb) := by
  refine ⟨fun pins s σ H Q I h => ?_⟩
  refine Subscript_ (binT ha hb I h fun v u s2 x y H2 I2 rx ry q => ?_)
  obtain ⟨p, dx, fs, ex, ep, q⟩ := q
  subst ex
  cases (show v = Value.ref p from rx)
  obtain ⟨mA, O, _⟩ := ins_get I2.hok ep
  obtain ⟨od, J, _⟩ := O.look
  obtain ⟨m, hF⟩ := I2.fr
  exact PySem.W.sub_K hF I2.ok.mod.kin J hs hfn hf (wpAny_call (SlX.run_at (us := [.ref p, u]) (ws := [.ref p, y]) F hr.in1 I2.env0.in1 hx I2 (.cons rfl (.cons ry .nil)) q)) (hsl _ _)

/-! ### o.f = e, f a property with a setter -/
structure PropSet (K : PySem.W.Frag) (C : Addr) (f : Str) (p g : Addr) : Prop where
  tk : PySem.W.takerIn K C f = some (some (.ref p))
  ty : PySem.W.typeIn K (.ref p) = some (.type "property")
  rc : ∃ a rest, PySem.W.recIn K p "property" = some (a :: .ref g :: rest)
def sPropSet (C : Addr) (sp : Sp) (E : XK) (ta tv : TE) : TS := fun D σ H => tv σ H fun y H1 => ta σ H1 fun x H2 => ∃ (a dx : Addr) (fs : List (Str × V)), x = V.ref a ∧ H2 a = some (.ins C dx fs) ∧ sp [.ref a, y] H2 (fun _ H3 => D.nx σ H3) E
theorem ps_propSet {o value : Expr} {f : Str} {pos pos' : Pos} {p : Addr} {ta tv : TE} (ha : PE X o ta) (hv : PE X value tv) (c : Cls X.K C) (k : PropSet X.K C f p g) (F : FnR X.prog X.w X.K X.mg X.base CX n g sp) (hr : Room (n + 2) X.A) (hx : Passes CX X E)
    (hs : swapsWith value (some (.Attribute o f pos')) pos.line X.env = pure false) : PS X (.Assign [.Attribute o f pos'] value pos) (sPropSet C sp E ta tv) := by
  refine ⟨fun pins s σ H D I h => ?_⟩
  refine plainObj_wpAny_Assign_Attribute (thn (hv.run pins s σ H _ I h) fun u s1 ⟨y, H1, I1, ry, q⟩ => thn (ha.run pins s1 σ H1 _ I1 q) fun ov s2 ⟨x, H2, I2, rx, a, dx, fs, ex, ea, q2⟩ => ?_) hs
  subst ex
  obtain rfl : ov = Value.ref a := rx
  obtain ⟨mA, O, _⟩ := ins_get I2.hok ea
  obtain ⟨od, J, _⟩ := O.look
  obtain ⟨m, hF⟩ := I2.fr
  obtain ⟨z, rest, hr0⟩ := k.rc
  have I3 := I2.tok (s2.toks + 1)
  have hr2 : Room n X.A.in1.in1 := (show Room (n + 1) X.A.in1 from Room.in1 hr).in1
  refine PySem.W.set_prop hF I2.ok.mod.kin J c.sa c.po k.tk k.ty hr0 (codeAny_mono (SlX.run_at (us := [.ref a, u]) (ws := [.ref a, y]) F hr2 I3.env0.in1.in1 hx I3 (.cons rfl (.cons ry .nil)) q2) fun r s' hq => ?_)
  cases r with
  | error e => exact hq
  | ok fl =>
    cases fl with
    | ret w =>
      obtain ⟨v', H', I', _, q'⟩ := hq
      exact ⟨σ, H', I', q'⟩
    | next => exact hq
    | brk => exact hq
    | cont => exact hq

/-! ### C.m(..), a staticmethod -/
structure StM (K : PySem.W.Frag) (C : Addr) (m : Str) (p g : Addr) : Prop where
  ty : PySem.W.typeIn K (.ref C) = some (.type "type")
  rd : PySem.W.readsIn K C (.type "type") = true
  ga : PySem.W.specialIn K (.ref C) "__getattribute__" = some (some (.builtin "type.__getattribute__"))
  at_ : PySem.W.findCls K (.ref C) (.type "type") m = some (.get (.builtin "staticmethod.__get__") (.ref p) .none (.ref C))
  rc : ∃ rest, PySem.W.recIn K p "staticmethod" = some (.ref g :: rest)
  kp : PySem.W.keepIn K (.ref g) = true
section
variable {o e : Expr} {es : List Expr} {m : Str} {p : Addr} {pos apos : Pos} {ta : TE} {t : TA} {pl : Sem Bool}
def tStM (C : Addr) (sp : Sp) (E : XK) (ta : TE) (t : TA) : TE := fun σ H Q => ta σ H fun x H1 => x = V.ref C ∧ t σ H1 fun vs H2 => sp vs H2 Q E
theorem getstm_ok {pins : List (Addr × Obj)} {σ : L2.St} {H : Hp} {s : Shared} {A : Around} {E' : Value → Shared → Prop} {Q : Value × List Value → Shared → Prop} (I : Inv X pins σ H s) (k : StM X.K C m p g)
    (h : ∀ s', Inv X pins σ H s' → Q (.ref g, []) s') : wpAny (model X.prog X.w) A (getMethod (.ref C) m pl) Q E' s := by
  obtain ⟨mm, hF⟩ := I.fr
  obtain ⟨rest, hrc⟩ := k.rc
  exact PySem.W.method_of_cls hF I.ok.mod.kin k.ga (PySem.W.cls_sm hF I.ok.mod.kin k.ty k.rd k.at_ hrc rfl (h _ (I.tok _)))
theorem pe_stm (he : PE X o ta) (k : StM X.K C m p g) (F : FnR X.prog X.w X.K X.mg X.base CX n g sp) (hr : Room n X.A) (hx : Passes CX X E) (ha : PA X (e :: es) t)
    (hst : starEach (e :: es) X.env = (false, eval e X.env) :: starEach es X.env := by rfl) (hpl : (backTo pos (starEach es X.env)).any (·.1) = false := by rfl)
    (ht : eval (.Call (.Attribute o m apos) (e :: es) [] pos) X.env = (do
      let ov ← eval o X.env
      standAt apos.atName
      let (f, first) ← holding [ov] (getMethod ov m pl)
      callWith pos f first (backTo pos (starEach (e :: es) X.env)) (backToKw pos (keywordEach [] X.env))) := by rfl) :
    PE X (.Call (.Attribute o m apos) (e :: es) [] pos) (tStM C sp E ta t) := by
  refine ⟨fun pins s σ H Q I h => ?_⟩
  refine PySem.W.methodCall_KW (pl := pl) (thn (he.run pins s σ H _ I h) fun u s1 ⟨x, H1, I1, rx, ex, q⟩ => ?_) ht
  subst ex
  obtain rfl : u = Value.ref C := rx
  refine getstm_ok I1 k fun s2 I2 => ?_
  refine PySem.W.callWith_K (h₀ := X.base) I2.ok.mod.kin k.kp (thn (ha.run pos pins s2 σ H1 _ I2 q) fun us s3 ⟨vs, H2, I3, rv, q2⟩ => ⟨I3.kIn, ?_⟩) hst hpl
  exact wpAny_call (run_fnR F hr hx I3 rv q2)
theorem pe_stm0 (he : PE X o ta) (k : StM X.K C m p g) (F : FnR X.prog X.w X.K X.mg X.base CX n g sp) (hr : Room n X.A) (hx : Passes CX X E)
    (ht : eval (.Call (.Attribute o m apos) [] [] pos) X.env = (do
      let ov ← eval o X.env
      standAt apos.atName
      let (f, first) ← holding [ov] (getMethod ov m pl)
      callWith pos f first (backTo pos (starEach [] X.env)) (backToKw pos (keywordEach [] X.env))) := by rfl) :
    PE X (.Call (.Attribute o m apos) [] [] pos) (tStM C sp E ta tNil) := by
  refine ⟨fun pins s σ H Q I h => ?_⟩
  refine PySem.W.methodCall_KW (pl := pl) (thn (he.run pins s σ H _ I h) fun u s1 ⟨x, H1, I1, rx, ex, q⟩ => ?_) ht
  subst ex
  obtain rfl : u = Value.ref C := rx
  refine getstm_ok I1 k fun s2 I2 => ?_
  exact PySem.W.callWith_K0 I2.kIn k.kp (wpAny_call (run_fnR (us := []) (vs := []) F hr hx I2 .nil q))
end
end

/-! ### d.update(e), two dicts -/
section
variable {X : Cx}
def rUpd : V → List V → Hp → VK → Prop := fun x xs H Q => ∃ (a b : Addr) (kvs more : List (Key × V)), x = V.ref a ∧ xs = [V.ref b] ∧ H a = some (.dK kvs) ∧ H b = some (.dK more) ∧ a ≠ b ∧ kvs.length + more.length ≤ 1000 ∧ Q .non (upd H a (.dK (mergeK kvs more)))
theorem mt_update : MtR X "dict.update" rUpd := by
  intro pins s σ H x xs v us Q I rx rv h
  obtain ⟨a, b, kvs, more, rfl, rfl, ea, eb, ne, hz, q⟩ := h
  cases (show v = Value.ref a from rx)
  obtain ⟨u, rfl, ru⟩ := vals1 rv
  cases (show u = Value.ref b from ru)
  obtain ⟨za, hda, va, rela, dda⟩ := dk_of I.hok ea
  obtain ⟨zb, hdb, vb, relb, ddb⟩ := dk_of I.hok eb
  have hsz : va.length + vb.length ≤ sizeLine := by
    rw [← rela.length, ← relb.length, sizeLine_eq]
    omega
  have hl : (mergeK kvs more).length ≤ sizeLine := by
    have := length_mergeK more kvs
    rw [sizeLine_eq]
    omega
  refine call_meetsIn PySem.F.slot_dict_update dda.typeIs PySem.F.entry_dict_update (PySem.F.args_dict_update_2 _ _) (meets_dict_update (mixKind X.prog X.w) a b ne hdb) ⟨va, vb, dda, ddb, hsz, fun h' hd' ho' hs' => ?_⟩
  have he : ∃ q, h'.get? a = some q := let ⟨q, _, _, hq, _⟩ := hd'
    ⟨q, hq⟩
  exact ⟨.non, _, d_write (t' := s.toks) I (by rw [ea]; exact True.intro) hs' he (dk_new hl hda (relb.merge rela) hd'), rfl, q⟩
end
end AgR
end
section
set_option maxHeartbeats 4000000
/-! AgT: the text by places, each def's datum, the facts that the walk asks of the top, the hook that reads them. Printed by gen_text.py. -/
namespace AgT
open PySem PySem.Spec PyProof.Rows L2 AgR
/-! ### addresses by names -/
def pgt (K : PySem.W.Frag) (C : Addr) (f : Str) : Addr := match PySem.W.recIn K (He.ma K C f) "property" with
  | some (.ref g :: _) => g
  | _ => 0
def pst (K : PySem.W.Frag) (C : Addr) (f : Str) : Addr := match PySem.W.recIn K (He.ma K C f) "property" with
  | some (_ :: .ref g :: _) => g
  | _ => 0
def stt (K : PySem.W.Frag) (C : Addr) (f : Str) : Addr := He5.wf K C "staticmethod" f
/-! ### facts -/
inductive Fx where
  | he (f : He.Fa)
  | tup (x : Str) (vs : List He.Dv)
  | isi (x : Str)
  | kit (t : String) (x : Str) (b : Bool)
  | own (x m : Str)
  | prop (x f : Str)
  | pset (x f : Str)
  | stm (x m : Str)
def isiB (K : PySem.W.Frag) (C : Addr) : Bool :=
  He.eqO (PySem.W.findIn K (.ref C) "__class__") (some (some (.builtin "object.__class__"))) &&
  (He.eqO (PySem.W.specialIn K (.builtin "object.__class__") "__get__") (some (some (.builtin "getset_descriptor.__get__"))) &&
  (decide (PySem.W.takesIn K (.builtin "object.__class__") = some true) && (decide (PySem.W.mroIn K C (.type "object") = some true) && decide (PySem.W.kitOne K (.ref C) (.ref C) = some true))))
def ownB (K : PySem.W.Frag) (C : Addr) (m : Str) : Bool :=
  He.eqO (PySem.W.findIn K (.ref C) m) (some (some (.ref (He.ma K C m)))) && (PySem.W.isFn K (.ref (He.ma K C m)) && PySem.W.fnIn K (He.ma K C m))
def propB (K : PySem.W.Frag) (C : Addr) (f : Str) : Bool :=
  He.eqO (PySem.W.findIn K (.ref C) f) (some (some (.ref (He.ma K C f)))) && (He.eqO (PySem.W.specialIn K (.ref (He.ma K C f)) "__get__") (some (some (.builtin "property.__get__"))) &&
  (decide (PySem.W.takesIn K (.ref (He.ma K C f)) = some true) && (match PySem.W.recIn K (He.ma K C f) "property" with
    | some (.ref _ :: _) => true
    | _ => false)))
def psetB (K : PySem.W.Frag) (C : Addr) (f : Str) : Bool :=
  decide (PySem.W.takerIn K C f = some (some (.ref (He.ma K C f)))) && (decide (PySem.W.typeIn K (.ref (He.ma K C f)) = some (.type "property")) && (match PySem.W.recIn K (He.ma K C f) "property" with
    | some (_ :: .ref _ :: _) => true
    | _ => false))
def stmB (K : PySem.W.Frag) (C : Addr) (m : Str) : Bool :=
  decide (PySem.W.typeIn K (.ref C) = some (.type "type")) && (PySem.W.readsIn K C (.type "type") && (He.eqO (PySem.W.specialIn K (.ref C) "__getattribute__") (some (some (.builtin "type.__getattribute__"))) &&
  (He5.wrapB K C "staticmethod" "staticmethod.__get__" m && PySem.W.keepIn K (.ref (stt K C m)))))
def Fx.ok (K : PySem.W.Frag) : Fx → Bool
  | .he f => f.ok K
  | .tup x vs => He.tupB K x vs
  | .isi x => isiB K (He.ga K x)
  | .kit t x b => decide (PySem.W.kitOne K (.type t) (.ref (He.ga K x)) = some b)
  | .own x m => ownB K (He.ga K x) m
  | .prop x f => propB K (He.ga K x) f
  | .pset x f => psetB K (He.ga K x) f
  | .stm x m => stmB K (He.ga K x) m
def top (i : Nat) : Stmt := PySem.Challenge.pw_agedfiles_k53_whole_safe_books_spare_wha.main.body.getD i (.Pass ⟨0, 0, 0, 0⟩)
abbrev s_is_whole : Stmt := top 14
abbrev s_is_between : Stmt := top 15
abbrev s_is_count : Stmt := top 16
abbrev s_is_listed : Stmt := top 17
abbrev s_is_part_of : Stmt := top 18
abbrev s_is_time : Stmt := top 23
abbrev s_is_deed : Stmt := top 24
abbrev s_makes : Stmt := top 25
abbrev s_is_looks : Stmt := top 26
abbrev s_all_looks : Stmt := top 27
abbrev s_backs : Stmt := top 28
abbrev s_seconds_of : Stmt := top 33
abbrev s_Rule_init : Stmt := inClass (top 37) 0
abbrev s_Rule_always : Stmt := inClass (top 37) 1
abbrev s_Rule_never : Stmt := inClass (top 37) 2
abbrev s_Rule_seldom : Stmt := inClass (top 37) 3
abbrev s_Rule_word_g : Stmt := inClass (top 37) 4
abbrev s_Rule_after_g : Stmt := inClass (top 37) 5
abbrev s_Rule_sets : Stmt := inClass (top 37) 6
abbrev s_check_rule : Stmt := top 38
abbrev s_is_pair : Stmt := top 40
abbrev s_joined : Stmt := top 41
abbrev s_Stretches_init : Stmt := inClass (top 46) 0
abbrev s_Stretches_greatest : Stmt := inClass (top 46) 15
abbrev s_Stretches_none : Stmt := inClass (top 46) 19
abbrev s_is_arrow : Stmt := top 51
abbrev s_reached_from : Stmt := top 52
abbrev s_Way_init : Stmt := inClass (top 53) 0
abbrev s_Way_arrows : Stmt := inClass (top 53) 2
abbrev s_Way_getitem : Stmt := inClass (top 53) 3
abbrev s_Way_len : Stmt := inClass (top 53) 5
abbrev s_Way_arrow : Stmt := inClass (top 53) 6
abbrev s_Way_into : Stmt := inClass (top 53) 7
abbrev s_check_way : Stmt := top 54
abbrev s_smeared : Stmt := top 56
abbrev s_passed : Stmt := top 57
abbrev s_next_bits : Stmt := top 58
abbrev s_bits_of : Stmt := top 59
abbrev s_stretches_of : Stmt := top 60
abbrev s_all_ages : Stmt := top 61
abbrev s_surely_set : Stmt := top 63
abbrev s_is_more : Stmt := top 64
abbrev s_Ages_init : Stmt := inClass (top 65) 0
abbrev s_Ages_is_told : Stmt := inClass (top 65) 1
abbrev s_Ages_rest_of : Stmt := inClass (top 65) 2
abbrev s_Ages_nearest : Stmt := inClass (top 65) 3
abbrev s_Ages_arriving : Stmt := inClass (top 65) 4
abbrev s_Ages_settled : Stmt := inClass (top 65) 5
abbrev s_Ages_table : Stmt := inClass (top 65) 6
abbrev s_Ages_walked : Stmt := inClass (top 65) 7
abbrev s_File_init : Stmt := inClass (top 68) 0
abbrev s_File_do : Stmt := inClass (top 68) 4
abbrev s_File_held_g : Stmt := inClass (top 68) 7
abbrev s_File_held_s : Stmt := inClass (top 68) 8
abbrev s_is_value : Stmt := top 73
abbrev s_check_parts : Stmt := top 74
abbrev s_Book_init : Stmt := inClass (top 76) 0
abbrev s_Book_change : Stmt := inClass (top 76) 1
abbrev s_Book_bound_g : Stmt := inClass (top 76) 2
abbrev s_Book_looks_g : Stmt := inClass (top 76) 4
abbrev s_Book_how_g : Stmt := inClass (top 76) 6
abbrev s_Book_day_g : Stmt := inClass (top 76) 8
abbrev s_Book_grain_g : Stmt := inClass (top 76) 10
abbrev s_Book_spares_g : Stmt := inClass (top 76) 12
abbrev s_Book_late_g : Stmt := inClass (top 76) 14
abbrev s_Book_again_g : Stmt := inClass (top 76) 16
abbrev s_Book_threshold : Stmt := inClass (top 76) 26
abbrev s_Book_deletes : Stmt := inClass (top 76) 27
abbrev s_Book_call : Stmt := inClass (top 76) 28
abbrev s_check_book : Stmt := top 77
abbrev s_seconds_old : Stmt := top 78
abbrev s_is_step : Stmt := top 80
abbrev s_leads : Stmt := top 81
abbrev s_is_row : Stmt := top 82
abbrev s_place_of : Stmt := top 83
abbrev s_is_within : Stmt := top 84
abbrev s_played : Stmt := top 85
abbrev s_file_at : Stmt := top 86
abbrev s_check_all : Stmt := top 88
abbrev s_deletes_at : Stmt := top 89
abbrev s_shows_fault : Stmt := top 90
abbrev s_is_fault : Stmt := top 91
abbrev s_counts : Stmt := top 93
abbrev s_seen_most : Stmt := top 94
abbrev s_greatest_seen : Stmt := top 95
abbrev s_is_safe : Stmt := top 96
abbrev s_least_bound : Stmt := top 97
abbrev s_law_source : Stmt := top 99
abbrev s_law_draw : Stmt := top 100
abbrev s_law_pick : Stmt := top 101
abbrev s_law_rule : Stmt := top 102
abbrev s_law_rule_row : Stmt := top 103
abbrev s_law_maker : Stmt := top 104
abbrev s_law_user : Stmt := top 105
abbrev s_law_arrow : Stmt := top 106
abbrev s_law_plan : Stmt := top 107
abbrev s_law_row : Stmt := top 108
abbrev s_law_looks : Stmt := top 109
abbrev s_law_parts : Stmt := top 110
abbrev s_law_book : Stmt := top 111
abbrev s_law_in_use : Stmt := top 112
abbrev s_law_looks_right : Stmt := top 113
abbrev s_law : Stmt := top 114
def d_is_whole : He5.DefA := ⟨fun K => He.ga K "is_whole", "is_whole", "is_whole", defArgs s_is_whole, defBody s_is_whole, defScope s_is_whole, [], []⟩
def d_is_between : He5.DefA := ⟨fun K => He.ga K "is_between", "is_between", "is_between", defArgs s_is_between, defBody s_is_between, defScope s_is_between, [], []⟩
def d_is_count : He5.DefA := ⟨fun K => He.ga K "is_count", "is_count", "is_count", defArgs s_is_count, defBody s_is_count, defScope s_is_count, [], []⟩
def d_is_listed : He5.DefA := ⟨fun K => He.ga K "is_listed", "is_listed", "is_listed", defArgs s_is_listed, defBody s_is_listed, defScope s_is_listed, [], []⟩
def d_is_part_of : He5.DefA := ⟨fun K => He.ga K "is_part_of", "is_part_of", "is_part_of", defArgs s_is_part_of, defBody s_is_part_of, defScope s_is_part_of, [], []⟩
def d_is_time : He5.DefA := ⟨fun K => He.ga K "is_time", "is_time", "is_time", defArgs s_is_time, defBody s_is_time, defScope s_is_time, [], []⟩
def d_is_deed : He5.DefA := ⟨fun K => He.ga K "is_deed", "is_deed", "is_deed", defArgs s_is_deed, defBody s_is_deed, defScope s_is_deed, [], []⟩
def d_makes : He5.DefA := ⟨fun K => He.ga K "makes", "makes", "makes", defArgs s_makes, defBody s_makes, defScope s_makes, [], []⟩
def d_is_looks : He5.DefA := ⟨fun K => He.ga K "is_looks", "is_looks", "is_looks", defArgs s_is_looks, defBody s_is_looks, defScope s_is_looks, [], []⟩
def d_all_looks : He5.DefA := ⟨fun K => He.ga K "all_looks", "all_looks", "all_looks", defArgs s_all_looks, defBody s_all_looks, defScope s_all_looks, [], []⟩
def d_backs : He5.DefA := ⟨fun K => He.ga K "backs", "backs", "backs", defArgs s_backs, defBody s_backs, defScope s_backs, [], []⟩
def d_seconds_of : He5.DefA := ⟨fun K => He.ga K "seconds_of", "seconds_of", "seconds_of", defArgs s_seconds_of, defBody s_seconds_of, defScope s_seconds_of, [], []⟩
def d_Rule_init : He5.DefA := ⟨fun K => He.ma K (He.ga K "Rule") "__init__", "__init__", "Rule.__init__", defArgs s_Rule_init, defBody s_Rule_init, defScope s_Rule_init, [], []⟩
def d_Rule_always : He5.DefA := ⟨fun K => stt K (He.ga K "Rule") "always", "always", "Rule.always", defArgs s_Rule_always, defBody s_Rule_always, defScope s_Rule_always, [], []⟩
def d_Rule_never : He5.DefA := ⟨fun K => stt K (He.ga K "Rule") "never", "never", "Rule.never", defArgs s_Rule_never, defBody s_Rule_never, defScope s_Rule_never, [], []⟩
def d_Rule_seldom : He5.DefA := ⟨fun K => stt K (He.ga K "Rule") "seldom", "seldom", "Rule.seldom", defArgs s_Rule_seldom, defBody s_Rule_seldom, defScope s_Rule_seldom, [], []⟩
def d_Rule_word_g : He5.DefA := ⟨fun K => pgt K (He.ga K "Rule") "word", "word", "Rule.word", defArgs s_Rule_word_g, defBody s_Rule_word_g, defScope s_Rule_word_g, [], []⟩
def d_Rule_after_g : He5.DefA := ⟨fun K => pgt K (He.ga K "Rule") "after", "after", "Rule.after", defArgs s_Rule_after_g, defBody s_Rule_after_g, defScope s_Rule_after_g, [], []⟩
def d_Rule_sets : He5.DefA := ⟨fun K => He.ma K (He.ga K "Rule") "sets", "sets", "Rule.sets", defArgs s_Rule_sets, defBody s_Rule_sets, defScope s_Rule_sets, [], []⟩
def d_check_rule : He5.DefA := ⟨fun K => He.ga K "check_rule", "check_rule", "check_rule", defArgs s_check_rule, defBody s_check_rule, defScope s_check_rule, [], []⟩
def d_is_pair : He5.DefA := ⟨fun K => He.ga K "is_pair", "is_pair", "is_pair", defArgs s_is_pair, defBody s_is_pair, defScope s_is_pair, [], []⟩
def d_joined : He5.DefA := ⟨fun K => He.ga K "joined", "joined", "joined", defArgs s_joined, defBody s_joined, defScope s_joined, [], []⟩
def d_Stretches_init : He5.DefA := ⟨fun K => He.ma K (He.ga K "Stretches") "__init__", "__init__", "Stretches.__init__", defArgs s_Stretches_init, defBody s_Stretches_init, defScope s_Stretches_init, [], []⟩
def d_Stretches_greatest : He5.DefA := ⟨fun K => He.ma K (He.ga K "Stretches") "greatest", "greatest", "Stretches.greatest", defArgs s_Stretches_greatest, defBody s_Stretches_greatest, defScope s_Stretches_greatest, [], []⟩
def d_Stretches_none : He5.DefA := ⟨fun K => stt K (He.ga K "Stretches") "none", "none", "Stretches.none", defArgs s_Stretches_none, defBody s_Stretches_none, defScope s_Stretches_none, [], []⟩
def d_is_arrow : He5.DefA := ⟨fun K => He.ga K "is_arrow", "is_arrow", "is_arrow", defArgs s_is_arrow, defBody s_is_arrow, defScope s_is_arrow, [], []⟩
def d_reached_from : He5.DefA := ⟨fun K => He.ga K "reached_from", "reached_from", "reached_from", defArgs s_reached_from, defBody s_reached_from, defScope s_reached_from, [], []⟩
def d_Way_init : He5.DefA := ⟨fun K => He.ma K (He.ga K "Way") "__init__", "__init__", "Way.__init__", defArgs s_Way_init, defBody s_Way_init, defScope s_Way_init, [], []⟩
def d_Way_arrows : He5.DefA := ⟨fun K => He.ma K (He.ga K "Way") "arrows", "arrows", "Way.arrows", defArgs s_Way_arrows, defBody s_Way_arrows, defScope s_Way_arrows, [], []⟩
def d_Way_getitem : He5.DefA := ⟨fun K => He.ma K (He.ga K "Way") "__getitem__", "__getitem__", "Way.__getitem__", defArgs s_Way_getitem, defBody s_Way_getitem, defScope s_Way_getitem, [], []⟩
def d_Way_len : He5.DefA := ⟨fun K => He.ma K (He.ga K "Way") "__len__", "__len__", "Way.__len__", defArgs s_Way_len, defBody s_Way_len, defScope s_Way_len, [], []⟩
def d_Way_arrow : He5.DefA := ⟨fun K => He.ma K (He.ga K "Way") "arrow", "arrow", "Way.arrow", defArgs s_Way_arrow, defBody s_Way_arrow, defScope s_Way_arrow, [], []⟩
def d_Way_into : He5.DefA := ⟨fun K => He.ma K (He.ga K "Way") "into", "into", "Way.into", defArgs s_Way_into, defBody s_Way_into, defScope s_Way_into, [], []⟩
def d_check_way : He5.DefA := ⟨fun K => He.ga K "check_way", "check_way", "check_way", defArgs s_check_way, defBody s_check_way, defScope s_check_way, [], []⟩
def d_smeared : He5.DefA := ⟨fun K => He.ga K "smeared", "smeared", "smeared", defArgs s_smeared, defBody s_smeared, defScope s_smeared, [], []⟩
def d_passed : He5.DefA := ⟨fun K => He.ga K "passed", "passed", "passed", defArgs s_passed, defBody s_passed, defScope s_passed, [], []⟩
def d_next_bits : He5.DefA := ⟨fun K => He.ga K "next_bits", "next_bits", "next_bits", defArgs s_next_bits, defBody s_next_bits, defScope s_next_bits, [], []⟩
def d_bits_of : He5.DefA := ⟨fun K => He.ga K "bits_of", "bits_of", "bits_of", defArgs s_bits_of, defBody s_bits_of, defScope s_bits_of, [], []⟩
def d_stretches_of : He5.DefA := ⟨fun K => He.ga K "stretches_of", "stretches_of", "stretches_of", defArgs s_stretches_of, defBody s_stretches_of, defScope s_stretches_of, [], []⟩
def d_all_ages : He5.DefA := ⟨fun K => He.ga K "all_ages", "all_ages", "all_ages", defArgs s_all_ages, defBody s_all_ages, defScope s_all_ages, [], []⟩
def d_surely_set : He5.DefA := ⟨fun K => He.ga K "surely_set", "surely_set", "surely_set", defArgs s_surely_set, defBody s_surely_set, defScope s_surely_set, [], []⟩
def d_is_more : He5.DefA := ⟨fun K => He.ga K "is_more", "is_more", "is_more", defArgs s_is_more, defBody s_is_more, defScope s_is_more, [], []⟩
def d_Ages_init : He5.DefA := ⟨fun K => He.ma K (He.ga K "Ages") "__init__", "__init__", "Ages.__init__", defArgs s_Ages_init, defBody s_Ages_init, defScope s_Ages_init, [], []⟩
def d_Ages_is_told : He5.DefA := ⟨fun K => He.ma K (He.ga K "Ages") "is_told", "is_told", "Ages.is_told", defArgs s_Ages_is_told, defBody s_Ages_is_told, defScope s_Ages_is_told, [], []⟩
def d_Ages_rest_of : He5.DefA := ⟨fun K => He.ma K (He.ga K "Ages") "rest_of", "rest_of", "Ages.rest_of", defArgs s_Ages_rest_of, defBody s_Ages_rest_of, defScope s_Ages_rest_of, [], []⟩
def d_Ages_nearest : He5.DefA := ⟨fun K => He.ma K (He.ga K "Ages") "nearest", "nearest", "Ages.nearest", defArgs s_Ages_nearest, defBody s_Ages_nearest, defScope s_Ages_nearest, [], []⟩
def d_Ages_arriving : He5.DefA := ⟨fun K => He.ma K (He.ga K "Ages") "arriving", "arriving", "Ages.arriving", defArgs s_Ages_arriving, defBody s_Ages_arriving, defScope s_Ages_arriving, [], []⟩
def d_Ages_settled : He5.DefA := ⟨fun K => He.ma K (He.ga K "Ages") "settled", "settled", "Ages.settled", defArgs s_Ages_settled, defBody s_Ages_settled, defScope s_Ages_settled, [], []⟩
def d_Ages_table : He5.DefA := ⟨fun K => He.ma K (He.ga K "Ages") "table", "table", "Ages.table", defArgs s_Ages_table, defBody s_Ages_table, defScope s_Ages_table, [], []⟩
def d_Ages_walked : He5.DefA := ⟨fun K => He.ma K (He.ga K "Ages") "walked", "walked", "Ages.walked", defArgs s_Ages_walked, defBody s_Ages_walked, defScope s_Ages_walked, [], []⟩
def d_File_init : He5.DefA := ⟨fun K => He.ma K (He.ga K "File") "__init__", "__init__", "File.__init__", defArgs s_File_init, defBody s_File_init, defScope s_File_init, [], []⟩
def d_File_do : He5.DefA := ⟨fun K => He.ma K (He.ga K "File") "do", "do", "File.do", defArgs s_File_do, defBody s_File_do, defScope s_File_do, [], []⟩
def d_File_held_g : He5.DefA := ⟨fun K => pgt K (He.ga K "File") "held", "held", "File.held", defArgs s_File_held_g, defBody s_File_held_g, defScope s_File_held_g, [], []⟩
def d_File_held_s : He5.DefA := ⟨fun K => pst K (He.ga K "File") "held", "held", "File.held", defArgs s_File_held_s, defBody s_File_held_s, defScope s_File_held_s, [], []⟩
def d_is_value : He5.DefA := ⟨fun K => He.ga K "is_value", "is_value", "is_value", defArgs s_is_value, defBody s_is_value, defScope s_is_value, [], []⟩
def d_check_parts : He5.DefA := ⟨fun K => He.ga K "check_parts", "check_parts", "check_parts", defArgs s_check_parts, defBody s_check_parts, defScope s_check_parts, [], []⟩
def d_Book_init : He5.DefA := ⟨fun K => He.ma K (He.ga K "Book") "__init__", "__init__", "Book.__init__", defArgs s_Book_init, defBody s_Book_init, defScope s_Book_init, [], [("looks", .glo "MARKS"), ("how", .str "above"), ("day", .int 1), ("grain", .int 1), ("spares", .bl false), ("late", .int 0), ("again", .bl true), ("period", .int 1)]⟩
def d_Book_change : He5.DefA := ⟨fun K => He.ma K (He.ga K "Book") "change", "change", "Book.change", defArgs s_Book_change, defBody s_Book_change, defScope s_Book_change, [], []⟩
def d_Book_bound_g : He5.DefA := ⟨fun K => pgt K (He.ga K "Book") "bound", "bound", "Book.bound", defArgs s_Book_bound_g, defBody s_Book_bound_g, defScope s_Book_bound_g, [], []⟩
def d_Book_looks_g : He5.DefA := ⟨fun K => pgt K (He.ga K "Book") "looks", "looks", "Book.looks", defArgs s_Book_looks_g, defBody s_Book_looks_g, defScope s_Book_looks_g, [], []⟩
def d_Book_how_g : He5.DefA := ⟨fun K => pgt K (He.ga K "Book") "how", "how", "Book.how", defArgs s_Book_how_g, defBody s_Book_how_g, defScope s_Book_how_g, [], []⟩
def d_Book_day_g : He5.DefA := ⟨fun K => pgt K (He.ga K "Book") "day", "day", "Book.day", defArgs s_Book_day_g, defBody s_Book_day_g, defScope s_Book_day_g, [], []⟩
def d_Book_grain_g : He5.DefA := ⟨fun K => pgt K (He.ga K "Book") "grain", "grain", "Book.grain", defArgs s_Book_grain_g, defBody s_Book_grain_g, defScope s_Book_grain_g, [], []⟩
def d_Book_spares_g : He5.DefA := ⟨fun K => pgt K (He.ga K "Book") "spares", "spares", "Book.spares", defArgs s_Book_spares_g, defBody s_Book_spares_g, defScope s_Book_spares_g, [], []⟩
def d_Book_late_g : He5.DefA := ⟨fun K => pgt K (He.ga K "Book") "late", "late", "Book.late", defArgs s_Book_late_g, defBody s_Book_late_g, defScope s_Book_late_g, [], []⟩
def d_Book_again_g : He5.DefA := ⟨fun K => pgt K (He.ga K "Book") "again", "again", "Book.again", defArgs s_Book_again_g, defBody s_Book_again_g, defScope s_Book_again_g, [], []⟩
def d_Book_threshold : He5.DefA := ⟨fun K => He.ma K (He.ga K "Book") "threshold", "threshold", "Book.threshold", defArgs s_Book_threshold, defBody s_Book_threshold, defScope s_Book_threshold, [], []⟩
def d_Book_deletes : He5.DefA := ⟨fun K => He.ma K (He.ga K "Book") "deletes", "deletes", "Book.deletes", defArgs s_Book_deletes, defBody s_Book_deletes, defScope s_Book_deletes, [], []⟩
def d_Book_call : He5.DefA := ⟨fun K => He.ma K (He.ga K "Book") "__call__", "__call__", "Book.__call__", defArgs s_Book_call, defBody s_Book_call, defScope s_Book_call, [], []⟩
def d_check_book : He5.DefA := ⟨fun K => He.ga K "check_book", "check_book", "check_book", defArgs s_check_book, defBody s_check_book, defScope s_check_book, [], []⟩
def d_seconds_old : He5.DefA := ⟨fun K => He.ga K "seconds_old", "seconds_old", "seconds_old", defArgs s_seconds_old, defBody s_seconds_old, defScope s_seconds_old, [], []⟩
def d_is_step : He5.DefA := ⟨fun K => He.ga K "is_step", "is_step", "is_step", defArgs s_is_step, defBody s_is_step, defScope s_is_step, [], []⟩
def d_leads : He5.DefA := ⟨fun K => He.ga K "leads", "leads", "leads", defArgs s_leads, defBody s_leads, defScope s_leads, [], []⟩
def d_is_row : He5.DefA := ⟨fun K => He.ga K "is_row", "is_row", "is_row", defArgs s_is_row, defBody s_is_row, defScope s_is_row, [], []⟩
def d_place_of : He5.DefA := ⟨fun K => He.ga K "place_of", "place_of", "place_of", defArgs s_place_of, defBody s_place_of, defScope s_place_of, [], []⟩
def d_is_within : He5.DefA := ⟨fun K => He.ga K "is_within", "is_within", "is_within", defArgs s_is_within, defBody s_is_within, defScope s_is_within, [], []⟩
def d_played : He5.DefA := ⟨fun K => He.ga K "played", "played", "played", defArgs s_played, defBody s_played, defScope s_played, [], []⟩
def d_file_at : He5.DefA := ⟨fun K => He.ga K "file_at", "file_at", "file_at", defArgs s_file_at, defBody s_file_at, defScope s_file_at, [], []⟩
def d_check_all : He5.DefA := ⟨fun K => He.ga K "check_all", "check_all", "check_all", defArgs s_check_all, defBody s_check_all, defScope s_check_all, [], []⟩
def d_deletes_at : He5.DefA := ⟨fun K => He.ga K "deletes_at", "deletes_at", "deletes_at", defArgs s_deletes_at, defBody s_deletes_at, defScope s_deletes_at, [], []⟩
def d_shows_fault : He5.DefA := ⟨fun K => He.ga K "shows_fault", "shows_fault", "shows_fault", defArgs s_shows_fault, defBody s_shows_fault, defScope s_shows_fault, [], []⟩
def d_is_fault : He5.DefA := ⟨fun K => He.ga K "is_fault", "is_fault", "is_fault", defArgs s_is_fault, defBody s_is_fault, defScope s_is_fault, [], []⟩
def d_counts : He5.DefA := ⟨fun K => He.ga K "counts", "counts", "counts", defArgs s_counts, defBody s_counts, defScope s_counts, [], []⟩
def d_seen_most : He5.DefA := ⟨fun K => He.ga K "seen_most", "seen_most", "seen_most", defArgs s_seen_most, defBody s_seen_most, defScope s_seen_most, [], []⟩
def d_greatest_seen : He5.DefA := ⟨fun K => He.ga K "greatest_seen", "greatest_seen", "greatest_seen", defArgs s_greatest_seen, defBody s_greatest_seen, defScope s_greatest_seen, [], []⟩
def d_is_safe : He5.DefA := ⟨fun K => He.ga K "is_safe", "is_safe", "is_safe", defArgs s_is_safe, defBody s_is_safe, defScope s_is_safe, [], []⟩
def d_least_bound : He5.DefA := ⟨fun K => He.ga K "least_bound", "least_bound", "least_bound", defArgs s_least_bound, defBody s_least_bound, defScope s_least_bound, [], []⟩
def d_law_source : He5.DefA := ⟨fun K => He.ga K "_law_source", "_law_source", "_law_source", defArgs s_law_source, defBody s_law_source, defScope s_law_source, [], []⟩
def d_law_draw : He5.DefA := ⟨fun K => He.ga K "_law_draw", "_law_draw", "_law_draw", defArgs s_law_draw, defBody s_law_draw, defScope s_law_draw, [], []⟩
def d_law_pick : He5.DefA := ⟨fun K => He.ga K "_law_pick", "_law_pick", "_law_pick", defArgs s_law_pick, defBody s_law_pick, defScope s_law_pick, [], []⟩
def d_law_rule : He5.DefA := ⟨fun K => He.ga K "_law_rule", "_law_rule", "_law_rule", defArgs s_law_rule, defBody s_law_rule, defScope s_law_rule, [], []⟩
def d_law_rule_row : He5.DefA := ⟨fun K => He.ga K "_law_rule_row", "_law_rule_row", "_law_rule_row", defArgs s_law_rule_row, defBody s_law_rule_row, defScope s_law_rule_row, [], []⟩
def d_law_maker : He5.DefA := ⟨fun K => He.ga K "_law_maker", "_law_maker", "_law_maker", defArgs s_law_maker, defBody s_law_maker, defScope s_law_maker, [], []⟩
def d_law_user : He5.DefA := ⟨fun K => He.ga K "_law_user", "_law_user", "_law_user", defArgs s_law_user, defBody s_law_user, defScope s_law_user, [], []⟩
def d_law_arrow : He5.DefA := ⟨fun K => He.ga K "_law_arrow", "_law_arrow", "_law_arrow", defArgs s_law_arrow, defBody s_law_arrow, defScope s_law_arrow, [], []⟩
def d_law_plan : He5.DefA := ⟨fun K => He.ga K "_law_plan", "_law_plan", "_law_plan", defArgs s_law_plan, defBody s_law_plan, defScope s_law_plan, [], []⟩
def d_law_row : He5.DefA := ⟨fun K => He.ga K "_law_row", "_law_row", "_law_row", defArgs s_law_row, defBody s_law_row, defScope s_law_row, [], []⟩
def d_law_looks : He5.DefA := ⟨fun K => He.ga K "_law_looks", "_law_looks", "_law_looks", defArgs s_law_looks, defBody s_law_looks, defScope s_law_looks, [], []⟩
def d_law_parts : He5.DefA := ⟨fun K => He.ga K "_law_parts", "_law_parts", "_law_parts", defArgs s_law_parts, defBody s_law_parts, defScope s_law_parts, [], []⟩
def d_law_book : He5.DefA := ⟨fun K => He.ga K "_law_book", "_law_book", "_law_book", defArgs s_law_book, defBody s_law_book, defScope s_law_book, [], []⟩
def d_law_in_use : He5.DefA := ⟨fun K => He.ga K "_law_in_use", "_law_in_use", "_law_in_use", defArgs s_law_in_use, defBody s_law_in_use, defScope s_law_in_use, [], []⟩
def d_law_looks_right : He5.DefA := ⟨fun K => He.ga K "_law_looks_right", "_law_looks_right", "_law_looks_right", defArgs s_law_looks_right, defBody s_law_looks_right, defScope s_law_looks_right, [], []⟩
def d_law : He5.DefA := ⟨fun K => He.ga K "law", "law", "law", defArgs s_law, defBody s_law, defScope s_law, [], []⟩
def fn : List He5.DefA := [d_is_whole, d_is_between, d_is_count, d_is_listed, d_is_part_of, d_is_time, d_is_deed, d_makes, d_is_looks, d_all_looks, d_backs, d_seconds_of, d_Rule_init, d_Rule_always, d_Rule_never, d_Rule_seldom, d_Rule_word_g, d_Rule_after_g, d_Rule_sets, d_check_rule, d_is_pair, d_joined, d_Stretches_init, d_Stretches_greatest, d_Stretches_none, d_is_arrow, d_reached_from, d_Way_init, d_Way_arrows, d_Way_getitem, d_Way_len, d_Way_arrow, d_Way_into, d_check_way, d_smeared, d_passed, d_next_bits, d_bits_of, d_stretches_of, d_all_ages, d_surely_set, d_is_more, d_Ages_init, d_Ages_is_told, d_Ages_rest_of, d_Ages_nearest, d_Ages_arriving, d_Ages_settled, d_Ages_table, d_Ages_walked, d_File_init, d_File_do, d_File_held_g, d_File_held_s, d_is_value, d_check_parts, d_Book_init, d_Book_change, d_Book_bound_g, d_Book_looks_g, d_Book_how_g, d_Book_day_g, d_Book_grain_g, d_Book_spares_g, d_Book_late_g, d_Book_again_g, d_Book_threshold, d_Book_deletes, d_Book_call, d_check_book, d_seconds_old, d_is_step, d_leads, d_is_row, d_place_of, d_is_within, d_played, d_file_at, d_check_all, d_deletes_at, d_shows_fault, d_is_fault, d_counts, d_seen_most, d_greatest_seen, d_is_safe, d_least_bound, d_law_source, d_law_draw, d_law_pick, d_law_rule, d_law_rule_row, d_law_maker, d_law_user, d_law_arrow, d_law_plan, d_law_row, d_law_looks, d_law_parts, d_law_book, d_law_in_use, d_law_looks_right, d_law]
def fx : List Fx := [.he (.glo "is_whole"),
  .he (.glo "is_between"),
  .he (.glo "is_count"),
  .he (.glo "is_listed"),
  .he (.glo "is_part_of"),
  .he (.glo "is_time"),
  .he (.glo "is_deed"),
  .he (.glo "makes"),
  .he (.glo "is_looks"),
  .he (.glo "all_looks"),
  .he (.glo "backs"),
  .he (.glo "seconds_of"),
  .he (.glo "check_rule"),
  .he (.glo "is_pair"),
  .he (.glo "joined"),
  .he (.glo "is_arrow"),
  .he (.glo "reached_from"),
  .he (.glo "check_way"),
  .he (.glo "smeared"),
  .he (.glo "passed"),
  .he (.glo "next_bits"),
  .he (.glo "bits_of"),
  .he (.glo "stretches_of"),
  .he (.glo "all_ages"),
  .he (.glo "surely_set"),
  .he (.glo "is_more"),
  .he (.glo "is_value"),
  .he (.glo "check_parts"),
  .he (.glo "check_book"),
  .he (.glo "seconds_old"),
  .he (.glo "is_step"),
  .he (.glo "leads"),
  .he (.glo "is_row"),
  .he (.glo "place_of"),
  .he (.glo "is_within"),
  .he (.glo "played"),
  .he (.glo "file_at"),
  .he (.glo "check_all"),
  .he (.glo "deletes_at"),
  .he (.glo "shows_fault"),
  .he (.glo "is_fault"),
  .he (.glo "counts"),
  .he (.glo "seen_most"),
  .he (.glo "greatest_seen"),
  .he (.glo "is_safe"),
  .he (.glo "least_bound"),
  .he (.glo "_law_source"),
  .he (.glo "_law_draw"),
  .he (.glo "_law_pick"),
  .he (.glo "_law_rule"),
  .he (.glo "_law_rule_row"),
  .he (.glo "_law_maker"),
  .he (.glo "_law_user"),
  .he (.glo "_law_arrow"),
  .he (.glo "_law_plan"),
  .he (.glo "_law_row"),
  .he (.glo "_law_looks"),
  .he (.glo "_law_parts"),
  .he (.glo "_law_book"),
  .he (.glo "_law_in_use"),
  .he (.glo "_law_looks_right"),
  .he (.glo "law"),
  .he (.glo "Rule"),
  .he (.glo "Stretches"),
  .he (.glo "Way"),
  .he (.glo "Ages"),
  .he (.glo "File"),
  .he (.glo "Book"),
  .he (.glo "Moment"),
  .he (.free "len"),
  .he (.free "isinstance"),
  .he (.free "range"),
  .he (.free "enumerate"),
  .he (.free "int"),
  .he (.free "max"),
  .he (.free "min"),
  .he (.free "any"),
  .he (.free "all"),
  .he (.free "tuple"),
  .he (.free "list"),
  .he (.free "sorted"),
  .he (.free "abs"),
  .he (.free "bool"),
  .he (.free "str"),
  .he (.int "LONGEST" 1000000000),
  .he (.int "FARTHEST" 1000000000000000000000000000000),
  .he (.int "LARGEST_GRAIN" 1000000),
  .he (.int "LATEST_AFTER" 2000),
  .he (.int "MOST_NODES" 12),
  .he (.int "MOST_ARROWS" 40),
  .he (.int "LARGEST_BOUND" 1000000000000),
  .he (.int "LATEST" 1000000000),
  .he (.glo "MARKS"),
  .tup "MARKS" [.str "read", .str "written", .str "changed"],
  .he (.glo "PLAIN"),
  .tup "PLAIN" [.str "make", .str "read", .str "write", .str "rename", .str "touch"],
  .he (.glo "WORDS"),
  .tup "WORDS" [.str "", .str "held", .str "anew"],
  .he (.glo "PARTS"),
  .tup "PARTS" [.str "bound", .str "looks", .str "how", .str "day", .str "grain", .str "spares", .str "late", .str "again", .str "period"],
  .he (.cls "Rule"),
  .he (.mkr "Rule"),
  .isi "Rule",
  .he (.noat "Rule" "own_word"),
  .he (.noat "Rule" "own_after"),
  .stm "Rule" "always",
  .stm "Rule" "never",
  .stm "Rule" "seldom",
  .prop "Rule" "word",
  .prop "Rule" "after",
  .he (.meth "Rule" "sets"),
  .he (.cls "Stretches"),
  .he (.mkr "Stretches"),
  .isi "Stretches",
  .he (.noat "Stretches" "own_pairs"),
  .he (.meth "Stretches" "greatest"),
  .stm "Stretches" "none",
  .he (.cls "Way"),
  .he (.mkr "Way"),
  .isi "Way",
  .he (.noat "Way" "own_nodes"),
  .he (.noat "Way" "own_arrows"),
  .he (.meth "Way" "arrows"),
  .he (.meth "Way" "__getitem__"),
  .own "Way" "__getitem__",
  .he (.meth "Way" "__len__"),
  .own "Way" "__len__",
  .he (.meth "Way" "arrow"),
  .he (.meth "Way" "into"),
  .he (.cls "Ages"),
  .he (.mkr "Ages"),
  .isi "Ages",
  .he (.noat "Ages" "way"),
  .he (.noat "Ages" "rule"),
  .he (.noat "Ages" "read_ages"),
  .he (.noat "Ages" "kept"),
  .he (.meth "Ages" "is_told"),
  .he (.meth "Ages" "rest_of"),
  .he (.meth "Ages" "nearest"),
  .he (.meth "Ages" "arriving"),
  .he (.meth "Ages" "settled"),
  .he (.meth "Ages" "table"),
  .he (.meth "Ages" "walked"),
  .he (.cls "File"),
  .he (.mkr "File"),
  .isi "File",
  .he (.noat "File" "rule"),
  .he (.noat "File" "own_held"),
  .he (.noat "File" "own_last"),
  .he (.noat "File" "own_table"),
  .he (.meth "File" "do"),
  .prop "File" "held",
  .pset "File" "held",
  .he (.cls "Book"),
  .he (.mkr "Book"),
  .isi "Book",
  .he (.noat "Book" "own_parts"),
  .he (.meth "Book" "change"),
  .prop "Book" "bound",
  .prop "Book" "looks",
  .prop "Book" "how",
  .prop "Book" "day",
  .prop "Book" "grain",
  .prop "Book" "spares",
  .prop "Book" "late",
  .prop "Book" "again",
  .he (.meth "Book" "threshold"),
  .he (.meth "Book" "deletes"),
  .he (.meth "Book" "__call__"),
  .own "Book" "__call__",
  .kit "int" "Moment" false]
/-! ### the names of each def: parameters first -/
abbrev n_is_whole : List Str := ["value"]
abbrev p_is_whole : List Str := ["value"]
abbrev n_is_between : List Str := ["value", "low", "high"]
abbrev p_is_between : List Str := ["value", "low", "high"]
abbrev n_is_count : List Str := ["value"]
abbrev p_is_count : List Str := ["value"]
abbrev n_is_listed : List Str := ["value"]
abbrev p_is_listed : List Str := ["value"]
abbrev n_is_part_of : List Str := ["value", "words"]
abbrev p_is_part_of : List Str := ["value", "words"]
abbrev n_is_time : List Str := ["value"]
abbrev p_is_time : List Str := ["value"]
abbrev n_is_deed : List Str := ["value"]
abbrev p_is_deed : List Str := ["value"]
abbrev n_makes : List Str := ["value"]
abbrev p_makes : List Str := ["value"]
abbrev n_is_looks : List Str := ["value"]
abbrev p_is_looks : List Str := ["value"]
abbrev n_all_looks : List Str := ["found", "mark", "looks"]
abbrev p_all_looks : List Str := []
abbrev n_backs : List Str := ["deed", "word"]
abbrev p_backs : List Str := ["deed"]
abbrev n_seconds_of : List Str := ["value"]
abbrev p_seconds_of : List Str := ["value"]
abbrev n_Rule_init : List Str := ["self", "word", "after"]
abbrev p_Rule_init : List Str := ["self", "word", "after"]
abbrev n_Rule_always : List Str := []
abbrev p_Rule_always : List Str := []
abbrev n_Rule_never : List Str := []
abbrev p_Rule_never : List Str := []
abbrev n_Rule_seldom : List Str := ["after"]
abbrev p_Rule_seldom : List Str := ["after"]
abbrev n_Rule_word_g : List Str := ["self"]
abbrev p_Rule_word_g : List Str := ["self"]
abbrev n_Rule_after_g : List Str := ["self"]
abbrev p_Rule_after_g : List Str := ["self"]
abbrev n_Rule_sets : List Str := ["self", "marks", "at", "read"]
abbrev p_Rule_sets : List Str := ["self", "marks", "at"]
abbrev n_check_rule : List Str := ["value"]
abbrev p_check_rule : List Str := ["value"]
abbrev n_is_pair : List Str := ["value"]
abbrev p_is_pair : List Str := ["value"]
abbrev n_joined : List Str := ["pairs", "ends", "low", "high", "found"]
abbrev p_joined : List Str := ["pairs"]
abbrev n_Stretches_init : List Str := ["self", "pairs", "index", "pair"]
abbrev p_Stretches_init : List Str := ["self", "pairs"]
abbrev n_Stretches_greatest : List Str := ["self"]
abbrev p_Stretches_greatest : List Str := ["self"]
abbrev n_Stretches_none : List Str := []
abbrev p_Stretches_none : List Str := []
abbrev n_is_arrow : List Str := ["value", "nodes", "word"]
abbrev p_is_arrow : List Str := ["value", "nodes"]
abbrev n_reached_from : List Str := ["nodes", "arrows", "found", "turn", "start", "goal", "least", "most", "word", "node"]
abbrev p_reached_from : List Str := ["nodes", "arrows"]
abbrev n_Way_init : List Str := ["self", "nodes", "arrows", "index", "node", "found", "arrow", "is_reached", "other"]
abbrev p_Way_init : List Str := ["self", "nodes", "arrows"]
abbrev n_Way_arrows : List Str := ["self"]
abbrev p_Way_arrows : List Str := ["self"]
abbrev n_Way_getitem : List Str := ["self", "node"]
abbrev p_Way_getitem : List Str := ["self", "node"]
abbrev n_Way_len : List Str := ["self"]
abbrev p_Way_len : List Str := ["self"]
abbrev n_Way_arrow : List Str := ["self", "start", "goal", "arrow"]
abbrev p_Way_arrow : List Str := ["self", "start", "goal"]
abbrev n_Way_into : List Str := ["self", "node", "arrow"]
abbrev p_Way_into : List Str := ["self", "node"]
abbrev n_check_way : List Str := ["value"]
abbrev p_check_way : List Str := ["value"]
abbrev n_smeared : List Str := ["bits", "many", "done", "step"]
abbrev p_smeared : List Str := ["bits", "many"]
abbrev n_passed : List Str := ["bits", "least", "most", "after", "last", "spread", "young"]
abbrev p_passed : List Str := ["bits", "least", "most", "after"]
abbrev n_next_bits : List Str := ["way", "after", "bits", "node", "found", "start", "goal", "least", "most", "word"]
abbrev p_next_bits : List Str := ["way", "after", "bits", "node"]
abbrev n_bits_of : List Str := ["way", "after", "reads", "bits", "is_new", "node", "found"]
abbrev p_bits_of : List Str := ["way", "after"]
abbrev n_stretches_of : List Str := ["bits", "pairs", "at"]
abbrev p_stretches_of : List Str := ["bits"]
abbrev n_all_ages : List Str := ["way", "rule", "node", "bits"]
abbrev p_all_ages : List Str := ["way", "rule"]
abbrev n_surely_set : List Str := ["way", "rule", "node", "deed"]
abbrev p_surely_set : List Str := ["way", "rule", "node"]
abbrev n_is_more : List Str := ["one", "other"]
abbrev p_is_more : List Str := ["one", "other"]
abbrev n_Ages_init : List Str := ["self", "way", "rule"]
abbrev p_Ages_init : List Str := ["self", "way", "rule"]
abbrev n_Ages_is_told : List Str := ["self", "looks", "node"]
abbrev p_Ages_is_told : List Str := ["self", "looks", "node"]
abbrev n_Ages_rest_of : List Str := ["self", "looks", "node", "setting", "mark"]
abbrev p_Ages_rest_of : List Str := ["self", "looks", "node"]
abbrev n_Ages_nearest : List Str := ["self", "looks", "node", "setting", "found", "mark", "back"]
abbrev p_Ages_nearest : List Str := ["self", "looks", "node"]
abbrev n_Ages_arriving : List Str := ["self", "table", "node", "found", "start", "goal", "least", "most", "word", "age", "later"]
abbrev p_Ages_arriving : List Str := ["self", "table", "node"]
abbrev n_Ages_settled : List Str := ["self", "looks", "node", "near", "rest", "old"]
abbrev p_Ages_settled : List Str := ["self", "looks", "node"]
abbrev n_Ages_table : List Str := ["self", "looks"]
abbrev p_Ages_table : List Str := ["self", "looks"]
abbrev n_Ages_walked : List Str := ["self", "looks", "many", "found", "passing", "turn", "node", "old"]
abbrev p_Ages_walked : List Str := ["self", "looks"]
abbrev n_File_init : List Str := ["self", "rule", "deed", "at", "seconds", "mark", "back"]
abbrev p_File_init : List Str := ["self", "rule", "deed", "at"]
abbrev n_File_do : List Str := ["self", "deed", "at", "seconds", "setting", "mark", "back"]
abbrev p_File_do : List Str := ["self", "deed", "at"]
abbrev n_File_held_g : List Str := ["self"]
abbrev p_File_held_g : List Str := ["self"]
abbrev n_File_held_s : List Str := ["self", "value"]
abbrev p_File_held_s : List Str := ["self", "value"]
abbrev n_is_value : List Str := ["part", "value"]
abbrev p_is_value : List Str := ["part", "value"]
abbrev n_check_parts : List Str := ["parts", "part"]
abbrev p_check_parts : List Str := ["parts"]
abbrev n_Book_init : List Str := ["self", "bound", "looks", "how", "day", "grain", "spares", "late", "again", "period", "parts"]
abbrev p_Book_init : List Str := ["self", "bound", "looks", "how", "day", "grain", "spares", "late", "again", "period"]
abbrev n_Book_change : List Str := ["self", "part", "value"]
abbrev p_Book_change : List Str := ["self", "part", "value"]
abbrev n_Book_bound_g : List Str := ["self"]
abbrev p_Book_bound_g : List Str := ["self"]
abbrev n_Book_looks_g : List Str := ["self"]
abbrev p_Book_looks_g : List Str := ["self"]
abbrev n_Book_how_g : List Str := ["self"]
abbrev p_Book_how_g : List Str := ["self"]
abbrev n_Book_day_g : List Str := ["self"]
abbrev p_Book_day_g : List Str := ["self"]
abbrev n_Book_grain_g : List Str := ["self"]
abbrev p_Book_grain_g : List Str := ["self"]
abbrev n_Book_spares_g : List Str := ["self"]
abbrev p_Book_spares_g : List Str := ["self"]
abbrev n_Book_late_g : List Str := ["self"]
abbrev p_Book_late_g : List Str := ["self"]
abbrev n_Book_again_g : List Str := ["self"]
abbrev p_Book_again_g : List Str := ["self"]
abbrev n_Book_threshold : List Str := ["self"]
abbrev p_Book_threshold : List Str := ["self"]
abbrev n_Book_deletes : List Str := ["self", "marks", "held", "at"]
abbrev p_Book_deletes : List Str := ["self", "marks", "held", "at"]
abbrev n_Book_call : List Str := ["self", "file", "at", "seconds"]
abbrev p_Book_call : List Str := ["self", "file", "at"]
abbrev n_check_book : List Str := ["value"]
abbrev p_check_book : List Str := ["value"]
abbrev n_seconds_old : List Str := ["book", "marks", "at", "latest", "mark"]
abbrev p_seconds_old : List Str := ["book", "marks", "at"]
abbrev n_is_step : List Str := ["way", "value"]
abbrev p_is_step : List Str := ["way", "value"]
abbrev n_leads : List Str := ["way", "step", "later", "arrow"]
abbrev p_leads : List Str := ["way", "step", "later"]
abbrev n_is_row : List Str := ["way", "value", "step", "at"]
abbrev p_is_row : List Str := ["way", "value"]
abbrev n_place_of : List Str := ["row", "at", "step"]
abbrev p_place_of : List Str := ["row", "at"]
abbrev n_is_within : List Str := ["way", "row", "at", "words", "place"]
abbrev p_is_within : List Str := ["way", "row", "at", "words"]
abbrev n_played : List Str := ["way", "rule", "row", "at", "place", "file", "node", "moment"]
abbrev p_played : List Str := ["way", "rule", "row", "at"]
abbrev n_file_at : List Str := ["way", "rule", "row", "at", "seconds"]
abbrev p_file_at : List Str := ["way", "rule", "row", "at"]
abbrev n_check_all : List Str := ["way", "rule", "book"]
abbrev p_check_all : List Str := ["way", "rule", "book"]
abbrev n_deletes_at : List Str := ["way", "rule", "book", "row", "at", "file"]
abbrev p_deletes_at : List Str := ["way", "rule", "book", "row", "at"]
abbrev n_shows_fault : List Str := ["way", "rule", "book", "row", "at", "then"]
abbrev p_shows_fault : List Str := ["way", "rule", "book", "row", "at", "then"]
abbrev n_is_fault : List Str := ["way", "rule", "book", "value", "row", "at", "then"]
abbrev p_is_fault : List Str := ["way", "rule", "book", "value"]
abbrev n_counts : List Str := ["book", "arrow", "word"]
abbrev p_counts : List Str := ["book", "arrow"]
abbrev n_seen_most : List Str := ["way", "book", "ages", "table", "found", "arrow", "age", "most", "seen"]
abbrev p_seen_most : List Str := ["way", "book", "ages"]
abbrev n_greatest_seen : List Str := ["way", "rule", "book"]
abbrev p_greatest_seen : List Str := ["way", "rule", "book"]
abbrev n_is_safe : List Str := ["way", "rule", "book", "seen"]
abbrev p_is_safe : List Str := ["way", "rule", "book"]
abbrev n_least_bound : List Str := ["way", "rule", "book", "seen"]
abbrev p_least_bound : List Str := ["way", "rule", "book"]
abbrev n_law_source : List Str := ["script", "turn", "cell", "number", "seed"]
abbrev p_law_source : List Str := ["script", "turn"]
abbrev n_law_draw : List Str := ["source", "amount", "digit", "found"]
abbrev p_law_draw : List Str := ["source", "amount"]
abbrev n_law_pick : List Str := ["source", "items"]
abbrev p_law_pick : List Str := ["source", "items"]
abbrev n_law_rule : List Str := ["row"]
abbrev p_law_rule : List Str := ["row"]
abbrev n_law_rule_row : List Str := ["source", "most", "word"]
abbrev p_law_rule_row : List Str := ["source", "most"]
abbrev n_law_maker : List Str := ["source", "back"]
abbrev p_law_maker : List Str := ["source", "back"]
abbrev n_law_user : List Str := ["source", "back"]
abbrev p_law_user : List Str := ["source", "back"]
abbrev n_law_arrow : List Str := ["source", "start", "goal", "longest", "ends", "least", "most"]
abbrev p_law_arrow : List Str := ["source", "start", "goal", "longest", "ends"]
abbrev n_law_plan : List Str := ["source", "many", "longest", "back", "ends", "nodes", "k", "arrows", "goal", "turn", "arrow", "onward", "other"]
abbrev p_law_plan : List Str := ["source", "many", "longest", "back", "ends"]
abbrev n_law_row : List Str := ["source", "plan", "most", "start", "longest", "nodes", "arrows", "some", "found", "turn", "onward", "arrow", "top", "time", "node"]
abbrev p_law_row : List Str := ["source", "plan", "most", "start", "longest"]
abbrev n_law_looks : List Str := ["source"]
abbrev p_law_looks : List Str := ["source"]
abbrev n_law_parts : List Str := ["source", "most", "grains", "parts"]
abbrev p_law_parts : List Str := ["source", "most", "grains"]
abbrev n_law_book : List Str := ["parts", "book"]
abbrev p_law_book : List Str := ["parts"]
abbrev n_law_in_use : List Str := ["plan", "row", "at", "place", "step", "arrow"]
abbrev p_law_in_use : List Str := ["plan", "row", "at"]
abbrev n_law_looks_right : List Str := ["source", "plan", "way", "rule", "book", "row", "k", "place", "then", "early", "at"]
abbrev p_law_looks_right : List Str := ["source", "plan", "way", "rule", "book", "row"]
abbrev n_law : List Str := ["script", "turn", "source", "longest", "plan", "rule", "way", "book", "least", "k", "row"]
abbrev p_law : List Str := ["script"]
/-! ### the part of the heap that is looked at: the places of the defs, classes, tuples and their parts behind the top (found by a run of the layers from the module's names) -/
def adrs : List Addr := [3, 2, 430, 429, 451, 450, 539, 538, 759, 758, 845, 844, 968, 967, 1110, 1109, 1435, 1434, 250, 251, 257, 258, 264, 265, 271, 272, 278, 279, 280, 281, 287, 288, 294, 295, 301, 302, 308, 309, 313, 314, 320, 321, 440, 441, 468, 469, 475, 476, 478, 485, 486, 488, 495, 496, 498, 505, 506, 507, 513, 514, 515, 521, 522, 549, 550, 556, 557, 561, 562, 603, 604, 706, 707, 732, 733, 735, 764, 770, 771, 775, 776, 787, 788, 801, 802, 808, 809, 822, 823, 829, 830, 834, 835, 855, 856, 862, 863, 869, 870, 876, 877, 881, 882, 888, 889, 893, 894, 900, 901, 907, 908, 921, 922, 928, 929, 933, 934, 938, 939, 945, 946, 952, 953, 959, 960, 964, 965, 1020, 1021, 1048, 1049, 1068, 1069, 1077, 1078, 1079, 1113, 1119, 1120, 1126, 1127, 1142, 1148, 1149, 1155, 1156, 1162, 1163, 1173, 1179, 1180, 1190, 1196, 1197, 1207, 1213, 1214, 1224, 1230, 1231, 1241, 1247, 1248, 1258, 1264, 1265, 1275, 1281, 1282, 1292, 1357, 1358, 1364, 1365, 1371, 1372, 1445, 1446, 1450, 1451, 1457, 1458, 1464, 1465, 1469, 1470, 1474, 1475, 1481, 1482, 1488, 1489, 1495, 1496, 1502, 1503, 1509, 1510, 1516, 1517, 1523, 1524, 1530, 1531, 1537, 1538, 1544, 1545, 1551, 1552, 1558, 1559, 1565, 1566, 1572, 1573, 1579, 1580, 1586, 1587, 1593, 1594, 1600, 1601, 1607, 1608, 1614, 1615, 1619, 1620, 1624, 1625, 1631, 1632, 1638, 1639, 1645, 1646, 1650, 1651, 1657, 1658, 1664, 1665]
abbrev AlM : Type := Bool × List He.FnW
def obsM (K : PySem.W.Frag) : AlM := ((fx.all fun f => f.ok K) && fn.all fun d => d.ok K, fn.map fun d => He5.fnA K (d.at_ K))
def valM : AlM := (true, fn.map He5.DefA.val)
def obsMG (g : Addr → Option Obj) : AlM := obsM (He.frG g adrs)
def hookM : PySem.W.Hook where
  α := AlM
  obs := fun s => obsMG s.heap.get?
  val := fun _ => valM
  says := fun _ h => ∃ K : PySem.W.Frag, K.In h ∧ obsM K = valM
  of := fun _ _ e => ⟨_, He.frG_in, e⟩
  keeps := fun _ _ _ ⟨K, hK, c⟩ k => ⟨K, PySem.W.Frag.In.keeps hK k, c⟩
theorem obsMG_eq {g : Addr → Option Obj} {s : Shared} (h : ∀ a, g a = s.heap.get? a) : obsMG g = hookM.obs s := by
  have e : g = s.heap.get? := funext h
  rw [e]
  rfl
/-! ### what the walk leans on -/
structure Tx (K : PySem.W.Frag) (mg : Str → Option Value) : Prop where
  fact : ∀ (i : Nat) (f : Fx), fx[i]? = some f → f.ok K = true
  def_ : ∀ (i : Nat) (d : He5.DefA), fn[i]? = some d → ∃ fd, FunD K d.name d.qual d.params d.body d.scope (d.dvs K) (d.kws K) (d.at_ K) fd
  ns : ∀ x r, PySem.W.nsIn K mainGlobals x = some (some r) → mg x = some r
  no : ∀ x, PySem.W.nsIn K mainGlobals x = some none → mg x = none
theorem tx_of {K : PySem.W.Frag} {mg : Str → Option Value} {h : Heap} (X : K.In h) (G : h.Ns mainGlobals mg) (c : obsM K = valM) : Tx K mg := by
  have c1 : ((fx.all fun f => f.ok K) && fn.all fun d => d.ok K) = true := congrArg (fun z : AlM => z.1) c
  obtain ⟨c2, c3⟩ := He.ba c1
  have c4 : fn.map (fun d => He5.fnA K (d.at_ K)) = fn.map He5.DefA.val := congrArg (fun z : AlM => z.2) c
  refine ⟨fun i f hf => List.all_eq_true.mp c2 f (List.mem_of_getElem? hf), fun i d hd => ?_, fun x r e => PySem.W.mg_of X G e, fun x e => PySem.W.mg_none_of X G e⟩
  have e2 : (fn.map fun d => He5.fnA K (d.at_ K))[i]? = (fn.map He5.DefA.val)[i]? := by rw [c4]
  rw [List.getElem?_map, List.getElem?_map, hd] at e2
  exact He5.DefA.funD (Option.some.inj e2) (List.all_eq_true.mp c3 d (List.mem_of_getElem? hd))
section
variable {K : PySem.W.Frag} {mg : Str → Option Value}
theorem Tx.glo (T : Tx K mg) (i : Nat) {x : Str} (h : fx[i]? = some (.he (.glo x)) := by rfl) : mg x = some (.ref (He.ga K x)) := T.ns _ _ (He.eqO_ok (T.fact i _ h))
theorem Tx.free (T : Tx K mg) (i : Nat) {x : Str} (h : fx[i]? = some (.he (.free x)) := by rfl) : mg x = none := T.no _ (He.eqO_ok (T.fact i _ h))
theorem Tx.int (T : Tx K mg) (i : Nat) {x : Str} {n : Int} (h : fx[i]? = some (.he (.int x n)) := by rfl) : ∃ t, mg x = some (.int n t) := by
  have c := T.fact i _ h
  have c2 : (match PySem.W.nsIn K mainGlobals x with
    | some (some (.int j _)) => decide (j = n)
    | _ => false) = true := c
  split at c2
  · rename_i j t e
    have ej : j = n := of_decide_eq_true c2
    subst ej
    exact ⟨t, T.ns _ _ e⟩
  · cases c2
theorem Tx.tup (T : Tx K mg) (i : Nat) {x : Str} {vs : List He.Dv} (H : Hp) (h : fx[i]? = some (.tup x vs) := by rfl) : SqT K H (He.ga K x) (vs.map (He.Dv.v K)) := He.tupB_ok (T.fact i _ h) H
theorem Tx.cls (T : Tx K mg) (i : Nat) {x : Str} (h : fx[i]? = some (.he (.cls x)) := by rfl) : Cls K (He.ga K x) := He.cls_ok (T.fact i _ h)
theorem Tx.noat (T : Tx K mg) (i : Nat) {x f : Str} (h : fx[i]? = some (.he (.noat x f)) := by rfl) : NoAttr K (He.ga K x) f := He.noat_ok (T.fact i _ h)
theorem Tx.meth (T : Tx K mg) (i : Nat) {x m : Str} (h : fx[i]? = some (.he (.meth x m)) := by rfl) : Meth K (He.ga K x) m (He.ma K (He.ga K x) m) := He.meth_ok (T.fact i _ h)
theorem Tx.mkr (T : Tx K mg) (i : Nat) {x : Str} (h : fx[i]? = some (.he (.mkr x)) := by rfl) : Mk K (He.ga K x) (He.ma K (He.ga K x) "__init__") := He.mkr_ok (T.fact i _ h)
theorem Tx.kit (T : Tx K mg) (i : Nat) {t : String} {x : Str} {b : Bool} (h : fx[i]? = some (.kit t x b) := by rfl) : PySem.W.kitOne K (.type t) (.ref (He.ga K x)) = some b := of_decide_eq_true (T.fact i _ h)
theorem Tx.isi (T : Tx K mg) (i j : Nat) {x : Str} (h : fx[i]? = some (.isi x) := by rfl) (h2 : fx[j]? = some (.he (.cls x)) := by rfl) : C8.InsC K (He.ga K x) := by
  obtain ⟨c1, c⟩ := He.ba (T.fact i _ h)
  obtain ⟨c2, c⟩ := He.ba c
  obtain ⟨c3, c⟩ := He.ba c
  obtain ⟨c4, c5⟩ := He.ba c
  exact ⟨T.cls j h2, He.eqO_ok c1, He.eqO_ok c2, of_decide_eq_true c3, of_decide_eq_true c4, of_decide_eq_true c5⟩
theorem Tx.own (T : Tx K mg) (i : Nat) {x m : Str} (h : fx[i]? = some (.own x m) := by rfl) :
    PySem.W.findIn K (.ref (He.ga K x)) m = some (some (.ref (He.ma K (He.ga K x) m))) ∧ PySem.W.isFn K (.ref (He.ma K (He.ga K x) m)) = true ∧ PySem.W.fnIn K (He.ma K (He.ga K x) m) = true := by
  obtain ⟨c1, c⟩ := He.ba (T.fact i _ h)
  obtain ⟨c2, c3⟩ := He.ba c
  exact ⟨He.eqO_ok c1, c2, c3⟩
theorem Tx.prop (T : Tx K mg) (i : Nat) {x f : Str} (h : fx[i]? = some (.prop x f) := by rfl) : PropOf K (He.ga K x) f (He.ma K (He.ga K x) f) (pgt K (He.ga K x) f) := by
  obtain ⟨c1, c⟩ := He.ba (T.fact i _ h)
  obtain ⟨c2, c⟩ := He.ba c
  obtain ⟨c3, c4⟩ := He.ba c
  refine ⟨He.eqO_ok c1, He.eqO_ok c2, of_decide_eq_true c3, ?_⟩
  unfold pgt
  split at c4
  · rename_i g r e
    exact ⟨r, by rw [e]⟩
  · cases c4
theorem Tx.pset (T : Tx K mg) (i : Nat) {x f : Str} (h : fx[i]? = some (.pset x f) := by rfl) : PropSet K (He.ga K x) f (He.ma K (He.ga K x) f) (pst K (He.ga K x) f) := by
  obtain ⟨c1, c⟩ := He.ba (T.fact i _ h)
  obtain ⟨c2, c4⟩ := He.ba c
  refine ⟨of_decide_eq_true c1, of_decide_eq_true c2, ?_⟩
  unfold pst
  split at c4
  · rename_i a g r e
    exact ⟨a, r, by rw [e]⟩
  · cases c4
theorem Tx.stm (T : Tx K mg) (i : Nat) {x m : Str} (h : fx[i]? = some (.stm x m) := by rfl) : StM K (He.ga K x) m (He.ma K (He.ga K x) m) (stt K (He.ga K x) m) := by
  obtain ⟨c1, c⟩ := He.ba (T.fact i _ h)
  obtain ⟨c2, c⟩ := He.ba c
  obtain ⟨c3, c⟩ := He.ba c
  obtain ⟨c4, c5⟩ := He.ba c
  obtain ⟨h1, h2⟩ := He5.wrapB_ok c4
  exact ⟨of_decide_eq_true c1, c2, He.eqO_ok c3, h1, h2, c5⟩
end
end AgT
end
section
set_option maxHeartbeats 0
/-! AgH: the head: the top's run in the kernel, with the facts. -/
namespace AgH
open PySem PySem.Spec PyProof.Rows L2
def nm1 : List Str := ["_wall", "__name__", "AgeError", "NoMoment", "NoRule", "NoFile", "NoDeed", "NoMark", "NoGrain", "NoRow", "NoStretch", "NoWay", "NoBook", "is_whole", "is_between", "is_count", "is_listed", "is_part_of", "MARKS", "PLAIN", "LONGEST", "is_time", "is_deed", "makes", "is_looks", "all_looks", "backs"]
def nm2 : List Str := ["FARTHEST", "LARGEST_GRAIN", "Moment", "seconds_of", "LATEST_AFTER", "Marked", "Rule", "check_rule", "is_pair", "joined", "gaps_of", "lesser_end", "overlaps_of", "checked", "Stretches", "MOST_NODES", "MOST_ARROWS", "WORDS", "is_arrow", "reached_from", "Way", "check_way", "smeared", "passed", "next_bits", "bits_of", "stretches_of", "all_ages"]
def nm3 : List Str := ["surely_set", "is_more", "Ages", "Hold", "File", "PARTS", "LARGEST_BOUND", "LATEST", "is_value", "check_parts", "common_grain", "Book", "check_book", "seconds_old", "is_step", "leads", "is_row", "place_of", "is_within", "played", "file_at", "check_all", "deletes_at", "shows_fault", "is_fault", "counts", "seen_most", "greatest_seen", "is_safe", "least_bound"]
def nm4 : List Str := ["_law_source", "_law_draw", "_law_pick", "_law_rule", "_law_rule_row", "_law_maker", "_law_user", "_law_arrow", "_law_plan", "_law_row", "_law_looks", "_law_parts", "_law_book", "_law_in_use", "_law_looks_right"]
def loose : List Str := nm1 ++ nm2 ++ nm3 ++ nm4
abbrev R : PySem.W.OpenRow := PySem.W.OpenLaw.row PySem.Challenge.rw_agedfiles_k53_whole_safe_books_spare_wha
def ob (s : PySem.W.SharedT) : AgT.AlM := AgT.obsMG (HandSHeadRun.getT s)
theorem ob_eq (s : PySem.W.SharedT) : ob s = AgT.hookM.obs s.abs := AgT.obsMG_eq (HandSHeadRun.getT_eq s)
open PySem.W HandSHeadRun
abbrev qv : Program := PySem.W.view R.prog [114]
abbrev kf (s : SharedT) : Frag := He.frG (HandSHeadRun.getT s) AgT.adrs
/-- the run, looked at six times (each by itself, for the memory's sake) -/
theorem run1 (w : World) (os : OsState) : (endF (stepQ (denQ tabQ) R.prog w) 20000 R.prog w os).map (fun s => looksF R.prog (boot_heap w.params) s.abs) = some true := by
  kernel_rfl
theorem run2 (w : World) (os : OsState) : (endF (stepQ (denQ tabQ) R.prog w) 20000 R.prog w os).map (fun s => seenQ qv loose (importedModules R.prog.main.body) (fun s => xlAt qv [] s && recOk R.toRowW.records s) s.abs) = some (openGood qv loose) := by
  kernel_rfl
theorem run3 (w : World) (os : OsState) : (endF (stepQ (denQ tabQ) R.prog w) 20000 R.prog w os).map (fun s => AgT.fx.all fun f => f.ok (kf s)) = some true := by
  kernel_rfl
theorem run4 (w : World) (os : OsState) : (endF (stepQ (denQ tabQ) R.prog w) 20000 R.prog w os).map (fun s => (AgT.fn.take 52).all fun d => d.ok (kf s)) = some true := by
  kernel_rfl
theorem run5 (w : World) (os : OsState) : (endF (stepQ (denQ tabQ) R.prog w) 20000 R.prog w os).map (fun s => (AgT.fn.drop 52).all fun d => d.ok (kf s)) = some true := by
  kernel_rfl
theorem run6 (w : World) (os : OsState) : (endF (stepQ (denQ tabQ) R.prog w) 20000 R.prog w os).map (fun s => AgT.fn.map fun d => He5.fnA (kf s) (d.at_ (kf s))) = some (AgT.fn.map He5.DefA.val) := by
  kernel_rfl
theorem both {S A B : Type} {o : Option S} {f p q q1 q2 : S → Bool} {g : S → A} {r : S → B} {a : A} {b : B} (hq : ∀ s, q s = (q1 s && q2 s)) (h1 : o.map f = some true) (h2 : o.map g = some a) (h3 : o.map p = some true) (h4 : o.map q1 = some true) (h5 : o.map q2 = some true) (h6 : o.map r = some b) :
    o.map (fun s => (f s, g s, (p s && q s, r s))) = some (true, a, (true, b)) := by
  cases o with
  | none => cases h1
  | some s =>
    simp only [Option.map_some, Option.some.injEq] at h1 h2 h3 h4 h5 h6
    simp only [Option.map_some, h1, h2, h3, hq, h4, h5, h6, Bool.and_true]
theorem run (w : World) : RunEq R qv AgT.hookM ob 20000 loose w := fun os => both (q := fun s => AgT.fn.all fun d => d.ok (kf s)) (fun s => by rw [← List.all_append, List.take_append_drop]) (run1 w os) (run2 w os) (run3 w os) (run4 w os) (run5 w os) (run6 w os)
theorem bareP : R.prog.bare := ⟨rfl, rfl, rfl, rfl, rfl, by decide +kernel⟩
end AgH
namespace AgH
open PySem PySem.W PySem.Calls PyProof.Rows
/-- the head: what is left is the walk of the law's def -/
theorem holds_of (hc : WalkO qv loose (XL qv []) AgT.hookM.says R.toRowW (HandSHeadRun.topDef R.prog 114) [] (fun f vs => PySem.call f vs)) : PySem.Challenge.rw_agedfiles_k53_whole_safe_books_spare_wha.Holds := by
  w_on; o_law
  refine HandSHeadRun.head_any (r := OpenLaw.row PySem.Challenge.rw_agedfiles_k53_whole_safe_books_spare_wha) (q := qv) (H := AgT.hookM) (ob := ob) (M := 20000) (loose := loose) (d := HandSHeadRun.topDef (OpenLaw.row PySem.Challenge.rw_agedfiles_k53_whole_safe_books_spare_wha).prog 114) (kwd := []) ob_eq
    (by kernel_rfl) (fun s => by kernel_rfl) run (by kernel_rfl) (by kernel_rfl) (by kernel_rfl) (by rfl) (by first | assumption | decide +kernel) (by decide +kernel) bareP ?hw hc
  case hw => w_witness2
end AgH
end
section
set_option maxHeartbeats 4000000
/-! AgM: the plain mirror of what is reckoned, and its mathematics. No program here. -/
namespace AgM

inductive Mark where
  | read | written | changed
  deriving DecidableEq
inductive Deed where
  | make | read | write | rename | touch | unpack (b : Int) | setback (b : Int)
  deriving DecidableEq
inductive Word where
  | plain | held | anew
  deriving DecidableEq
structure Arr where
  s : Nat
  g : Nat
  l : Int
  m : Int
  w : Word
  deriving DecidableEq
inductive Rl where
  | always | never | seldom (n : Nat)
  deriving DecidableEq

def Deed.makes : Deed → Bool
  | .make => true
  | .unpack _ => true
  | _ => false
def Deed.backs : Deed → List (Mark × Int)
  | .make => [(.read, 0), (.written, 0), (.changed, 0)]
  | .touch => [(.read, 0), (.written, 0), (.changed, 0)]
  | .unpack b => [(.read, 0), (.written, b), (.changed, 0)]
  | .setback b => [(.read, b), (.written, b), (.changed, 0)]
  | .write => [(.written, 0), (.changed, 0)]
  | .rename => [(.changed, 0)]
  | .read => []
def Deed.ok : Deed → Prop
  | .unpack b => 1 ≤ b ∧ b ≤ 1000000000
  | .setback b => 1 ≤ b ∧ b ≤ 1000000000
  | _ => True

/-! ### marks -/
structure Tb where
  r : Int
  w : Int
  c : Int
def Tb.get (t : Tb) : Mark → Int
  | .read => t.r
  | .written => t.w
  | .changed => t.c
def Tb.put (t : Tb) (m : Mark) (v : Int) : Tb := match m with
  | .read => { t with r := v }
  | .written => { t with w := v }
  | .changed => { t with c := v }
theorem Tb.get_put (t : Tb) (m k : Mark) (v : Int) : (t.put m v).get k = if k = m then v else t.get k := by
  cases m <;> cases k <;> rfl
def setAll (t : Tb) (at_ : Int) (st : List (Mark × Int)) : Tb := st.foldl (fun t p => t.put p.1 (at_ - p.2)) t
def sets (rl : Rl) (t : Tb) (at_ : Int) : Bool := match rl with
  | .always => true
  | .never => false
  | .seldom n => decide (t.r ≤ t.w) || decide (t.r ≤ t.c) || decide (at_ - t.r ≥ (n : Int))
def settingOf (rl : Rl) (d : Deed) (t : Tb) (at_ : Int) : List (Mark × Int) := if d = .read ∧ sets rl t at_ = true then [(.read, 0)] else d.backs
def doDeed (rl : Rl) (d : Deed) (at_ : Int) (t : Tb) : Tb := setAll t at_ (settingOf rl d t at_)

/-! ### ages -/
abbrev Age := Option Int
def surely (rl : Rl) (d : Deed) : List (Mark × Int) := if d = .read then (if rl = .always then [(.read, 0)] else []) else d.backs
def into (arrows : List Arr) (n : Nat) : List Arr := arrows.filter fun a => decide (a.g = n) && decide (a.w ≠ .anew)
def isMore (one other : Age) : Bool := match other with
  | none => false
  | some o => match one with
    | none => true
    | some x => decide (x > o)
def addAge (a : Age) (m : Int) : Age := match a with
  | none => none
  | some x => some (x + m)
def arrStep (T : List Age) (found : Age) (a : Arr) : Age :=
  if T.getD a.s none = some (-1) then found else if isMore (addAge (T.getD a.s none) a.m) found then addAge (T.getD a.s none) a.m else found
def arriving (arrows : List Arr) (T : List Age) (n : Nat) : Age := (into arrows n).foldl (arrStep T) (some (-1))
def hitsOf (rl : Rl) (d : Deed) (looks : List Mark) : List Int := looks.filterMap fun m => (surely rl d).lookup m
def minOf : List Int → Int
  | [] => 0
  | [a] => a
  | a :: r => if a ≤ minOf r then a else minOf r
def nearest (rl : Rl) (d : Deed) (looks : List Mark) : Age := match hitsOf rl d looks with
  | [] => none
  | a :: r => some (minOf (a :: r))
def restOf (rl : Rl) (d : Deed) (looks : List Mark) : List Mark := looks.filter fun m => ((surely rl d).lookup m).isNone
def isTold (rl : Rl) (d : Deed) (looks : List Mark) : Bool := (match rl with | .seldom _ => true | _ => false) && decide (d = .read) && decide (Mark.read ∈ looks)
def pickOld (near : Int) (old : Age) : Age := match old with
  | none => some near
  | some o => if o > near then some near else some o
/-- the settled age; G: the greatest ages of reads; tab: the tables of shorter looks -/
def settled (nodes : List Deed) (arrows : List Arr) (rl : Rl) (G : Nat → Age) (tab : List Mark → List Age) (looks : List Mark) (n : Nat) : Age :=
  let d := nodes.getD n .read
  if isTold rl d looks then G n
  else match nearest rl d looks with
    | none => some (-1)
    | some near => if d.makes = true ∨ restOf rl d looks = [] then some near else
      pickOld near (arriving arrows (tab (restOf rl d looks)) n)
def relax (arrows : List Arr) (many : Nat) (t : Nat) (f : List Age) (n : Nat) : List Age :=
  if isMore (arriving arrows f n) (f.getD n none) then f.set n (if t > many then none else arriving arrows f n) else f
def found0 (nodes : List Deed) (arrows : List Arr) (rl : Rl) (G : Nat → Age) (tab : List Mark → List Age) (looks : List Mark) : List Age :=
  (List.range nodes.length).map (settled nodes arrows rl G tab looks)
def passing (nodes : List Deed) (f : List Age) : List Nat := (List.range nodes.length).filter fun n => decide (f.getD n none = some (-1))
def walked (nodes : List Deed) (arrows : List Arr) (rl : Rl) (G : Nat → Age) (tab : List Mark → List Age) (looks : List Mark) : List Age :=
  (List.range (2 * nodes.length + 1)).foldl (fun f t => (passing nodes (found0 nodes arrows rl G tab looks)).foldl (relax arrows nodes.length t) f) (found0 nodes arrows rl G tab looks)
def tab (nodes : List Deed) (arrows : List Arr) (rl : Rl) (G : Nat → Age) : Nat → List Mark → List Age
  | 0, _ => []
  | k + 1, looks => walked nodes arrows rl G (tab nodes arrows rl G k) looks
def T (nodes : List Deed) (arrows : List Arr) (rl : Rl) (G : Nat → Age) (looks : List Mark) : List Age := tab nodes arrows rl G looks.length looks

/-! ### lists -/
theorem getD_set {α : Type} (f : List α) (n k : Nat) (v d : α) : (f.set n v).getD k d = if k = n ∧ n < f.length then v else f.getD k d := by
  rw [List.getD_eq_getElem?_getD, List.getD_eq_getElem?_getD, List.getElem?_set]
  by_cases h : n = k
  · subst h
    by_cases h2 : n < f.length
    · simp [h2]
    · simp [h2]
  · have h3 : ¬ k = n := fun e => h e.symm
    simp [h, h3]
theorem getD_map_range {α : Type} (g : Nat → α) (m n : Nat) (d : α) (h : n < m) : ((List.range m).map g).getD n d = g n := by
  rw [List.getD_eq_getElem?_getD, List.getElem?_map, List.getElem?_range h]
  rfl
theorem countP_lt {α : Type} {p q : α → Bool} : ∀ {l : List α}, (∀ x ∈ l, q x = true → p x = true) → (∃ x ∈ l, p x = true ∧ q x = false) → l.countP q < l.countP p
  | [], _, h => by
    obtain ⟨x, hx, _⟩ := h
    cases hx
  | a :: r, h1, h2 => by
    have hr : r.countP q ≤ r.countP p := List.countP_mono_left fun x hx => h1 x (List.mem_cons_of_mem _ hx)
    rw [List.countP_cons, List.countP_cons]
    obtain ⟨x, hx, px, qx⟩ := h2
    rcases List.mem_cons.mp hx with e | hx
    · subst e
      rw [px, qx]
      simp
      omega
    · have hlt : r.countP q < r.countP p := countP_lt (fun y hy => h1 y (List.mem_cons_of_mem _ hy)) ⟨x, hx, px, qx⟩
      have h3 := h1 a List.mem_cons_self
      by_cases e : q a = true
      · rw [e, h3 e]
        simp
        omega
      · have e2 : q a = false := Bool.eq_false_iff.mpr e
        rw [e2]
        by_cases e3 : p a = true
        · rw [e3]
          simp
          omega
        · have e4 : p a = false := Bool.eq_false_iff.mpr e3
          rw [e4]
          simp
          omega

/-! ### comparisons of ages -/
/-- at least -/
def Ge (r s : Age) : Prop := r = none ∨ ∃ y x, r = some y ∧ s = some x ∧ x ≤ y
theorem Ge.refl (r : Age) : Ge r r := by
  cases r with
  | none => exact .inl rfl
  | some x => exact .inr ⟨x, x, rfl, rfl, Int.le_refl _⟩
theorem Ge.trans {a b c : Age} (h : Ge a b) (h2 : Ge b c) : Ge a c := by
  rcases h with h | ⟨y, x, h, hb, hle⟩
  · exact .inl h
  · rcases h2 with h2 | ⟨y2, x2, h2, hc, hle2⟩
    · rw [hb] at h2
      cases h2
    · rw [hb] at h2
      cases h2
      exact .inr ⟨y, x2, h, hc, by omega⟩
theorem not_more {one other : Age} (h : isMore one other = false) : Ge other one := by
  cases other with
  | none => exact .inl rfl
  | some o =>
    cases one with
    | none => cases h
    | some x =>
      have h2 : ¬ x > o := of_decide_eq_false h
      exact .inr ⟨o, x, rfl, rfl, by omega⟩
theorem more_ge {one other : Age} (h : isMore one other = true) : Ge one other ∧ other ≠ none := by
  cases other with
  | none => cases h
  | some o =>
    refine ⟨?_, fun z => nomatch z⟩
    cases one with
    | none => exact .inl rfl
    | some x =>
      have h2 : x > o := of_decide_eq_true h
      exact .inr ⟨x, o, rfl, rfl, by omega⟩
theorem arrStep_ge (T : List Age) (f : Age) (a : Arr) : Ge (arrStep T f a) f := by
  unfold arrStep
  split
  · exact Ge.refl _
  · split
    · rename_i h
      exact (more_ge h).1
    · exact Ge.refl _
theorem arrStep_in (T : List Age) (f : Age) (a : Arr) (h : T.getD a.s none ≠ some (-1)) : Ge (arrStep T f a) (addAge (T.getD a.s none) a.m) := by
  unfold arrStep
  rw [if_neg h]
  split
  · exact Ge.refl _
  · rename_i h2
    exact not_more (by simpa using h2)
theorem foldl_ge (T : List Age) : ∀ (l : List Arr) (f : Age), Ge (l.foldl (arrStep T) f) f
  | [], f => Ge.refl f
  | a :: r, f => (foldl_ge T r (arrStep T f a)).trans (arrStep_ge T f a)
theorem foldl_in (T : List Age) : ∀ (l : List Arr) (f : Age) (a : Arr), a ∈ l → T.getD a.s none ≠ some (-1) → Ge (l.foldl (arrStep T) f) (addAge (T.getD a.s none) a.m)
  | [], f, a, h, _ => by cases h
  | b :: r, f, a, h, hn => by
    rcases List.mem_cons.mp h with e | h
    · subst e
      exact (foldl_ge T r (arrStep T f a)).trans (arrStep_in T f a hn)
    · exact foldl_in T r (arrStep T f b) a h hn
theorem arriving_in {arrows : List Arr} {T : List Age} {n : Nat} {a : Arr} (h : a ∈ arrows) (hg : a.g = n) (hw : a.w ≠ .anew) (hn : T.getD a.s none ≠ some (-1)) : Ge (arriving arrows T n) (addAge (T.getD a.s none) a.m) := by
  refine foldl_in T _ _ a ?_ hn
  unfold into
  rw [List.mem_filter]
  exact ⟨h, by simp [hg, hw]⟩

/-! ### the walk comes to rest -/
section
variable {nodes : List Deed} {arrows : List Arr} {many : Nat}
def Rest (arrows : List Arr) (ps : List Nat) (f : List Age) : Prop := ∀ n ∈ ps, isMore (arriving arrows f n) (f.getD n none) = false
theorem relax_len (t : Nat) (f : List Age) (n : Nat) : (relax arrows many t f n).length = f.length := by
  unfold relax
  split
  · rw [List.length_set]
  · rfl
theorem relaxs_len (t : Nat) : ∀ (l : List Nat) (f : List Age), (l.foldl (relax arrows many t) f).length = f.length
  | [], f => rfl
  | n :: r, f => (relaxs_len t r (relax arrows many t f n)).trans (relax_len t f n)
theorem relax_out (t : Nat) (f : List Age) {n k : Nat} (h : k ≠ n) : (relax arrows many t f n).getD k none = f.getD k none := by
  unfold relax
  split
  · rw [getD_set, if_neg fun z => h z.1]
  · rfl
theorem relaxs_out (t : Nat) : ∀ (l : List Nat) (f : List Age) (k : Nat), k ∉ l → (l.foldl (relax arrows many t) f).getD k none = f.getD k none
  | [], f, k, _ => rfl
  | n :: r, f, k, h => by
    have h1 : k ≠ n := fun e => h (by rw [e]; exact List.mem_cons_self)
    have h2 : k ∉ r := fun m => h (List.mem_cons_of_mem _ m)
    exact (relaxs_out t r _ k h2).trans (relax_out t f h1)
/-- how many of them have an age -/
def cnt (ps : List Nat) (f : List Age) : Nat := ps.countP fun n => (f.getD n none).isSome
theorem relax_late {ps : List Nat} {t : Nat} (ht : t > many) (f : List Age) {n : Nat} (hn : n ∈ ps) (hl : ∀ k ∈ ps, k < f.length) :
    (relax arrows many t f n = f ∧ isMore (arriving arrows f n) (f.getD n none) = false) ∨ cnt ps (relax arrows many t f n) < cnt ps f := by
  unfold relax
  cases h : isMore (arriving arrows f n) (f.getD n none) with
  | false =>
    refine .inl ⟨?_, rfl⟩
    simp
  | true =>
    refine .inr ?_
    rw [if_pos rfl, if_pos ht]
    obtain ⟨_, h2⟩ := more_ge h
    refine countP_lt (fun k hk h3 => ?_) ⟨n, hn, ?_, ?_⟩
    · rw [getD_set] at h3
      split at h3
      · cases h3
      · exact h3
    · cases e : f.getD n none with
      | none => exact absurd e h2
      | some x => rfl
    · rw [getD_set, if_pos ⟨rfl, hl n hn⟩]
      rfl
theorem relaxs_late {ps : List Nat} {t : Nat} (ht : t > many) : ∀ (l : List Nat) (f : List Age), (∀ n ∈ l, n ∈ ps) → (∀ k ∈ ps, k < f.length) →
    (l.foldl (relax arrows many t) f = f ∧ ∀ n ∈ l, isMore (arriving arrows f n) (f.getD n none) = false) ∨ cnt ps (l.foldl (relax arrows many t) f) < cnt ps f
  | [], f, _, _ => .inl ⟨rfl, fun n h => by cases h⟩
  | n :: r, f, hs, hl => by
    have hr : ∀ k ∈ r, k ∈ ps := fun k hk => hs k (List.mem_cons_of_mem _ hk)
    rcases relax_late (arrows := arrows) ht f (hs n List.mem_cons_self) hl with ⟨e, h1⟩ | h1
    · rcases relaxs_late ht r f hr hl with ⟨e2, h2⟩ | h2
      · refine .inl ⟨?_, fun k hk => ?_⟩
        · show r.foldl (relax arrows many t) (relax arrows many t f n) = f
          rw [e]
          exact e2
        · rcases List.mem_cons.mp hk with z | z
          · rw [z]
            exact h1
          · exact h2 k z
      · refine .inr ?_
        show cnt ps (r.foldl (relax arrows many t) (relax arrows many t f n)) < _
        rw [e]
        exact h2
    · refine .inr ?_
      show cnt ps (r.foldl (relax arrows many t) (relax arrows many t f n)) < _
      rcases relaxs_late ht r (relax arrows many t f n) hr (by rw [relax_len]; exact hl) with ⟨e2, _⟩ | h2
      · rw [e2]
        exact h1
      · exact Nat.lt_trans h2 h1
theorem relax_rest {ps : List Nat} {t : Nat} {f : List Age} (h : Rest arrows ps f) : ∀ (l : List Nat), (∀ n ∈ l, n ∈ ps) → l.foldl (relax arrows many t) f = f
  | [], _ => rfl
  | n :: r, hs => by
    have e : relax arrows many t f n = f := by
      unfold relax
      rw [h n (hs n List.mem_cons_self)]
      simp
    show r.foldl (relax arrows many t) (relax arrows many t f n) = f
    rw [e]
    exact relax_rest h r fun k hk => hs k (List.mem_cons_of_mem _ hk)
theorem rest_none {ps : List Nat} {f : List Age} (h : cnt ps f = 0) : Rest arrows ps f := fun n hn => by
  have h2 := List.countP_eq_zero.mp h n hn
  cases e : f.getD n none with
  | none => rfl
  | some x =>
    rw [e] at h2
    exact absurd rfl h2
/-- late passes: rest, or fewer ages -/
theorem late_passes {ps : List Nat} : ∀ (ts : List Nat) (f : List Age), (∀ t ∈ ts, t > many) → (∀ k ∈ ps, k < f.length) →
    Rest arrows ps (ts.foldl (fun f t => ps.foldl (relax arrows many t) f) f) ∨ cnt ps (ts.foldl (fun f t => ps.foldl (relax arrows many t) f) f) + ts.length ≤ cnt ps f
  | [], f, _, _ => .inr (Nat.le_refl _)
  | t :: r, f, ht, hl => by
    have hr : ∀ t ∈ r, t > many := fun t h => ht t (List.mem_cons_of_mem _ h)
    rcases relaxs_late (arrows := arrows) (ht t List.mem_cons_self) ps f (fun _ h => h) hl with ⟨e, h1⟩ | h1
    · refine .inl ?_
      show Rest arrows ps (r.foldl _ (ps.foldl (relax arrows many t) f))
      rw [e]
      have stay : ∀ (ts : List Nat), ts.foldl (fun f t => ps.foldl (relax arrows many t) f) f = f := by
        intro ts
        induction ts with
        | nil => rfl
        | cons u us ih =>
          show us.foldl _ (ps.foldl (relax arrows many u) f) = f
          rw [relax_rest h1 ps fun _ h => h]
          exact ih
      rw [stay]
      exact h1
    · rcases late_passes r (ps.foldl (relax arrows many t) f) hr (by rw [relaxs_len]; exact hl) with h2 | h2
      · exact .inl h2
      · refine .inr ?_
        show cnt ps (r.foldl _ (ps.foldl (relax arrows many t) f)) + (r.length + 1) ≤ _
        omega
theorem passes_len {ps : List Nat} : ∀ (ts : List Nat) (f : List Age), (ts.foldl (fun f t => ps.foldl (relax arrows many t) f) f).length = f.length
  | [], f => rfl
  | t :: r, f => (passes_len r _).trans (relaxs_len t ps f)
theorem passes_out {ps : List Nat} {k : Nat} (h : k ∉ ps) : ∀ (ts : List Nat) (f : List Age), (ts.foldl (fun f t => ps.foldl (relax arrows many t) f) f).getD k none = f.getD k none
  | [], f => rfl
  | t :: r, f => (passes_out h r _).trans (relaxs_out t ps f k h)
theorem cnt_le (ps : List Nat) (f : List Age) : cnt ps f ≤ ps.length := List.countP_le_length
theorem passes_rest {ps : List Nat} {f : List Age} (hp : ps.length ≤ many) (hl : ∀ k ∈ ps, k < f.length) : Rest arrows ps ((List.range (2 * many + 1)).foldl (fun f t => ps.foldl (relax arrows many t) f) f) := by
  have e : List.range (2 * many + 1) = List.range (many + 1) ++ (List.range many).map (fun i => (many + 1) + i) := by
    rw [show 2 * many + 1 = (many + 1) + many by omega, List.range_add]
  rw [e, List.foldl_append]
  have hl2 : ∀ k ∈ ps, k < ((List.range (many + 1)).foldl (fun f t => ps.foldl (relax arrows many t) f) f).length := by
    rw [passes_len]
    exact hl
  rcases late_passes (arrows := arrows) (many := many) (ps := ps) ((List.range many).map (fun i => (many + 1) + i)) _ (fun t ht => by
    obtain ⟨i, _, rfl⟩ := List.mem_map.mp ht
    omega) hl2 with h | h
  · exact h
  · refine rest_none ?_
    rw [List.length_map, List.length_range] at h
    have := cnt_le ps ((List.range (many + 1)).foldl (fun f t => ps.foldl (relax arrows many t) f) f)
    omega
end

/-! ### the tables -/
section
variable {nodes : List Deed} {arrows : List Arr} {rl : Rl} {G : Nat → Age}
theorem found0_len (tb : List Mark → List Age) (looks : List Mark) : (found0 nodes arrows rl G tb looks).length = nodes.length := by
  unfold found0
  rw [List.length_map, List.length_range]
theorem walked_len (tb : List Mark → List Age) (looks : List Mark) : (walked nodes arrows rl G tb looks).length = nodes.length := by
  unfold walked
  rw [passes_len, found0_len]
theorem passing_lt {f : List Age} {n : Nat} (h : n ∈ passing nodes f) : n < nodes.length := List.mem_range.mp (List.mem_filter.mp h).1
theorem passing_len (f : List Age) : (passing nodes f).length ≤ nodes.length := by
  unfold passing
  exact Nat.le_trans (List.length_filter_le _ _) (by rw [List.length_range]; exact Nat.le_refl _)
theorem walked_settled (tb : List Mark → List Age) (looks : List Mark) {n : Nat} (hn : n < nodes.length) (h : settled nodes arrows rl G tb looks n ≠ some (-1)) :
    (walked nodes arrows rl G tb looks).getD n none = settled nodes arrows rl G tb looks n := by
  have e : (found0 nodes arrows rl G tb looks).getD n none = settled nodes arrows rl G tb looks n := getD_map_range _ _ _ _ hn
  unfold walked
  rw [passes_out, e]
  intro hm
  have h2 := of_decide_eq_true (List.mem_filter.mp hm).2
  rw [e] at h2
  exact h h2
theorem walked_passing (tb : List Mark → List Age) (looks : List Mark) {n : Nat} (hn : n < nodes.length) (h : settled nodes arrows rl G tb looks n = some (-1)) :
    Ge ((walked nodes arrows rl G tb looks).getD n none) (arriving arrows (walked nodes arrows rl G tb looks) n) := by
  have e : (found0 nodes arrows rl G tb looks).getD n none = settled nodes arrows rl G tb looks n := getD_map_range _ _ _ _ hn
  refine not_more ?_
  refine passes_rest (passing_len _) (fun k hk => by rw [found0_len]; exact passing_lt hk) n ?_
  unfold passing
  rw [List.mem_filter]
  exact ⟨List.mem_range.mpr hn, decide_eq_true (e.trans h)⟩
theorem hits_none {d : Deed} {looks : List Mark} (h : nearest rl d looks ≠ none) : ∃ m ∈ looks, (surely rl d).lookup m ≠ none := by
  unfold nearest at h
  cases e : hitsOf rl d looks with
  | nil =>
    rw [e] at h
    exact absurd rfl h
  | cons a r =>
    have h2 : a ∈ hitsOf rl d looks := by
      rw [e]
      exact List.mem_cons_self
    obtain ⟨m, hm, h3⟩ := List.mem_filterMap.mp h2
    exact ⟨m, hm, by rw [h3]; exact fun z => nomatch z⟩
theorem rest_lt {d : Deed} {looks : List Mark} (h : nearest rl d looks ≠ none) : (restOf rl d looks).length < looks.length := by
  obtain ⟨m, hm, h2⟩ := hits_none h
  unfold restOf
  refine Nat.lt_of_le_of_ne (List.length_filter_le _ _) fun e => ?_
  have h3 := (List.filter_eq_self.mp (List.filter_sublist.eq_of_length e)) m hm
  cases e2 : (surely rl d).lookup m with
  | none => exact h2 e2
  | some x =>
    rw [e2] at h3
    cases h3
theorem settled_congr {t1 t2 : List Mark → List Age} {looks : List Mark} (h : ∀ l : List Mark, l ≠ [] → l.length < looks.length → t1 l = t2 l) (n : Nat) : settled nodes arrows rl G t1 looks n = settled nodes arrows rl G t2 looks n := by
  unfold settled
  dsimp only
  cases e : nearest rl (nodes.getD n .read) looks with
  | none => rfl
  | some near =>
    dsimp only
    by_cases e2 : (nodes.getD n .read).makes = true ∨ restOf rl (nodes.getD n .read) looks = []
    · rw [if_pos e2, if_pos e2]
    · have h2 := h (restOf rl (nodes.getD n .read) looks) (fun z => e2 (.inr z)) (rest_lt (by rw [e]; exact fun z => nomatch z))
      rw [h2]
theorem walked_congr {t1 t2 : List Mark → List Age} {looks : List Mark} (h : ∀ l : List Mark, l ≠ [] → l.length < looks.length → t1 l = t2 l) : walked nodes arrows rl G t1 looks = walked nodes arrows rl G t2 looks := by
  have e : found0 nodes arrows rl G t1 looks = found0 nodes arrows rl G t2 looks := by
    unfold found0
    exact List.map_congr_left fun n _ => settled_congr h n
  unfold walked
  rw [e]
theorem tab_stable : ∀ (k : Nat) (looks : List Mark), looks ≠ [] → looks.length ≤ k → tab nodes arrows rl G k looks = T nodes arrows rl G looks
  | 0, looks, hne, h => by
    cases looks with
    | nil => exact absurd rfl hne
    | cons a r => exact absurd h (Nat.not_succ_le_zero _)
  | k + 1, looks, hne, h => by
    cases looks with
    | nil => exact absurd rfl hne
    | cons a r =>
      show walked nodes arrows rl G (tab nodes arrows rl G k) (a :: r) = walked nodes arrows rl G (tab nodes arrows rl G r.length) (a :: r)
      refine walked_congr fun l hl hlt => ?_
      have h1 : l.length ≤ r.length := Nat.le_of_lt_succ hlt
      have h2 : r.length ≤ k := Nat.le_of_succ_le_succ h
      rw [tab_stable k l hl (Nat.le_trans h1 h2)]
      by_cases e : r.length = k
      · subst e
        rw [tab_stable r.length l hl h1]
      · rw [tab_stable r.length l hl h1]
termination_by k => k
decreasing_by all_goals omega
theorem T_eq {looks : List Mark} (h : looks ≠ []) : T nodes arrows rl G looks = walked nodes arrows rl G (T nodes arrows rl G) looks := by
  cases looks with
  | nil => exact absurd rfl h
  | cons a r =>
    show walked nodes arrows rl G (tab nodes arrows rl G r.length) (a :: r) = _
    exact walked_congr fun l hl hlt => tab_stable r.length l hl (Nat.le_of_lt_succ hlt)
theorem T_settled {looks : List Mark} (hl : looks ≠ []) {n : Nat} (hn : n < nodes.length) (h : settled nodes arrows rl G (T nodes arrows rl G) looks n ≠ some (-1)) :
    (T nodes arrows rl G looks).getD n none = settled nodes arrows rl G (T nodes arrows rl G) looks n := by
  rw [T_eq hl]
  exact walked_settled _ _ hn h
theorem T_passing {looks : List Mark} (hl : looks ≠ []) {n : Nat} (hn : n < nodes.length) (h : settled nodes arrows rl G (T nodes arrows rl G) looks n = some (-1)) :
    Ge ((T nodes arrows rl G looks).getD n none) (arriving arrows (T nodes arrows rl G looks) n) := by
  have e := T_eq (nodes := nodes) (arrows := arrows) (rl := rl) (G := G) hl
  have h2 := walked_passing (nodes := nodes) (arrows := arrows) (rl := rl) (G := G) (T nodes arrows rl G) looks hn h
  rw [← e] at h2
  exact h2
end
end AgM
end
section
set_option maxHeartbeats 4000000
/-! AgM2: the bits of reads, lives, and that the tables are upper bounds. -/
namespace AgM

/-! ### bits -/
/-- the bits with each one repeated at the next places, so many in all -/
def smear (bits : Nat) : Nat → Nat
  | 0 => 0
  | n + 1 => smear bits n ||| (bits <<< n)
theorem smear_bit (bits : Nat) : ∀ (n j : Nat), (smear bits n).testBit j = true ↔ ∃ i, i < n ∧ i ≤ j ∧ bits.testBit (j - i) = true
  | 0, j => by
    simp [smear]
  | n + 1, j => by
    show (smear bits n ||| (bits <<< n)).testBit j = true ↔ _
    rw [Nat.testBit_or, Bool.or_eq_true, smear_bit bits n j, Nat.testBit_shiftLeft]
    constructor
    · rintro (⟨i, h1, h2, h3⟩ | h)
      · exact ⟨i, by omega, h2, h3⟩
      · simp at h
        exact ⟨n, by omega, h.1, h.2⟩
    · rintro ⟨i, h1, h2, h3⟩
      by_cases e : i = n
      · subst e
        right
        simp [h2, h3]
      · left
        exact ⟨i, by omega, h2, h3⟩
theorem smear_one (bits : Nat) : smear bits 1 = bits := by
  show 0 ||| (bits <<< 0) = bits
  simp
/-- one turn of the loop: as many again, at most as many as there are -/
theorem smear_step (bits n k : Nat) (h : k ≤ n) : smear bits n ||| (smear bits n <<< k) = smear bits (n + k) := by
  refine Nat.eq_of_testBit_eq fun j => ?_
  rw [Bool.eq_iff_iff, Nat.testBit_or, Bool.or_eq_true, smear_bit, smear_bit, Nat.testBit_shiftLeft]
  constructor
  · rintro (⟨i, h1, h2, h3⟩ | h4)
    · exact ⟨i, by omega, h2, h3⟩
    · simp only [Bool.and_eq_true, decide_eq_true_eq] at h4
      obtain ⟨hk, h5⟩ := h4
      obtain ⟨i, h1, h2, h3⟩ := (smear_bit bits n (j - k)).mp h5
      exact ⟨i + k, by omega, by omega, by rw [show j - (i + k) = j - k - i by omega]; exact h3⟩
  · rintro ⟨i, h1, h2, h3⟩
    by_cases e : i < n
    · left
      exact ⟨i, e, h2, h3⟩
    · right
      simp only [Bool.and_eq_true, decide_eq_true_eq]
      refine ⟨by omega, (smear_bit bits n (j - k)).mpr ⟨i - k, by omega, by omega, ?_⟩⟩
      rw [show j - k - (i - k) = j - i by omega]
      exact h3
def b2n (b : Bool) : Nat := if b = true then 1 else 0
/-- the ages behind a read that comes behind ages -/
def passed (bits : Nat) (l m : Int) (after : Nat) : Nat :=
  if l > (after : Int) then b2n (decide (bits ≠ 0)) else
    let last : Int := if m > (after : Int) then (after : Int) else m
    let spread := smear bits (last - l + 1).toNat <<< l.toNat
    (spread % 2 ^ after) ||| b2n (decide (spread >>> after ≠ 0))
theorem b2n_bit {b : Bool} (h : b = true) : (b2n b).testBit 0 = true := by
  subst h
  rfl
theorem ne_zero_of_bit {x j : Nat} (h : x.testBit j = true) : x ≠ 0 := by
  rintro rfl
  simp at h
theorem passed_bit {bits : Nat} {l m : Int} {after : Nat} {b dt : Nat} (hl : 0 ≤ l) (hb : bits.testBit b = true) (h1 : l ≤ (dt : Int)) (h2 : (dt : Int) ≤ m) :
    (passed bits l m after).testBit (if after ≤ b + dt then 0 else b + dt) = true := by
  unfold passed
  by_cases h : l > (after : Int)
  · rw [if_pos h, if_pos (by omega)]
    exact b2n_bit (decide_eq_true (ne_zero_of_bit hb))
  · rw [if_neg h]
    dsimp only
    obtain ⟨l', rfl⟩ : ∃ l' : Nat, l = (l' : Int) := ⟨l.toNat, by omega⟩
    generalize hlast : (if m > (after : Int) then (after : Int) else m) = last
    have hl2 : (l' : Int) ≤ last := by
      split at hlast <;> omega
    rw [Int.toNat_natCast]
    generalize hn : (last - (l' : Int) + 1).toNat = n
    have key : ∀ d : Nat, (l' : Int) ≤ d → (d : Int) ≤ last → (smear bits n <<< l').testBit (b + d) = true := by
      intro d hd1 hd2
      rw [Nat.testBit_shiftLeft]
      simp only [Bool.and_eq_true, decide_eq_true_eq]
      refine ⟨by omega, (smear_bit _ _ _).mpr ⟨d - l', by omega, by omega, ?_⟩⟩
      rw [show b + d - l' - (d - l') = b by omega]
      exact hb
    generalize hs : smear bits n <<< l' = spread at key ⊢
    rw [Nat.testBit_or, Bool.or_eq_true]
    by_cases ha : after ≤ b + dt
    · rw [if_pos ha]
      right
      refine b2n_bit (decide_eq_true ?_)
      by_cases hm : (dt : Int) ≤ last
      · have k := key dt h1 hm
        refine ne_zero_of_bit (j := b + dt - after) ?_
        rw [Nat.testBit_shiftRight, show after + (b + dt - after) = b + dt by omega]
        exact k
      · have hlast2 : last = (after : Int) := by
          split at hlast <;> omega
        have k := key after (by omega) (by omega)
        refine ne_zero_of_bit (j := b) ?_
        rw [Nat.testBit_shiftRight, show after + b = b + after by omega]
        exact k
    · rw [if_neg ha]
      left
      have hm : (dt : Int) ≤ last := by
        split at hlast <;> omega
      rw [Nat.testBit_mod_two_pow]
      simp only [Bool.and_eq_true, decide_eq_true_eq]
      exact ⟨by omega, key dt h1 hm⟩
theorem passed_lt {bits : Nat} {l m : Int} {after : Nat} (ha : 1 ≤ after) : passed bits l m after < 2 ^ after := by
  have h2 : 1 < 2 ^ after := Nat.one_lt_two_pow (by omega)
  have hb : ∀ b : Bool, b2n b < 2 ^ after := fun b => by
    unfold b2n
    split <;> omega
  unfold passed
  split
  · exact hb _
  · exact Nat.or_lt_two_pow (Nat.mod_lt _ (by omega)) (hb _)

/-- one arrow's part -/
def bitStep (nodes : List Deed) (after : Nat) (bits : List Nat) (found : Nat) (a : Arr) : Nat :=
  if nodes.getD a.s .read ≠ .read then found ||| 1 else found ||| passed (bits.getD a.s 0) a.l a.m after
def nextBits (nodes : List Deed) (arrows : List Arr) (after : Nat) (bits : List Nat) (n : Nat) : Nat := (into arrows n).foldl (bitStep nodes after bits) (bits.getD n 0)
def readsOf (nodes : List Deed) : List Nat := (List.range nodes.length).filter fun n => decide (nodes.getD n .make = .read)
def bitTurn (nodes : List Deed) (arrows : List Arr) (after : Nat) (bits : List Nat) (n : Nat) : List Nat := bits.set n (nextBits nodes arrows after bits n)
def bitPass (nodes : List Deed) (arrows : List Arr) (after : Nat) (bits : List Nat) : List Nat := (readsOf nodes).foldl (bitTurn nodes arrows after) bits
def iter {α : Type} (f : α → α) : Nat → α → α
  | 0, x => x
  | n + 1, x => f (iter f n x)
def zeros (n : Nat) : List Nat := (List.range n).map fun _ => 0
/-- what the loop comes to -/
def IsBits (nodes : List Deed) (arrows : List Arr) (after : Nat) (r : List Nat) : Prop := ∃ n, r = iter (bitPass nodes arrows after) n (zeros nodes.length) ∧ bitPass nodes arrows after r = r
theorem iter_add {α : Type} (f : α → α) (m : Nat) : ∀ (n : Nat) (x : α), iter f (m + n) x = iter f m (iter f n x)
  | n, x => by
    induction m with
    | zero =>
      show iter f (0 + n) x = iter f n x
      rw [Nat.zero_add]
    | succ k ih =>
      show iter f (k + 1 + n) x = f (iter f k (iter f n x))
      rw [show k + 1 + n = (k + n) + 1 by omega]
      show f (iter f (k + n) x) = _
      rw [ih]
theorem iter_fix {α : Type} (f : α → α) {x : α} (h : f x = x) : ∀ n, iter f n x = x
  | 0 => rfl
  | n + 1 => by
    show f (iter f n x) = x
    rw [iter_fix f h n, h]
theorem IsBits.one {nodes : List Deed} {arrows : List Arr} {after : Nat} {r s : List Nat} (h : IsBits nodes arrows after r) (h2 : IsBits nodes arrows after s) : r = s := by
  obtain ⟨n, e, f⟩ := h
  obtain ⟨m, e2, f2⟩ := h2
  rcases Nat.le_total n m with hle | hle
  · obtain ⟨d, rfl⟩ : ∃ d, m = d + n := ⟨m - n, by omega⟩
    rw [e2, iter_add, ← e, iter_fix _ f]
  · obtain ⟨d, rfl⟩ : ∃ d, n = d + m := ⟨n - m, by omega⟩
    rw [e, iter_add, ← e2, iter_fix _ f2]
section
variable {nodes : List Deed} {arrows : List Arr} {after : Nat}
theorem bitStep_ge (bits : List Nat) (f : Nat) (a : Arr) : f ≤ bitStep nodes after bits f a ∧ ∀ j, f.testBit j = true → (bitStep nodes after bits f a).testBit j = true := by
  unfold bitStep
  split
  · exact ⟨Nat.left_le_or, fun j h => by rw [Nat.testBit_or, h]; rfl⟩
  · exact ⟨Nat.left_le_or, fun j h => by rw [Nat.testBit_or, h]; rfl⟩
theorem bits_ge (bits : List Nat) : ∀ (l : List Arr) (f : Nat), f ≤ l.foldl (bitStep nodes after bits) f ∧ ∀ j, f.testBit j = true → (l.foldl (bitStep nodes after bits) f).testBit j = true
  | [], f => ⟨Nat.le_refl _, fun _ h => h⟩
  | a :: r, f => by
    have h1 := bitStep_ge (nodes := nodes) (after := after) bits f a
    have h2 := bits_ge bits r (bitStep nodes after bits f a)
    exact ⟨Nat.le_trans h1.1 h2.1, fun j h => h2.2 j (h1.2 j h)⟩
theorem bits_in (bits : List Nat) : ∀ (l : List Arr) (f : Nat) (a : Arr), a ∈ l →
    ∀ j, (if nodes.getD a.s .read ≠ .read then j = 0 else (passed (bits.getD a.s 0) a.l a.m after).testBit j = true) → (l.foldl (bitStep nodes after bits) f).testBit j = true
  | [], f, a, h, _, _ => by cases h
  | b :: r, f, a, h, j, hj => by
    rcases List.mem_cons.mp h with e | h
    · subst e
      refine (bits_ge bits r (bitStep nodes after bits f a)).2 j ?_
      unfold bitStep
      split at hj
      · rename_i h1
        rw [if_pos h1, Nat.testBit_or, hj]
        simp
      · rename_i h1
        rw [if_neg h1, Nat.testBit_or, hj]
        simp
    · exact bits_in bits r _ a h j hj
theorem nextBits_in {bits : List Nat} {n : Nat} {a : Arr} (h : a ∈ arrows) (hg : a.g = n) (hw : a.w ≠ .anew) {j : Nat} (hj : if nodes.getD a.s .read ≠ .read then j = 0 else (passed (bits.getD a.s 0) a.l a.m after).testBit j = true) :
    (nextBits nodes arrows after bits n).testBit j = true := by
  refine bits_in bits _ _ a ?_ j hj
  unfold into
  rw [List.mem_filter]
  exact ⟨h, by simp [hg, hw]⟩
theorem bits_lt (ha : 1 ≤ after) (bits : List Nat) : ∀ (l : List Arr) (f : Nat), f < 2 ^ after → l.foldl (bitStep nodes after bits) f < 2 ^ after
  | [], f, h => h
  | a :: r, f, h => by
    refine bits_lt ha bits r _ ?_
    unfold bitStep
    have h2 : 1 < 2 ^ after := Nat.one_lt_two_pow (by omega)
    split
    · exact Nat.or_lt_two_pow h h2
    · exact Nat.or_lt_two_pow h (passed_lt ha)
/-- all below a bound -/
def AllLt (bits : List Nat) (B : Nat) : Prop := ∀ n, bits.getD n 0 < B
theorem bitTurn_lt (ha : 1 ≤ after) {bits : List Nat} (h : AllLt bits (2 ^ after)) (n : Nat) : AllLt (bitTurn nodes arrows after bits n) (2 ^ after) := fun k => by
  unfold bitTurn
  rw [getD_set]
  split
  · exact bits_lt ha bits _ _ (h n)
  · exact h k
theorem bitTurns_lt (ha : 1 ≤ after) : ∀ (l : List Nat) {bits : List Nat}, AllLt bits (2 ^ after) → AllLt (l.foldl (bitTurn nodes arrows after) bits) (2 ^ after)
  | [], _, h => h
  | n :: r, _, h => bitTurns_lt ha r (bitTurn_lt ha h n)
theorem bitTurn_len (bits : List Nat) (n : Nat) : (bitTurn nodes arrows after bits n).length = bits.length := by
  unfold bitTurn
  rw [List.length_set]
theorem bitTurns_len : ∀ (l : List Nat) (bits : List Nat), (l.foldl (bitTurn nodes arrows after) bits).length = bits.length
  | [], _ => rfl
  | n :: r, bits => (bitTurns_len r _).trans (bitTurn_len bits n)
theorem bitPass_len (bits : List Nat) : (bitPass nodes arrows after bits).length = bits.length := bitTurns_len _ _
theorem iter_len (k : Nat) (bits : List Nat) : (iter (bitPass nodes arrows after) k bits).length = bits.length := by
  induction k with
  | zero => rfl
  | succ n ih => exact (bitPass_len _).trans ih
theorem iter_lt (ha : 1 ≤ after) {bits : List Nat} (h : AllLt bits (2 ^ after)) (k : Nat) : AllLt (iter (bitPass nodes arrows after) k bits) (2 ^ after) := by
  induction k with
  | zero => exact h
  | succ n ih => exact bitTurns_lt ha _ ih
theorem zeros_lt (n after : Nat) : AllLt (zeros n) (2 ^ after) := fun k => by
  have h : (zeros n).getD k 0 = 0 := by
    unfold zeros
    rw [List.getD_eq_getElem?_getD, List.getElem?_map]
    cases (List.range n)[k]? <;> rfl
  rw [h]
  exact Nat.two_pow_pos after
theorem sum_set_nat : ∀ {l : List Nat} {n v : Nat}, n < l.length → l.getD n 0 ≤ v → (l.set n v).sum + l.getD n 0 = l.sum + v
  | [], n, v, h, _ => absurd h (Nat.not_lt_zero _)
  | a :: r, 0, v, h, h2 => by
    show v + r.sum + a = a + r.sum + v
    omega
  | a :: r, n + 1, v, h, h2 => by
    have h3 : n < r.length := Nat.lt_of_succ_lt_succ h
    have h4 : (a :: r).getD (n + 1) 0 = r.getD n 0 := rfl
    rw [h4] at h2 ⊢
    have ih := sum_set_nat h3 h2
    show a + (r.set n v).sum + r.getD n 0 = a + r.sum + v
    omega
theorem set_same {l : List Nat} {n : Nat} (h : n < l.length) : l.set n (l.getD n 0) = l := by
  refine List.ext_getElem? fun i => ?_
  rw [List.getElem?_set]
  split
  · rename_i e
    subst e
    rw [List.getD_eq_getElem?_getD, List.getElem?_eq_getElem h]
    rfl
  · rfl
/-- a turn: nothing, or more -/
theorem bitTurn_sum {bits : List Nat} {n : Nat} (h : n < bits.length) : (nextBits nodes arrows after bits n = bits.getD n 0 ∧ bitTurn nodes arrows after bits n = bits) ∨
    (nextBits nodes arrows after bits n ≠ bits.getD n 0 ∧ bits.sum < (bitTurn nodes arrows after bits n).sum) := by
  have hge := (bits_ge (nodes := nodes) (after := after) bits (into arrows n) (bits.getD n 0)).1
  by_cases e : nextBits nodes arrows after bits n = bits.getD n 0
  · refine .inl ⟨e, ?_⟩
    unfold bitTurn
    rw [e]
    exact set_same h
  · refine .inr ⟨e, ?_⟩
    have h2 := sum_set_nat (v := nextBits nodes arrows after bits n) h hge
    have h3 : bits.getD n 0 ≤ nextBits nodes arrows after bits n := hge
    unfold bitTurn
    omega
theorem bitTurns_sum : ∀ (l : List Nat) (bits : List Nat), (∀ n ∈ l, n < bits.length) →
    ((l.foldl (bitTurn nodes arrows after) bits = bits ∧ ∀ n ∈ l, nextBits nodes arrows after bits n = bits.getD n 0) ∨ bits.sum < (l.foldl (bitTurn nodes arrows after) bits).sum)
  | [], bits, _ => .inl ⟨rfl, fun n h => by cases h⟩
  | n :: r, bits, hl => by
    have hr : ∀ k ∈ r, k < (bitTurn nodes arrows after bits n).length := fun k hk => by
      rw [bitTurn_len]
      exact hl k (List.mem_cons_of_mem _ hk)
    rcases bitTurn_sum (nodes := nodes) (arrows := arrows) (after := after) (hl n List.mem_cons_self) with ⟨e, e1⟩ | ⟨_, h1⟩
    · rcases bitTurns_sum r bits (fun k hk => hl k (List.mem_cons_of_mem _ hk)) with ⟨e2, h2⟩ | h2
      · refine .inl ⟨?_, fun k hk => ?_⟩
        · show r.foldl (bitTurn nodes arrows after) (bitTurn nodes arrows after bits n) = bits
          rw [e1]
          exact e2
        · rcases List.mem_cons.mp hk with z | z
          · rw [z]
            exact e
          · exact h2 k z
      · refine .inr ?_
        show bits.sum < (r.foldl (bitTurn nodes arrows after) (bitTurn nodes arrows after bits n)).sum
        rw [e1]
        exact h2
    · refine .inr ?_
      show bits.sum < (r.foldl (bitTurn nodes arrows after) (bitTurn nodes arrows after bits n)).sum
      rcases bitTurns_sum r _ hr with ⟨e2, _⟩ | h2
      · rw [e2]
        exact h1
      · exact Nat.lt_trans h1 h2
theorem readsOf_lt {n : Nat} (h : n ∈ readsOf nodes) : n < nodes.length := List.mem_range.mp (List.mem_filter.mp h).1
theorem readsOf_in {n : Nat} (h : n < nodes.length) (hd : nodes.getD n .make = .read) : n ∈ readsOf nodes := by
  unfold readsOf
  rw [List.mem_filter]
  exact ⟨List.mem_range.mpr h, decide_eq_true hd⟩
theorem pass_fix {bits : List Nat} (hl : bits.length = nodes.length) (h : bitPass nodes arrows after bits = bits) {n : Nat} (hn : n ∈ readsOf nodes) : nextBits nodes arrows after bits n = bits.getD n 0 := by
  rcases bitTurns_sum (nodes := nodes) (arrows := arrows) (after := after) (readsOf nodes) bits (fun k hk => by rw [hl]; exact readsOf_lt hk) with ⟨_, h2⟩ | h2
  · exact h2 n hn
  · have e : (readsOf nodes).foldl (bitTurn nodes arrows after) bits = bits := h
    rw [e] at h2
    exact absurd h2 (Nat.lt_irrefl _)
theorem IsBits.len {r : List Nat} (h : IsBits nodes arrows after r) : r.length = nodes.length := by
  obtain ⟨n, e, _⟩ := h
  rw [e, iter_len]
  unfold zeros
  rw [List.length_map, List.length_range]
theorem IsBits.lt {r : List Nat} (ha : 1 ≤ after) (h : IsBits nodes arrows after r) : AllLt r (2 ^ after) := by
  obtain ⟨n, e, _⟩ := h
  rw [e]
  exact iter_lt ha (zeros_lt _ _) n
end
/-- the greatest age that bits tell -/
def topBit (b : Nat) : Age := if b = 0 then none else some (b.log2 : Int)
theorem topBit_ge {b j : Nat} (h : b.testBit j = true) : Ge (topBit b) (some (j : Int)) := by
  have h0 : b ≠ 0 := ne_zero_of_bit h
  unfold topBit
  rw [if_neg h0]
  refine .inr ⟨_, _, rfl, rfl, ?_⟩
  have h2 : 2 ^ j ≤ b := Nat.ge_two_pow_of_testBit h
  have h3 := (Nat.le_log2 h0).mpr h2
  omega
end AgM
end
section
set_option maxHeartbeats 4000000
/-! AgM3: lives, and that the tables are upper bounds of ages. -/
namespace AgM
section
variable {nodes : List Deed} {arrows : List Arr} {rl : Rl}

/-- a state behind a step of a row: the node, the moment, the marks -/
inductive Lf (nodes : List Deed) (arrows : List Arr) (rl : Rl) : Nat → Int → Tb → Prop
  | make {n : Nat} {d : Deed} (t : Int) (tb : Tb) : nodes[n]? = some d → d.makes = true → Lf nodes arrows rl n t (doDeed rl d t tb)
  | step {n : Nat} {t t2 : Int} {tb : Tb} {a : Arr} {d : Deed} : Lf nodes arrows rl n t tb → a ∈ arrows → a.s = n → a.w ≠ .anew → nodes[a.g]? = some d → d.makes = false → a.l ≤ t2 - t → t2 - t ≤ a.m →
      Lf nodes arrows rl a.g t2 (doDeed rl d t2 tb)

theorem lookup_set (rl : Rl) (d : Deed) (t : Int) (m : Mark) : ∀ (st : List (Mark × Int)) (tb : Tb), (st.map (·.1)).Nodup → (setAll tb t st).get m = match st.lookup m with | some b => t - b | none => tb.get m
  | [], tb, _ => rfl
  | (k, b) :: r, tb, h => by
    have h2 : k ∉ r.map (·.1) ∧ (r.map (·.1)).Nodup := List.nodup_cons.mp h
    show (setAll (tb.put k (t - b)) t r).get m = _
    rw [lookup_set rl d t m r _ h2.2, List.lookup_cons]
    by_cases e : m = k
    · subst e
      have e2 : r.lookup m = none := by
        cases q : r.lookup m with
        | none => rfl
        | some x =>
          exfalso
          have : ∀ l : List (Mark × Int), l.lookup m = some x → m ∈ l.map (·.1) := by
            intro l
            induction l with
            | nil => intro z; cases z
            | cons p l ih =>
              obtain ⟨a, c⟩ := p
              intro z
              rw [List.lookup_cons] at z
              by_cases e3 : m = a
              · rw [e3]
                exact List.mem_cons_self
              · have : (m == a) = false := by simp [e3]
                rw [this] at z
                exact List.mem_cons_of_mem _ (ih z)
          exact h2.1 (this r q)
      rw [e2]
      simp [Tb.get_put]
    · have : (m == k) = false := by simp [e]
      rw [this]
      simp only [Tb.get_put, if_neg e]
theorem backs_nodup (d : Deed) : (d.backs.map (·.1)).Nodup := by
  cases d <;> simp [Deed.backs]
theorem setting_nodup (rl : Rl) (d : Deed) (tb : Tb) (t : Int) : ((settingOf rl d tb t).map (·.1)).Nodup := by
  unfold settingOf
  split
  · decide
  · exact backs_nodup d
/-- a mark behind a deed -/
theorem do_get (rl : Rl) (d : Deed) (t : Int) (tb : Tb) (m : Mark) : (doDeed rl d t tb).get m = match (settingOf rl d tb t).lookup m with | some b => t - b | none => tb.get m :=
  lookup_set rl d t m _ _ (setting_nodup rl d tb t)
theorem backs_nn {d : Deed} (hd : d.ok) : ∀ p ∈ d.backs, 0 ≤ p.2 := by
  cases d <;> simp [Deed.backs, Deed.ok] at hd ⊢ <;> omega
theorem lookup_mem {m : Mark} {x : Int} : ∀ {l : List (Mark × Int)}, l.lookup m = some x → (m, x) ∈ l
  | [], z => by cases z
  | (a, c) :: l, z => by
    rw [List.lookup_cons] at z
    by_cases e3 : m = a
    · subst e3
      simp at z
      subst z
      exact List.mem_cons_self
    · have : (m == a) = false := by simp [e3]
      rw [this] at z
      exact List.mem_cons_of_mem _ (lookup_mem z)
theorem setting_nn {d : Deed} (hd : d.ok) {tb : Tb} {t : Int} {m : Mark} {b : Int} (h : (settingOf rl d tb t).lookup m = some b) : 0 ≤ b := by
  have h2 := lookup_mem h
  unfold settingOf at h2
  split at h2
  · simp at h2
    omega
  · exact backs_nn hd _ h2
/-- what a deed surely sets, it sets -/
theorem surely_set {d : Deed} {tb : Tb} {t : Int} {m : Mark} {b : Int} (h : (surely rl d).lookup m = some b) : (settingOf rl d tb t).lookup m = some b := by
  unfold surely at h
  unfold settingOf
  split at h
  · rename_i e
    subst e
    split at h
    · rename_i e2
      subst e2
      rw [if_pos ⟨rfl, rfl⟩]
      exact h
    · cases h
  · rename_i e
    rw [if_neg fun z => e z.1]
    exact h
/-- what it does not surely set stays, but for a read under a seldom rule -/
theorem surely_not {d : Deed} {tb : Tb} {t : Int} {m : Mark} (h : (surely rl d).lookup m = none) (hm : ¬ (d = .read ∧ m = .read ∧ ∃ k, rl = .seldom k)) : (settingOf rl d tb t).lookup m = none := by
  unfold surely at h
  unfold settingOf
  split at h
  · rename_i e
    subst e
    by_cases e3 : sets rl tb t = true
    · rw [if_pos ⟨rfl, e3⟩]
      split at h
      · exact h
      · rename_i e2
        rw [List.lookup_cons]
        cases m with
        | read =>
          exfalso
          cases rl with
          | always => exact e2 rfl
          | never => cases e3
          | seldom k => exact hm ⟨rfl, rfl, k, rfl⟩
        | written => rfl
        | changed => rfl
    · rw [if_neg fun z => e3 z.2]
      rfl
  · rename_i e
    rw [if_neg fun z => e z.1]
    exact h

/-! ### what holds behind each step -/
def Old (nodes : List Deed) (arrows : List Arr) (rl : Rl) (G : Nat → Age) (n : Nat) (t : Int) (tb : Tb) : Prop :=
  ∀ looks : List Mark, looks ≠ [] → (T nodes arrows rl G looks).getD n none = none ∨ ∃ x, (T nodes arrows rl G looks).getD n none = some x ∧ ∃ m ∈ looks, t - tb.get m ≤ x
structure Good (nodes : List Deed) (arrows : List Arr) (rl : Rl) (G : Nat → Age) (bits : List Nat) (n : Nat) (t : Int) (tb : Tb) : Prop where
  lt : n < nodes.length
  le : ∀ m, tb.get m ≤ t
  ch : nodes.getD n .make ≠ .read → tb.c = t
  rd : nodes.getD n .make = .read → ∀ k, rl = .seldom k → tb.w < tb.r ∧ tb.c < tb.r ∧ ∃ b : Nat, t - tb.r = (b : Int) ∧ (bits.getD n 0).testBit b = true
  old : Old nodes arrows rl G n t tb

variable {G : Nat → Age} {bits : List Nat}
/-- the rule's own part: what the bits of reads mean -/
structure Env (nodes : List Deed) (arrows : List Arr) (rl : Rl) (G : Nat → Age) (bits : List Nat) : Prop where
  nok : ∀ d ∈ nodes, d.ok
  aok : ∀ a ∈ arrows, 1 ≤ a.l ∧ a.l ≤ a.m ∧ a.s < nodes.length ∧ a.g < nodes.length
  seld : ∀ k, rl = .seldom k → 1 ≤ k ∧ IsBits nodes arrows k bits ∧ ∀ n, G n = topBit (bits.getD n 0)

theorem getD_of {α : Type} {l : List α} {n : Nat} {x : α} (h : l[n]? = some x) (d : α) : l.getD n d = x := by
  rw [List.getD_eq_getElem?_getD, h]
  rfl
theorem lt_of_get {α : Type} {l : List α} {n : Nat} {x : α} (h : l[n]? = some x) : n < l.length := (List.getElem?_eq_some_iff.mp h).1
theorem Old.ge {n : Nat} {t : Int} {tb : Tb} {looks : List Mark} (hl : looks ≠ []) (hle : ∀ m, tb.get m ≤ t) (h : Old nodes arrows rl G n t tb) : (T nodes arrows rl G looks).getD n none ≠ some (-1) := by
  rcases h looks hl with e | ⟨x, e, m, _, hx⟩
  · rw [e]
    exact fun z => nomatch z
  · rw [e]
    have := hle m
    intro z
    injection z with z
    omega
/-- an age is come to by an arrow -/
theorem come {n : Nat} {t t2 : Int} {tb : Tb} {a : Arr} {looks : List Mark} (hl : looks ≠ []) (h1 : 1 ≤ t2 - t) (hle : ∀ m, tb.get m ≤ t) (h : Old nodes arrows rl G n t tb) (ha : a ∈ arrows) (hs : a.s = n) (hw : a.w ≠ .anew) (hm : t2 - t ≤ a.m) :
    arriving arrows (T nodes arrows rl G looks) a.g = none ∨ ∃ y, arriving arrows (T nodes arrows rl G looks) a.g = some y ∧ 0 ≤ y ∧ ∃ m ∈ looks, t2 - tb.get m ≤ y := by
  have hn := Old.ge hl hle h
  rw [← hs] at hn
  have k := arriving_in ha rfl hw hn
  rcases h looks hl with e | ⟨x, e, m, hmm, hx⟩
  · rw [hs, e] at k
    rcases k with k | ⟨y, z, k, k2, _⟩
    · exact .inl k
    · cases k2
  · rw [hs, e] at k
    rcases k with k | ⟨y, z, k, k2, k3⟩
    · exact .inl k
    · injection k2 with k2
      have := hle m
      refine .inr ⟨y, k, by omega, m, hmm, by omega⟩
theorem minOf_mem : ∀ (a : Int) (r : List Int), minOf (a :: r) ∈ a :: r
  | a, [] => List.mem_cons_self
  | a, b :: r => by
    show (if a ≤ minOf (b :: r) then a else minOf (b :: r)) ∈ _
    split
    · exact List.mem_cons_self
    · exact List.mem_cons_of_mem _ (minOf_mem b r)
theorem nearest_in {d : Deed} {looks : List Mark} {x : Int} (h : nearest rl d looks = some x) : ∃ m ∈ looks, (surely rl d).lookup m = some x := by
  unfold nearest at h
  cases e : hitsOf rl d looks with
  | nil =>
    rw [e] at h
    cases h
  | cons a r =>
    rw [e] at h
    injection h with h
    have h2 : x ∈ hitsOf rl d looks := by
      rw [e, ← h]
      exact minOf_mem a r
    obtain ⟨m, hm, h3⟩ := List.mem_filterMap.mp h2
    exact ⟨m, hm, h3⟩
theorem surely_nn {d : Deed} (hd : d.ok) {m : Mark} {b : Int} (h : (surely rl d).lookup m = some b) : 0 ≤ b := setting_nn (rl := rl) (tb := ⟨0, 0, 0⟩) (t := 0) hd (surely_set h)
theorem makes_all {d : Deed} (h : d.makes = true) (m : Mark) : ∃ b, (surely rl d).lookup m = some b := by
  cases d <;> cases h <;> cases m <;> exact ⟨_, rfl⟩
theorem told_iff {d : Deed} {looks : List Mark} : isTold rl d looks = true ↔ (∃ k, rl = .seldom k) ∧ d = .read ∧ Mark.read ∈ looks := by
  unfold isTold
  cases rl with
  | always => simp
  | never => simp
  | seldom k => simp
/-- behind a deed: the tables hold again. old0: the marks ahead; hc: what arrives -/
theorem old_do {n : Nat} {d : Deed} {t : Int} {tb : Tb} (E : Env nodes arrows rl G bits) (hd : nodes[n]? = some d)
    (hc : d.makes = false → ∀ looks : List Mark, looks ≠ [] → arriving arrows (T nodes arrows rl G looks) n = none ∨ ∃ y, arriving arrows (T nodes arrows rl G looks) n = some y ∧ 0 ≤ y ∧ ∃ m ∈ looks, t - tb.get m ≤ y)
    (hr : d = .read → ∀ k, rl = .seldom k → ∃ b : Nat, t - (doDeed rl d t tb).r = (b : Int) ∧ (bits.getD n 0).testBit b = true) : Old nodes arrows rl G n t (doDeed rl d t tb) := by
  intro looks hl
  have hn := lt_of_get hd
  have ed : nodes.getD n .read = d := getD_of hd _
  have hok : d.ok := E.nok d (List.mem_of_getElem? hd)
  have stay : ∀ m, (surely rl d).lookup m = none → ¬ (d = .read ∧ m = .read ∧ ∃ k, rl = .seldom k) → (doDeed rl d t tb).get m = tb.get m := fun m h1 h2 => by
    rw [do_get, surely_not h1 h2]
  have is : ∀ m b, (surely rl d).lookup m = some b → (doDeed rl d t tb).get m = t - b := fun m b h1 => by
    rw [do_get, surely_set h1]
  by_cases ht : isTold rl d looks = true
  · obtain ⟨⟨k, ek⟩, e1, e2⟩ := told_iff.mp ht
    obtain ⟨b, hb, hbit⟩ := hr e1 k ek
    have es : settled nodes arrows rl G (T nodes arrows rl G) looks n = G n := by
      unfold settled
      dsimp only
      rw [ed, if_pos ht]
    have hG : Ge (G n) (some (b : Int)) := by
      rw [(E.seld k ek).2.2 n]
      exact topBit_ge hbit
    have hne : settled nodes arrows rl G (T nodes arrows rl G) looks n ≠ some (-1) := by
      rw [es]
      rcases hG with z | ⟨y, x, z, z2, z3⟩
      · rw [z]
        exact fun q => nomatch q
      · rw [z]
        injection z2 with z2
        intro q
        injection q with q
        omega
    rw [T_settled hl hn hne, es]
    rcases hG with z | ⟨y, x, z, z2, z3⟩
    · exact .inl z
    · injection z2 with z2
      refine .inr ⟨y, z, .read, e2, ?_⟩
      show t - (doDeed rl d t tb).r ≤ y
      omega
  · have nt : ∀ m ∈ looks, ¬ (d = .read ∧ m = .read ∧ ∃ k, rl = .seldom k) := fun m hm z => ht (told_iff.mpr ⟨z.2.2, z.1, by rw [← z.2.1]; exact hm⟩)
    cases en : nearest rl d looks with
    | none =>
      have es : settled nodes arrows rl G (T nodes arrows rl G) looks n = some (-1) := by
        unfold settled
        dsimp only
        rw [ed, if_neg ht, en]
      have hno : ∀ m ∈ looks, (surely rl d).lookup m = none := fun m hm => by
        cases q : (surely rl d).lookup m with
        | none => rfl
        | some x =>
          exfalso
          have : x ∈ hitsOf rl d looks := List.mem_filterMap.mpr ⟨m, hm, q⟩
          unfold nearest at en
          cases e2 : hitsOf rl d looks with
          | nil =>
            rw [e2] at this
            cases this
          | cons a r =>
            rw [e2] at en
            cases en
      have hmk : d.makes = false := by
        cases q : d.makes with
        | false => rfl
        | true =>
          exfalso
          cases looks with
          | nil => exact hl rfl
          | cons m r =>
            obtain ⟨b, hb⟩ := makes_all (rl := rl) q m
            rw [hno m List.mem_cons_self] at hb
            cases hb
      have k := T_passing hl hn es
      rcases k with k | ⟨y, x, k, k2, k3⟩
      · exact .inl k
      · rcases hc hmk looks hl with z | ⟨y2, z, _, m, hm, hx⟩
        · rw [z] at k2
          cases k2
        · rw [z] at k2
          injection k2 with k2
          refine .inr ⟨y, k, m, hm, ?_⟩
          rw [stay m (hno m hm) (nt m hm)]
          omega
    | some near =>
      obtain ⟨m0, hm0, hs0⟩ := nearest_in en
      have hnn := surely_nn hok hs0
      have near_ok : ∀ x : Int, x = near → t - (doDeed rl d t tb).get m0 ≤ x := fun x e => by
        rw [is m0 near hs0, e]
        omega
      by_cases e2 : d.makes = true ∨ restOf rl d looks = []
      · have es : settled nodes arrows rl G (T nodes arrows rl G) looks n = some near := by
          unfold settled
          dsimp only
          rw [ed, if_neg ht, en]
          dsimp only
          rw [if_pos e2]
        have hne : settled nodes arrows rl G (T nodes arrows rl G) looks n ≠ some (-1) := by
          rw [es]
          intro q
          injection q with q
          omega
        rw [T_settled hl hn hne, es]
        exact .inr ⟨near, rfl, m0, hm0, near_ok near rfl⟩
      · have hmk : d.makes = false := by
          cases q : d.makes with
          | false => rfl
          | true => exact absurd (.inl q) e2
        have hrest : restOf rl d looks ≠ [] := fun z => e2 (.inr z)
        have es : settled nodes arrows rl G (T nodes arrows rl G) looks n = pickOld near (arriving arrows (T nodes arrows rl G (restOf rl d looks)) n) := by
          unfold settled
          dsimp only
          rw [ed, if_neg ht, en]
          dsimp only
          rw [if_neg e2]
        rcases hc hmk _ hrest with z | ⟨y, z, hy0, m, hm, hx⟩
        · rw [z] at es
          unfold pickOld at es
          have hne : settled nodes arrows rl G (T nodes arrows rl G) looks n ≠ some (-1) := by
            rw [es]
            intro q
            injection q with q
            omega
          rw [T_settled hl hn hne, es]
          exact .inr ⟨near, rfl, m0, hm0, near_ok near rfl⟩
        · rw [z] at es
          unfold pickOld at es
          dsimp only at es
          obtain ⟨hm1, hm2⟩ := List.mem_filter.mp hm
          have hno : (surely rl d).lookup m = none := by
            cases q : (surely rl d).lookup m with
            | none => rfl
            | some x =>
              rw [q] at hm2
              cases hm2
          have hst := stay m hno (nt m hm1)
          by_cases hy : y > near
          · rw [if_pos hy] at es
            have hne : settled nodes arrows rl G (T nodes arrows rl G) looks n ≠ some (-1) := by
              rw [es]
              intro q
              injection q with q
              omega
            rw [T_settled hl hn hne, es]
            exact .inr ⟨near, rfl, m0, hm0, near_ok near rfl⟩
          · rw [if_neg hy] at es
            have hne : settled nodes arrows rl G (T nodes arrows rl G) looks n ≠ some (-1) := by
              rw [es]
              intro q
              injection q with q
              omega
            rw [T_settled hl hn hne, es]
            exact .inr ⟨y, rfl, m, hm1, by rw [hst]; exact hx⟩
theorem do_le {d : Deed} {t : Int} {tb : Tb} (hok : d.ok) (hle : ∀ m, tb.get m ≤ t ∨ ∃ b, (settingOf rl d tb t).lookup m = some b) (m : Mark) : (doDeed rl d t tb).get m ≤ t := by
  rw [do_get]
  cases e : (settingOf rl d tb t).lookup m with
  | some b =>
    have := setting_nn hok e
    show t - b ≤ t
    omega
  | none =>
    rcases hle m with h | ⟨b, h⟩
    · exact h
    · rw [e] at h
      cases h
theorem do_ch {d : Deed} {t : Int} {tb : Tb} (h : d ≠ .read) : (doDeed rl d t tb).c = t := by
  have h2 := do_get rl d t tb .changed
  unfold settingOf at h2
  rw [if_neg fun z => h z.1] at h2
  have e : d.backs.lookup .changed = some 0 := by
    cases d <;> first | rfl | exact absurd rfl h
  rw [e] at h2
  have h3 : (doDeed rl d t tb).get .changed = t - 0 := h2
  show (doDeed rl d t tb).get .changed = t
  omega
theorem good {n : Nat} {t : Int} {tb : Tb} (E : Env nodes arrows rl G bits) (h : Lf nodes arrows rl n t tb) : Good nodes arrows rl G bits n t tb := by
  induction h with
  | @make n d t tb hd hmk =>
    have hok : d.ok := E.nok d (List.mem_of_getElem? hd)
    have hnr : d ≠ .read := fun z => by
      rw [z] at hmk
      cases hmk
    have e1 : nodes.getD n .make = d := getD_of hd _
    refine ⟨lt_of_get hd, fun m => do_le hok (fun m => .inr ?_) m, fun _ => do_ch hnr, fun z => absurd (e1.symm.trans z) hnr, old_do E hd (fun z => ?_) fun z => absurd z hnr⟩
    · obtain ⟨b, hb⟩ := makes_all (rl := rl) hmk m
      exact ⟨b, surely_set hb⟩
    · rw [hmk] at z
      cases z
  | @step n t t2 tb a d hL ha hs hw hd hmk h1 h2 ih =>
    have hok : d.ok := E.nok d (List.mem_of_getElem? hd)
    obtain ⟨hl1, hlm, _, _⟩ := E.aok a ha
    have e1 : nodes.getD a.g .make = d := getD_of hd _
    have hle2 : ∀ m, tb.get m ≤ t2 := fun m => by
      have := ih.le m
      omega
    have key : d = .read → ∀ k, rl = .seldom k → (doDeed rl d t2 tb).w < (doDeed rl d t2 tb).r ∧ (doDeed rl d t2 tb).c < (doDeed rl d t2 tb).r ∧ ∃ b : Nat, t2 - (doDeed rl d t2 tb).r = (b : Int) ∧ (bits.getD a.g 0).testBit b = true := by
      intro er k ek
      obtain ⟨hk1, hB, _⟩ := E.seld k ek
      have hsur : ∀ m, (surely rl d).lookup m = none := fun m => by
        rw [er, ek]
        rfl
      have gw : (doDeed rl d t2 tb).get .written = tb.get .written := by
        rw [do_get, surely_not (hsur .written) (fun z => nomatch z.2.1)]
      have gc : (doDeed rl d t2 tb).get .changed = tb.get .changed := by
        rw [do_get, surely_not (hsur .changed) (fun z => nomatch z.2.1)]
      have gw2 : (doDeed rl d t2 tb).w = tb.w := gw
      have gc2 : (doDeed rl d t2 tb).c = tb.c := gc
      have hw1 : tb.w ≤ t := ih.le .written
      have hc1 : tb.c ≤ t := ih.le .changed
      have hr1 : tb.r ≤ t := ih.le .read
      have hmem : a.g ∈ readsOf nodes := readsOf_in (lt_of_get hd) (by rw [e1, er])
      have hfix := pass_fix hB.len (by obtain ⟨_, _, f⟩ := hB; exact f) hmem
      have gr : (doDeed rl d t2 tb).r = if sets rl tb t2 = true then t2 else tb.r := by
        have q := do_get rl d t2 tb .read
        unfold settingOf at q
        by_cases es : sets rl tb t2 = true
        · rw [if_pos ⟨er, es⟩] at q
          rw [if_pos es]
          have q2 : (doDeed rl d t2 tb).get .read = t2 - 0 := q
          show (doDeed rl d t2 tb).get .read = t2
          omega
        · rw [if_neg fun z => es z.2, er] at q
          rw [if_neg es, er]
          exact q
      by_cases en : nodes.getD a.s .make = .read
      · obtain ⟨i1, i2, b, hb, hbit⟩ := ih.rd (by rw [← hs]; exact en) k ek
        have en2 : nodes.getD a.s .read = .read := by
          have hlt : a.s < nodes.length := by
            rw [hs]
            exact ih.lt
          rw [← en, List.getD_eq_getElem?_getD, List.getD_eq_getElem?_getD, List.getElem?_eq_getElem hlt]
          rfl
        obtain ⟨dt, hdt⟩ : ∃ dt : Nat, t2 - t = (dt : Int) := ⟨(t2 - t).toNat, by omega⟩
        have hp := passed_bit (after := k) (b := b) (dt := dt) (l := a.l) (m := a.m) (by omega) hbit (by omega) (by omega)
        have hin : (bits.getD a.g 0).testBit (if k ≤ b + dt then 0 else b + dt) = true := by
          rw [← hfix]
          refine nextBits_in ha rfl hw ?_
          rw [if_neg (fun z => z en2), hs]
          exact hp
        have eset : sets rl tb t2 = decide (k ≤ b + dt) := by
          rw [ek]
          unfold sets
          have a1 : decide (tb.r ≤ tb.w) = false := decide_eq_false (by omega)
          have a2 : decide (tb.r ≤ tb.c) = false := decide_eq_false (by omega)
          dsimp only
          rw [a1, a2, Bool.false_or, Bool.false_or]
          exact decide_eq_decide.mpr ⟨fun z => by omega, fun z => by omega⟩
        rw [eset] at gr
        by_cases hk : k ≤ b + dt
        · rw [if_pos hk] at hin
          rw [if_pos (decide_eq_true hk)] at gr
          refine ⟨by omega, by omega, 0, by omega, hin⟩
        · rw [if_neg hk] at hin
          rw [if_neg (by simp [hk])] at gr
          refine ⟨by omega, by omega, b + dt, by omega, hin⟩
      · have hch : tb.c = t := ih.ch (by rw [← hs]; exact en)
        have en2 : nodes.getD a.s .read ≠ .read := by
          have hlt : a.s < nodes.length := by
            rw [hs]
            exact ih.lt
          rw [List.getD_eq_getElem?_getD, List.getElem?_eq_getElem hlt] at en ⊢
          exact en
        have hin : (bits.getD a.g 0).testBit 0 = true := by
          rw [← hfix]
          refine nextBits_in ha rfl hw ?_
          rw [if_pos en2]
        have eset : sets rl tb t2 = true := by
          rw [ek]
          unfold sets
          have a2 : decide (tb.r ≤ tb.c) = true := decide_eq_true (by omega)
          dsimp only
          rw [a2, Bool.or_true, Bool.true_or]
        rw [if_pos eset] at gr
        refine ⟨by omega, by omega, 0, by omega, hin⟩
    refine ⟨lt_of_get hd, fun m => do_le hok (fun m => .inl (hle2 m)) m, fun z => do_ch (fun q => z (e1.trans q)), fun z => key (e1.symm.trans z), old_do E hd (fun _ looks hl => come hl (by omega) ih.le ih.old ha hs hw h2) fun er k ek => (key er k ek).2.2⟩
end
end AgM
end
section
set_option maxHeartbeats 4000000
/-! AgM4: books, rows, places; nothing in use is deleted. -/
namespace AgM

/-! ### books -/
structure Bk where
  bound : Int
  looks : List Mark
  above : Bool
  day : Int
  grain : Int
  spares : Bool
  late : Int
  again : Bool
def countsB (b : Bk) (a : Arr) : Bool := match a.w with
  | .anew => decide (b.late > 0) && !b.again
  | .plain => true
  | .held => !b.spares
def seenOf (age : Age) (m g : Int) : Age := match age with
  | none => none
  | some x => some (x + m - 1 + g - 1)
def seenStep (Tl : List Age) (b : Bk) (found : Age) (a : Arr) : Age :=
  if countsB b a = true then (if isMore (seenOf (Tl.getD a.s none) a.m b.grain) found then seenOf (Tl.getD a.s none) a.m b.grain else found) else found
def seenMost (Tl : List Age) (arrows : List Arr) (b : Bk) : Age := arrows.foldl (seenStep Tl b) (some (-1))
def b2i (b : Bool) : Int := if b = true then 1 else 0
def threshold (b : Bk) : Int := (b.bound + b2i b.above) * b.day
def leastOf (seen : Age) (b : Bk) : Age := match seen with
  | none => none
  | some s => if s = -1 then some 0 else some (s / b.day + b2i (!b.above))
theorem seenStep_ge (Tl : List Age) (b : Bk) (f : Age) (a : Arr) : Ge (seenStep Tl b f a) f := by
  unfold seenStep
  split
  · split
    · rename_i h
      exact (more_ge h).1
    · exact Ge.refl _
  · exact Ge.refl _
theorem seens_ge (Tl : List Age) (b : Bk) : ∀ (l : List Arr) (f : Age), Ge (l.foldl (seenStep Tl b) f) f
  | [], f => Ge.refl f
  | a :: r, f => (seens_ge Tl b r _).trans (seenStep_ge Tl b f a)
theorem seens_in (Tl : List Age) (b : Bk) : ∀ (l : List Arr) (f : Age) (a : Arr), a ∈ l → countsB b a = true → Ge (l.foldl (seenStep Tl b) f) (seenOf (Tl.getD a.s none) a.m b.grain)
  | [], f, a, h, _ => by cases h
  | c :: r, f, a, h, hc => by
    rcases List.mem_cons.mp h with e | h
    · subst e
      refine (seens_ge Tl b r _).trans ?_
      unfold seenStep
      rw [if_pos hc]
      split
      · exact Ge.refl _
      · rename_i h2
        exact not_more (by simpa using h2)
    · exact seens_in Tl b r _ a h hc
/-- seen is -1 at least -/
theorem seen_low (Tl : List Age) (arrows : List Arr) (b : Bk) {s : Int} (h : seenMost Tl arrows b = some s) : -1 ≤ s := by
  have k := seens_ge Tl b arrows (some (-1))
  rcases k with k | ⟨y, x, k, k2, k3⟩
  · have e : seenMost Tl arrows b = none := k
    rw [h] at e
    cases e
  · have e : seenMost Tl arrows b = some y := k
    rw [h] at e
    injection e with e
    injection k2 with k2
    omega
/-- the book at its least bound, or above it -/
theorem safe_at {b : Bk} {s d : Int} (hd : 1 ≤ b.day) (hs : -1 ≤ s) (hs2 : s ≠ -1) (h0 : 0 ≤ d) (hb : b.bound = s / b.day + b2i (!b.above) + d) : s < threshold b := by
  unfold threshold
  have e : b.bound + b2i b.above = s / b.day + 1 + d := by
    rw [hb]
    cases b.above <;> simp [b2i] <;> omega
  rw [e]
  have h1 : s < (s / b.day + 1) * b.day := by
    rw [Int.add_mul, Int.one_mul]
    have := Int.emod_add_mul_ediv s b.day
    have := Int.emod_lt_of_pos s (show 0 < b.day by omega)
    have e2 : b.day * (s / b.day) = s / b.day * b.day := Int.mul_comm _ _
    omega
  have h2 : (s / b.day + 1 + d) * b.day = (s / b.day + 1) * b.day + d * b.day := Int.add_mul _ _ _
  have h3 : 0 ≤ d * b.day := Int.mul_nonneg h0 (by omega)
  omega

section
variable {nodes : List Deed} {arrows : List Arr} {rl : Rl} {G : Nat → Age} {bits : List Nat}
/-- a file in use is not deleted -/
theorem spared {n : Nat} {t at_ L s : Int} {tb : Tb} {b : Bk} {a : Arr} (H : Good nodes arrows rl G bits n t tb) (hl : b.looks ≠ []) (hg : 1 ≤ b.grain) (ha : a ∈ arrows) (hs : a.s = n) (hc : countsB b a = true) (h2 : at_ - t ≤ a.m - 1)
    (hL : ∀ m ∈ b.looks, tb.get m ≤ L) (hseen : seenMost (T nodes arrows rl G b.looks) arrows b = some s) (hlt : s < threshold b) : at_ - (L - L % b.grain) < threshold b := by
  have k := seens_in (T nodes arrows rl G b.looks) b arrows (some (-1)) a ha hc
  have k : Ge (seenMost (T nodes arrows rl G b.looks) arrows b) (seenOf ((T nodes arrows rl G b.looks).getD a.s none) a.m b.grain) := k
  rw [hseen, hs] at k
  have h3 := Int.emod_lt_of_pos L (show 0 < b.grain by omega)
  rcases H.old b.looks hl with e | ⟨x, e, m, hm, hx⟩
  · rw [e] at k
    rcases k with k | ⟨y, z, k, k2, k3⟩
    · cases k
    · cases k2
  · rw [e] at k
    rcases k with k | ⟨y, z, k, k2, k3⟩
    · cases k
    · injection k with k
      have k4 : x + a.m - 1 + b.grain - 1 = z := by
        injection k2
      have := hL m hm
      omega

/-! ### rows -/
abbrev Row := List (Nat × Int)
def tbOf (nodes : List Deed) (rl : Rl) (row : Row) : Tb := row.foldl (fun tb st => doDeed rl (nodes.getD st.1 .read) st.2 tb) ⟨0, 0, 0⟩
/-- arrows from step to step -/
def Leads (arrows : List Arr) : Row → Prop
  | [] => True
  | [_] => True
  | (n, t) :: (n2, t2) :: r => (∃ a ∈ arrows, a.s = n ∧ a.g = n2 ∧ a.l ≤ t2 - t ∧ t2 - t ≤ a.m) ∧ Leads arrows ((n2, t2) :: r)
structure RowOk (nodes : List Deed) (arrows : List Arr) (row : Row) : Prop where
  ne : ∃ n t r d, row = (n, t) :: r ∧ nodes[n]? = some d ∧ d.makes = true
  ld : Leads arrows row
  nd : ∀ p ∈ row, p.1 < nodes.length
theorem Leads.at_ {arrows : List Arr} : ∀ {row : Row} {i n n2 : Nat} {t t2 : Int}, Leads arrows row → row[i]? = some (n, t) → row[i + 1]? = some (n2, t2) → ∃ a ∈ arrows, a.s = n ∧ a.g = n2 ∧ a.l ≤ t2 - t ∧ t2 - t ≤ a.m
  | [], _, _, _, _, _, _, h, _ => by simp at h
  | [_], i, _, _, _, _, _, _, h => by simp at h
  | (a, b) :: (c, d) :: r, 0, n, n2, t, t2, h, h1, h2 => by
    simp at h1 h2
    obtain ⟨rfl, rfl⟩ := h1
    obtain ⟨rfl, rfl⟩ := h2
    exact h.1
  | (a, b) :: (c, d) :: r, i + 1, n, n2, t, t2, h, h1, h2 => Leads.at_ (i := i) h.2 (by simpa using h1) (by simpa using h2)
theorem Leads.snoc {arrows : List Arr} {n n2 : Nat} {t t2 : Int} : ∀ {row : Row}, Leads arrows (row ++ [(n, t)]) → (∃ a ∈ arrows, a.s = n ∧ a.g = n2 ∧ a.l ≤ t2 - t ∧ t2 - t ≤ a.m) → Leads arrows (row ++ [(n, t)] ++ [(n2, t2)])
  | [], _, h => ⟨h, trivial⟩
  | [(a, b)], h, h2 => ⟨h.1, h2, trivial⟩
  | (a, b) :: (c, d) :: r, h, h2 => ⟨h.1, Leads.snoc (row := (c, d) :: r) h.2 h2⟩
/-- exactly the arrows anew lead to deeds that make -/
structure Ways (nodes : List Deed) (arrows : List Arr) : Prop where
  nok : ∀ d ∈ nodes, d.ok
  aok : ∀ a ∈ arrows, 1 ≤ a.l ∧ a.l ≤ a.m ∧ a.s < nodes.length ∧ a.g < nodes.length
  anew : ∀ a ∈ arrows, ∀ d, nodes[a.g]? = some d → (a.w = .anew ↔ d.makes = true)
  one : ∀ a ∈ arrows, ∀ c ∈ arrows, a.s = c.s → a.g = c.g → a = c
theorem get_some {α : Type} {l : List α} {n : Nat} (h : n < l.length) : ∃ x, l[n]? = some x := ⟨l[n], List.getElem?_eq_getElem h⟩
theorem tbOf_snoc (row : Row) (n : Nat) (t : Int) : tbOf nodes rl (row ++ [(n, t)]) = doDeed rl (nodes.getD n .read) t (tbOf nodes rl row) := by
  unfold tbOf
  rw [List.foldl_append]
  rfl
/-- the state behind each step -/
theorem lives (W : Ways nodes arrows) {row : Row} (R : RowOk nodes arrows row) : ∀ (p : Nat) {n : Nat} {t : Int}, row[p]? = some (n, t) → Lf nodes arrows rl n t (tbOf nodes rl (row.take (p + 1)))
  | 0, n, t, h => by
    obtain ⟨n0, t0, r, d, e, hd, hm⟩ := R.ne
    rw [e] at h ⊢
    simp at h
    obtain ⟨rfl, rfl⟩ := h
    show Lf nodes arrows rl n0 t0 (doDeed rl (nodes.getD n0 .read) t0 ⟨0, 0, 0⟩)
    rw [getD_of hd]
    exact .make t0 _ hd hm
  | p + 1, n, t, h => by
    have hlt := lt_of_get h
    obtain ⟨⟨n1, t1⟩, h1⟩ := get_some (l := row) (n := p) (by omega)
    have ih := lives W R p h1
    obtain ⟨a, ha, hs, hg, hl, hm⟩ := R.ld.at_ h1 h
    have hn : n < nodes.length := R.nd (n, t) (List.mem_of_getElem? h)
    obtain ⟨d, hd⟩ := get_some hn
    have e : row.take (p + 1 + 1) = row.take (p + 1) ++ [(n, t)] := by
      rw [List.take_succ, h]
      rfl
    rw [e, tbOf_snoc, getD_of hd]
    cases q : d.makes with
    | true => exact .make t _ hd q
    | false =>
      have hw : a.w ≠ .anew := fun z => by
        have := (W.anew a ha d (by rw [hg]; exact hd)).mp z
        rw [q] at this
        cases this
      have := Lf.step (t2 := t) ih ha hs hw (by rw [hg]; exact hd) q hl hm
      rw [hg] at this
      exact this
/-- moments rise -/
theorem rise (W : Ways nodes arrows) {row : Row} (R : Leads arrows row) {p n n2 : Nat} {t t2 : Int} (h1 : row[p]? = some (n, t)) (h2 : row[p + 1]? = some (n2, t2)) : t < t2 := by
  obtain ⟨a, ha, _, _, hl, _⟩ := R.at_ h1 h2
  have := W.aok a ha
  omega
def Rising : Row → Prop
  | [] => True
  | [_] => True
  | (_, t) :: (n2, t2) :: r => t < t2 ∧ Rising ((n2, t2) :: r)
theorem Leads.rising (W : Ways nodes arrows) : ∀ {row : Row}, Leads arrows row → Rising row
  | [], _ => trivial
  | [_], _ => trivial
  | (n, t) :: (n2, t2) :: r, h => by
    obtain ⟨⟨a, ha, _, _, hl, _⟩, h2⟩ := h
    have := W.aok a ha
    exact ⟨by omega, Leads.rising W h2⟩
/-- how many steps are not later than a moment -/
def upTo (row : Row) (at_ : Int) : Nat := (row.filter fun p => decide (p.2 ≤ at_)).length
theorem upTo_late : ∀ {row : Row} {n : Nat} {t at_ : Int}, Rising ((n, t) :: row) → at_ < t → upTo ((n, t) :: row) at_ = 0
  | [], n, t, at_, _, h => by
    unfold upTo
    rw [List.filter_cons, if_neg (by simp; omega)]
    rfl
  | (n2, t2) :: r, n, t, at_, hr, h => by
    have ih := upTo_late hr.2 (show at_ < t2 by have := hr.1; omega)
    unfold upTo at ih ⊢
    rw [List.filter_cons, if_neg (by simp; omega)]
    exact ih
theorem upTo_at : ∀ {row : Row} {n : Nat} {t at_ : Int}, Rising ((n, t) :: row) → t ≤ at_ → ∃ p n1 t1, upTo ((n, t) :: row) at_ = p + 1 ∧ ((n, t) :: row)[p]? = some (n1, t1) ∧ t1 ≤ at_ ∧ ∀ n2 t2, ((n, t) :: row)[p + 1]? = some (n2, t2) → at_ < t2
  | [], n, t, at_, _, h => by
    refine ⟨0, n, t, ?_, rfl, h, fun n2 t2 z => by simp at z⟩
    unfold upTo
    rw [List.filter_cons, if_pos (by simp; omega)]
    rfl
  | (m, u) :: r, n, t, at_, hr, h => by
    have e : upTo ((n, t) :: (m, u) :: r) at_ = upTo ((m, u) :: r) at_ + 1 := by
      unfold upTo
      rw [List.filter_cons, if_pos (by simp; omega)]
      rfl
    by_cases h2 : u ≤ at_
    · obtain ⟨p, n1, t1, e1, e2, e3, e4⟩ := upTo_at hr.2 h2
      exact ⟨p + 1, n1, t1, by rw [e, e1], e2, e3, e4⟩
    · refine ⟨0, n, t, ?_, rfl, h, fun n2 t2 z => ?_⟩
      · rw [e, upTo_late hr.2 (by omega)]
      · simp at z
        omega
theorem upTo_le (row : Row) (at_ : Int) : upTo row at_ ≤ row.length := List.length_filter_le _ _
theorem upTo_mono {row : Row} {a b : Int} (h : a ≤ b) : upTo row a ≤ upTo row b := by
  unfold upTo
  induction row with
  | nil => exact Nat.le_refl _
  | cons p r ih =>
    rw [List.filter_cons, List.filter_cons]
    by_cases h1 : p.2 ≤ a
    · rw [if_pos (by simpa using h1), if_pos (by simp; omega)]
      exact Nat.succ_le_succ ih
    · rw [if_neg (by simpa using h1)]
      split
      · exact Nat.le_succ_of_le ih
      · exact ih
end
end AgM
end
section
set_option maxHeartbeats 4000000
/-! AgM5: further mathematics: the size of smeared bits, the places of bits. -/
namespace AgM
theorem smear_lt {b L : Nat} (h : b < 2 ^ L) (n : Nat) : smear b n < 2 ^ (L + n) := by
  refine Nat.lt_pow_two_of_testBit _ fun j hj => ?_
  cases e : (smear b n).testBit j with
  | false => rfl
  | true =>
    obtain ⟨i, h1, h2, h3⟩ := (smear_bit b n j).mp e
    have h4 := Nat.ge_two_pow_of_testBit h3
    have h5 : 2 ^ L ≤ 2 ^ (j - i) := Nat.pow_le_pow_right (by omega) (by omega)
    omega
/-- the places of b's bits below n -/
def bitsAt (b n : Nat) : List Nat := (List.range n).filter fun i => b.testBit i
theorem bitsAt_up (b n : Nat) : (bitsAt b n).Pairwise (· < ·) := List.Pairwise.filter _ List.pairwise_lt_range
theorem bitsAt_succ (b n : Nat) : bitsAt b (n + 1) = if b.testBit n = true then bitsAt b n ++ [n] else bitsAt b n := by
  unfold bitsAt
  rw [List.range_succ, List.filter_append, List.filter_cons]
  split
  · rfl
  · simp
theorem bitsAt_len (b n : Nat) : (bitsAt b n).length ≤ n := by
  unfold bitsAt
  have := List.length_filter_le (fun i => b.testBit i) (List.range n)
  rw [List.length_range] at this
  exact this
theorem bitsAt_last {b : Nat} : ∀ {n : Nat}, b < 2 ^ n → (bitsAt b n).getLast?.map (fun (k : Nat) => (k : Int)) = topBit b
  | 0, h => by
    have e : b = 0 := by omega
    subst e
    rfl
  | n + 1, h => by
    rw [bitsAt_succ]
    by_cases c : b.testBit n = true
    · rw [if_pos c, List.getLast?_concat]
      have h0 : b ≠ 0 := ne_zero_of_bit c
      have h1 : 2 ^ n ≤ b := Nat.ge_two_pow_of_testBit c
      have e : b.log2 = n := by
        have a1 := (Nat.le_log2 h0).mpr h1
        have a2 := (Nat.log2_lt h0).mpr h
        omega
      unfold topBit
      rw [if_neg h0, e]
      rfl
    · rw [if_neg c]
      have h2 : b < 2 ^ n := by
        refine Nat.lt_pow_two_of_testBit _ fun j hj => ?_
        by_cases z : j = n
        · subst z
          simpa using c
        · exact Nat.testBit_lt_two_pow (Nat.lt_of_lt_of_le h (Nat.pow_le_pow_right (by omega) (by omega)))
      exact bitsAt_last h2
end AgM
end
section
set_option maxHeartbeats 4000000
/-! AgC: calls by what a def promises (GF, GM, GP, GC, GS), the shape of promises, further readings. -/
namespace AgC
open PySem PySem.Spec PyProof.Rows L2 AgR AgT

/-! ### the shape of promises -/
def sp0 (f : Hp → VK → Prop) : Sp := fun vs H Q _ => vs = [] ∧ f H Q
def sp1 (f : V → Hp → VK → Prop) : Sp := fun vs H Q _ => ∃ a, vs = [a] ∧ f a H Q
def sp2 (f : V → V → Hp → VK → Prop) : Sp := fun vs H Q _ => ∃ a b, vs = [a, b] ∧ f a b H Q
def sp3 (f : V → V → V → Hp → VK → Prop) : Sp := fun vs H Q _ => ∃ a b c, vs = [a, b, c] ∧ f a b c H Q
def sp4 (f : V → V → V → V → Hp → VK → Prop) : Sp := fun vs H Q _ => ∃ a b c d, vs = [a, b, c, d] ∧ f a b c d H Q
def sp5 (f : V → V → V → V → V → Hp → VK → Prop) : Sp := fun vs H Q _ => ∃ a b c d e, vs = [a, b, c, d, e] ∧ f a b c d e H Q
def sp6 (f : V → V → V → V → V → V → Hp → VK → Prop) : Sp := fun vs H Q _ => ∃ a b c d e g, vs = [a, b, c, d, e, g] ∧ f a b c d e g H Q
theorem len0 {f} : ∀ (vs : List V) (H : Hp) (Q : VK) (E : XK), sp0 f vs H Q E → vs.length = 0 := fun _ _ _ _ ⟨e, _⟩ => by rw [e]; rfl
theorem len1 {f} : ∀ (vs : List V) (H : Hp) (Q : VK) (E : XK), sp1 f vs H Q E → vs.length = 1 := fun _ _ _ _ ⟨_, e, _⟩ => by rw [e]; rfl
theorem len2 {f} : ∀ (vs : List V) (H : Hp) (Q : VK) (E : XK), sp2 f vs H Q E → vs.length = 2 := fun _ _ _ _ ⟨_, _, e, _⟩ => by rw [e]; rfl
theorem len3 {f} : ∀ (vs : List V) (H : Hp) (Q : VK) (E : XK), sp3 f vs H Q E → vs.length = 3 := fun _ _ _ _ ⟨_, _, _, e, _⟩ => by rw [e]; rfl
theorem len4 {f} : ∀ (vs : List V) (H : Hp) (Q : VK) (E : XK), sp4 f vs H Q E → vs.length = 4 := fun _ _ _ _ ⟨_, _, _, _, e, _⟩ => by rw [e]; rfl
theorem len5 {f} : ∀ (vs : List V) (H : Hp) (Q : VK) (E : XK), sp5 f vs H Q E → vs.length = 5 := fun _ _ _ _ ⟨_, _, _, _, _, e, _⟩ => by rw [e]; rfl
theorem len6 {f} : ∀ (vs : List V) (H : Hp) (Q : VK) (E : XK), sp6 f vs H Q E → vs.length = 6 := fun _ _ _ _ ⟨_, _, _, _, _, _, e, _⟩ => by rw [e]; rfl

section
variable {P : Program} {w : World} {K : PySem.W.Frag} {mg : Str → Option Value} {base : Heap}
/-! ### a def keeps its promise -/
theorem mkR {d : He5.DefA} {N ps : List Str} {k : Nat} {sp : Sp} (T : Tx K mg) (i : Nat) (hd : fn[i]? = some d) (hdf : d.dfl = []) (S : FnScope N ps d.scope)
    (hb : ∀ (kV doc pm : Value) (an : Option Addr) (cdv ct : Value) (us : List Value), us.length = ps.length → bindArgs (PySem.W.fnOf d.name d.qual d.params d.body d.scope .none kV doc pm an cdv ct) ⟨us, []⟩ = pure (ps.zip us))
    (len : ∀ vs H Q E, sp vs H Q E → vs.length = ps.length)
    (hbody : ∀ (cdv : Value) (A : Around) (outer : List Env) (s : Shared) (H : Hp) (vs : List V) (Q : VK) (E : XK), Room k (A.deeper (envOfC d.qual d.scope s.heap.objs.size (d.at_ K) cdv)) → sp vs H Q E →
      ∃ t, PSs (cxOf CX0 P w K mg base N d.qual d.scope (d.at_ K) cdv A outer s H E).nox d.body t ∧ t { nx := fun _ H' => Q .non H', rt := Q } (start N vs) H) :
    FnR P w K mg base CX0 (k + 1) (d.at_ K) sp ∧ PySem.W.keepIn K (.ref (d.at_ K)) = true := by
  obtain ⟨fd, F⟩ := T.def_ i d hd
  have e : d.dvs K = [] := by
    show d.dfl.map _ = []
    rw [hdf]
    rfl
  rw [e] at F
  have b : Binds K fd ps [] := FunD.bindsN F hb
  have G : FnOk P w K mg base CX0 (k + 1) (d.at_ K) fd ps sp := FunD.ok F S len fun cdv A outer s H vs Q E hr h => by
    obtain ⟨t, h1, h2⟩ := hbody cdv A outer s H vs Q E hr h
    exact ⟨t, h1.nox, h2⟩
  exact ⟨(G.raw b .nil).imp fun vs H Q E h => by rw [List.append_nil]; exact h, F.kp⟩
end

/-! ### what is promised of a name of the module, a method, a property, a class, a staticmethod -/
section
variable (P : Program) (w : World) (K : PySem.W.Frag) (mg : Str → Option Value) (base : Heap)
def GF (x : Str) (k : Nat) (sp : Sp) : Prop := ∃ f, mg x = some (.ref f) ∧ PySem.W.keepIn K (.ref f) = true ∧ FnR P w K mg base CX0 k f sp
def GM (C : Addr) (m : Str) (k : Nat) (sp : Sp) : Prop := ∃ g, Meth K C m g ∧ FnR P w K mg base CX0 k g sp
def GP (C : Addr) (f : Str) (k : Nat) (sp : Sp) : Prop := ∃ p g, PropOf K C f p g ∧ FnR P w K mg base CX0 k g sp
def GW (C : Addr) (f : Str) (k : Nat) (sp : Sp) : Prop := ∃ p g, PropSet K C f p g ∧ FnR P w K mg base CX0 k g sp
def GC (x : Str) (C : Addr) (k : Nat) (sp : Sp) : Prop := ∃ f, mg x = some (.ref C) ∧ Mk K C f ∧ FnR P w K mg base CX0 k f sp
def GS (C : Addr) (m : Str) (k : Nat) (sp : Sp) : Prop := ∃ p g, StM K C m p g ∧ FnR P w K mg base CX0 k g sp
def GO (C : Addr) (m : Str) (k : Nat) (sp : Sp) : Prop := ∃ g, PySem.W.findIn K (.ref C) m = some (some (.ref g)) ∧ PySem.W.isFn K (.ref g) = true ∧ PySem.W.fnIn K g = true ∧ FnR P w K mg base CX0 k g sp
end
section
variable {X : Cx} {x m f : Str} {k j : Nat} {C : Addr} {sp : Sp} {e o a b : Expr} {es : List Expr} {t : TA} {ta tb te tv : TE} {p pos apos pos' : Pos}
def tCR (sp : Sp) (t : TA) : TE := fun σ H Q => t σ H fun vs H1 => sp vs H1 Q E0
theorem pe_gf (G : GF X.prog X.w X.K X.mg X.base x k sp) (hr : Room j X.A) (ha : PA X (e :: es) t) (hk : k ≤ j := by decide) (hg : Gl X x := by rfl) (hdb : (x == ("__debug__" : Str)) = false := by decide)
    (he : starEach (e :: es) X.env = (false, eval e X.env) :: starEach es X.env := by rfl) (hpl : (backTo pos (starEach es X.env)).any (·.1) = false := by rfl) : PE X (.Call (.Name x p) (e :: es) [] pos) (tCR sp t) := by
  obtain ⟨g, hm, kp, F⟩ := G
  refine ⟨fun pins s σ H Q I h => ?_⟩
  refine wpAny_Call_Name_kw (ld_glob I hg hm ?_ hdb)
  refine PySem.W.callWith_K (h₀ := X.base) I.ok.mod.kin kp (thn (ha.run pos pins s σ H _ I h) fun us s1 ⟨vs, H1, I1, r, q⟩ => ⟨I1.kIn, ?_⟩) he hpl
  exact wpAny_call (run_fnR F (hr.mono hk) pass0 I1 r q)
theorem pe_gf0 (G : GF X.prog X.w X.K X.mg X.base x k sp) (hr : Room j X.A) (hk : k ≤ j := by decide) (hg : Gl X x := by rfl) (hdb : (x == ("__debug__" : Str)) = false := by decide) : PE X (.Call (.Name x p) [] [] pos) (tCR sp tNil) := by
  obtain ⟨g, hm, kp, F⟩ := G
  refine ⟨fun pins s σ H Q I h => ?_⟩
  refine wpAny_Call_Name_kw (ld_glob I hg hm ?_ hdb)
  exact PySem.W.callWith_K0 I.kIn kp (wpAny_call (run_fnR (us := []) (vs := []) F (hr.mono hk) pass0 I .nil h))
/-- o.m(..) -/
def tMR (C : Addr) (m : Str) (sp : Sp) (ta : TE) (t : TA) : TE := fun σ H Q => ta σ H fun x H1 => ∃ (a dx : Addr) (fs : List (Str × V)), x = .ref a ∧ H1 a = some (.ins C dx fs) ∧ fs.lookup m = none ∧ t σ H1 fun vs H2 => sp (x :: vs) H2 Q E0
theorem pe_gm {pl : Sem Bool} (he : PE X o ta) (c : Cls X.K C) (G : GM X.prog X.w X.K X.mg X.base C m k sp) (hr : Room j X.A) (ha : PA X (e :: es) t) (hk : k ≤ j := by decide)
    (hst : starEach (e :: es) X.env = (false, eval e X.env) :: starEach es X.env := by rfl) (hpl : (backTo pos (starEach es X.env)).any (·.1) = false := by rfl)
    (ht : eval (.Call (.Attribute o m apos) (e :: es) [] pos) X.env = (do
      let ov ← eval o X.env
      standAt apos.atName
      let (f, first) ← holding [ov] (getMethod ov m pl)
      callWith pos f first (backTo pos (starEach (e :: es) X.env)) (backToKw pos (keywordEach [] X.env))) := by rfl) :
    PE X (.Call (.Attribute o m apos) (e :: es) [] pos) (tMR C m sp ta t) := by
  obtain ⟨g, hm, F⟩ := G
  exact pe_methR he c hm F (hr.mono hk) pass0 ha hst hpl ht
theorem pe_gm0 {pl : Sem Bool} (he : PE X o ta) (c : Cls X.K C) (G : GM X.prog X.w X.K X.mg X.base C m k sp) (hr : Room j X.A) (hk : k ≤ j := by decide)
    (ht : eval (.Call (.Attribute o m apos) [] [] pos) X.env = (do
      let ov ← eval o X.env
      standAt apos.atName
      let (f, first) ← holding [ov] (getMethod ov m pl)
      callWith pos f first (backTo pos (starEach [] X.env)) (backToKw pos (keywordEach [] X.env))) := by rfl) :
    PE X (.Call (.Attribute o m apos) [] [] pos) (tMR C m sp ta tNil) := by
  obtain ⟨g, hm, F⟩ := G
  refine ⟨fun pins s σ H Q I h => ?_⟩
  refine PySem.W.methodCall_KW (pl := pl) (thn (he.run pins s σ H _ I h) fun u s1 ⟨x, H1, I1, rx, a, dx, fs, ex, ea, l, q⟩ => ?_) ht
  subst ex
  obtain rfl : u = Value.ref a := rx
  refine getmeth_ok I1 ea c hm l ?_
  exact PySem.W.callWith_K0 (first := [.ref a]) I1.kIn hm.kp (wpAny_call (run_fnR (us := [.ref a]) (vs := [.ref a]) F (hr.mono hk) pass0 I1 (.cons rfl .nil) q))
/-- o.f, a property -/
def tPR (C : Addr) (sp : Sp) (ta : TE) : TE := fun σ H Q => ta σ H fun x H1 => ∃ (a dx : Addr) (fs : List (Str × V)), x = .ref a ∧ H1 a = some (.ins C dx fs) ∧ sp [.ref a] H1 Q E0
theorem pe_gp (he : PE X e ta) (c : Cls X.K C) (G : GP X.prog X.w X.K X.mg X.base C f k sp) (hr : Room j X.A) (hk : k + 1 ≤ j := by decide) (hab : attributeBase e f X.env (eval e X.env) = eval e X.env := by rfl) : PE X (.Attribute e f pos) (tPR C sp ta) := by
  obtain ⟨p, g, hp, F⟩ := G
  refine ⟨fun pins s σ H Q I h => ?_⟩
  refine attr_of hab (thn (he.run pins s σ H _ I h) fun u s1 ⟨x, H1, I1, rx, a, dx, fs, ex, ea, q⟩ => ?_)
  subst ex
  obtain rfl : u = Value.ref a := rx
  obtain ⟨mA, O, _⟩ := ins_get I1.hok ea
  obtain ⟨od, J, _⟩ := O.look
  obtain ⟨rest, hrec⟩ := hp.rec_
  have I2 := I1.tok (s1.toks + 1)
  have hr1 : Room k X.A.in1 := Room.in1 (hr.mono hk)
  have hc : (PySem.W.clsIn X.K C).isSome = true := by
    obtain ⟨cd, hc, _⟩ := PySem.W.any_some c.hd
    rw [hc]
    rfl
  refine PySem.W.get_bind I1.kIn J (PySem.W.plainGet_of (c.get f)).1 (PySem.W.findObj_data hc hp.at_ hp.get hp.tak) (PySem.W.plainGet_of (c.get f)).2 (wpAny_call (PySem.W.prop_get (s := { s1 with toks := s1.toks + 1 }) I1.kIn hrec ?_))
  refine codeAny_mono (F X.A.in1 X.stack { s1 with toks := s1.toks + 1 } H1 [.ref a] [.ref a] Q E0 hr1 I2.env0.in1 (.cons rfl .nil) q) fun r s' hq => ?_
  cases r with
  | error er => exact False.elim hq
  | ok fl =>
    cases fl with
    | ret u =>
      obtain ⟨v, H', I3, rv, q3⟩ := I2.after hq
      show wpAny _ _ (handedOut u) _ _ _
      rw [PySem.W.handedOut_of (handed_of rv)]
      exact wpAny_pure ⟨v, H', I3, rv, q3⟩
    | next => exact False.elim hq
    | brk => exact False.elim hq
    | cont => exact False.elim hq
/-- C(..) -/
def tKR (C : Addr) (sp : Sp) (t : TA) : TE := fun σ H Q => t σ H fun vs H1 => ∀ x dx, H1 x = Option.none → H1 dx = Option.none → dx ≠ x → sp (V.ref x :: vs) (upd (upd H1 dx (.own x)) x (.ins C dx [])) (fun v H2 => v = .non ∧ Q (.ref x) H2) E0
theorem pe_gc (G : GC X.prog X.w X.K X.mg X.base x C k sp) (hr : Room j X.A) (ha : PA X (e :: es) t) (hk : k + 1 ≤ j := by decide) (hg : Gl X x := by rfl) (hdb : (x == ("__debug__" : Str)) = false := by decide)
    (he : starEach (e :: es) X.env = (false, eval e X.env) :: starEach es X.env := by rfl) (hpl : (backTo pos (starEach es X.env)).any (·.1) = false := by rfl) : PE X (.Call (.Name x p) (e :: es) [] pos) (tKR C sp t) := by
  obtain ⟨g, hm, M, F⟩ := G
  exact StX.pe_makeR M F (hr.mono hk) hg hm pass0 ha hdb he hpl
theorem pe_gc0 (G : GC X.prog X.w X.K X.mg X.base x C k sp) (hr : Room j X.A) (hk : k + 1 ≤ j := by decide) (hg : Gl X x := by rfl) (hdb : (x == ("__debug__" : Str)) = false := by decide) : PE X (.Call (.Name x p) [] [] pos) (tKR C sp tNil) := by
  obtain ⟨g, hm, M, F⟩ := G
  refine ⟨fun pins s σ H Q I h => ?_⟩
  refine wpAny_Call_Name_kw (ld_glob I hg hm ?_ hdb)
  exact PySem.W.callWith_K0 I.kIn M.kp (StX.run_makeR (us := []) (vs := []) M F (hr.mono hk) pass0 I .nil h)
/-- C( *e) -/
def tKS (K : PySem.W.Frag) (C : Addr) (sp : Sp) (te : TE) : TE := fun σ H Q => te σ H fun y H1 => ∃ (a : Addr) (xs : List V), y = V.ref a ∧ (SqT K H1 a xs ∨ SqL K H1 a xs) ∧
  ∀ x dx, H1 x = Option.none → H1 dx = Option.none → dx ≠ x → sp (V.ref x :: xs) (upd (upd H1 dx (.own x)) x (.ins C dx [])) (fun v H2 => v = .non ∧ Q (.ref x) H2) E0
theorem pe_gcS {sp_ : Pos} (G : GC X.prog X.w X.K X.mg X.base x C k sp) (hr : Room j X.A) (he : PE X e te) (hk : k + 1 ≤ j := by decide) (hg : Gl X x := by rfl) (hdb : (x == ("__debug__" : Str)) = false := by decide)
    (hst : starEach [.Starred e sp_] X.env = [(true, eval e X.env)] := by rfl) : PE X (.Call (.Name x p) [.Starred e sp_] [] pos) (tKS X.K C sp te) := by
  obtain ⟨g, hm, M, F⟩ := G
  refine ⟨fun pins s σ H Q I h => ?_⟩
  refine wpAny_Call_Name_kw (ld_glob I hg hm ?_ hdb)
  refine PySem.W.callWith_S (h₀ := X.base) I.ok.mod.kin M.kp (thn (he.run pins s σ H _ I h) fun v s1 ⟨y, H1, I1, ry, a, xs, ey, hxs, q⟩ => ?_) hst
  subst ey
  obtain rfl : v = Value.ref a := ry
  exact StX.star_any I1 hxs fun us s2 I2 rv => ⟨I2.kIn, StX.run_makeR M F (hr.mono hk) pass0 I2 rv q⟩
/-- C.m(..) -/
def tSR (C : Addr) (sp : Sp) (ta : TE) (t : TA) : TE := fun σ H Q => ta σ H fun x H1 => x = V.ref C ∧ t σ H1 fun vs H2 => sp vs H2 Q E0
theorem pe_gs {pl : Sem Bool} (he : PE X o ta) (G : GS X.prog X.w X.K X.mg X.base C m k sp) (hr : Room j X.A) (ha : PA X (e :: es) t) (hk : k ≤ j := by decide)
    (hst : starEach (e :: es) X.env = (false, eval e X.env) :: starEach es X.env := by rfl) (hpl : (backTo pos (starEach es X.env)).any (·.1) = false := by rfl)
    (ht : eval (.Call (.Attribute o m apos) (e :: es) [] pos) X.env = (do
      let ov ← eval o X.env
      standAt apos.atName
      let (f, first) ← holding [ov] (getMethod ov m pl)
      callWith pos f first (backTo pos (starEach (e :: es) X.env)) (backToKw pos (keywordEach [] X.env))) := by rfl) : PE X (.Call (.Attribute o m apos) (e :: es) [] pos) (tSR C sp ta t) := by
  obtain ⟨p, g, S, F⟩ := G
  exact pe_stm he S F (hr.mono hk) pass0 ha hst hpl ht
theorem pe_gs0 {pl : Sem Bool} (he : PE X o ta) (G : GS X.prog X.w X.K X.mg X.base C m k sp) (hr : Room j X.A) (hk : k ≤ j := by decide)
    (ht : eval (.Call (.Attribute o m apos) [] [] pos) X.env = (do
      let ov ← eval o X.env
      standAt apos.atName
      let (f, first) ← holding [ov] (getMethod ov m pl)
      callWith pos f first (backTo pos (starEach [] X.env)) (backToKw pos (keywordEach [] X.env))) := by rfl) : PE X (.Call (.Attribute o m apos) [] [] pos) (tSR C sp ta tNil) := by
  obtain ⟨p, g, S, F⟩ := G
  exact pe_stm0 he S F (hr.mono hk) pass0 ht
/-- o[e], len(o), o(..), o.f = e -/
theorem pe_gi (ha : PE X a ta) (hb : PE X b tb) (G : GO X.prog X.w X.K X.mg X.base C "__getitem__" k sp) (hr : Room j X.A) (hk : k + 1 ≤ j := by decide)
    (hsl : ∀ o i, subscripted b true o i = runValue (.builtin "lifetime.subscript" ⟨[o, i], []⟩) := by intro _ _; with_unfolding_all rfl) : PE X (.Subscript a b pos) (tSubO C sp E0 ta tb) := by
  obtain ⟨g, h1, h2, h3, F⟩ := G
  exact pe_subO h1 h2 h3 F (hr.mono hk) pass0 ha hb hsl
theorem pe_gl (hm : X.mg "len" = none) (G : GO X.prog X.w X.K X.mg X.base C "__len__" k sp) (hr : Room j X.A) (ha : PA X (e :: es) t) (hk : k + 1 ≤ j := by decide) (hg : Gl X "len" := by rfl) 
    (he : starEach (e :: es) X.env = (false, eval e X.env) :: starEach es X.env := by rfl) (hpl : (backTo pos (starEach es X.env)).any (·.1) = false := by rfl) : PE X (.Call (.Name "len" p) (e :: es) [] pos) (tCB (rLenO C sp E0) t) := by
  obtain ⟨g, h1, h2, h3, F⟩ := G
  exact pe_callB (call_lenO h1 h2 F (hr.mono hk) pass0) hg hm PySem.boot_len ha (by decide) (by decide) he hpl
theorem pe_go {fe : Expr} {tf : TE} (hf : PE X fe tf) (G : GO X.prog X.w X.K X.mg X.base C "__call__" k sp) (hr : Room j X.A) (ha : PA X (e :: es) t) (hk : k ≤ j := by decide)
    (ht : eval (.Call fe (e :: es) [] pos) X.env = (do callWith pos (← eval fe X.env) [] (backTo pos (starEach (e :: es) X.env)) (backToKw pos (keywordEach [] X.env))) := by rfl)
    (he : starEach (e :: es) X.env = (false, eval e X.env) :: starEach es X.env := by rfl) (hpl : (backTo pos (starEach es X.env)).any (·.1) = false := by rfl) : PE X (.Call fe (e :: es) [] pos) (StX.tCallO X C sp E0 tf t) := by
  obtain ⟨g, h1, h2, h3, F⟩ := G
  exact StX.pe_callO hf ⟨h1, h2, h3⟩ F (hr.mono hk) pass0 ha ht he hpl
theorem ps_gw {o value : Expr} (ha : PE X o ta) (hv : PE X value tv) (c : Cls X.K C) (G : GW X.prog X.w X.K X.mg X.base C f k sp) (hr : Room j X.A) (hk : k + 2 ≤ j := by decide)
    (hs : swapsWith value (some (.Attribute o f pos')) pos.line X.env = pure false := by rfl) : PS X (.Assign [.Attribute o f pos'] value pos) (sPropSet C sp E0 ta tv) := by
  obtain ⟨p, g, S, F⟩ := G
  exact ps_propSet ha hv c S F (hr.mono hk) pass0 hs

/-! ### constants of the module, built-in classes as values -/
theorem pe_gint {n : Int} (h : ∃ t, X.mg x = some (.int n t)) (hg : Gl X x := by rfl) (hd : (x == ("__debug__" : Str)) = false := by decide) : PE X (.Name x pos) (tC (.int n)) := by
  obtain ⟨t, e⟩ := h
  exact pe_glob hg e ⟨t, rfl⟩ hd
theorem pe_gref {a : Addr} (h : X.mg x = some (.ref a)) (hg : Gl X x := by rfl) (hd : (x == ("__debug__" : Str)) = false := by decide) : PE X (.Name x pos) (tC (.ref a)) := pe_glob hg h rfl hd
theorem pe_gty {T : String} (h : X.mg x = none) (hv : bootBuiltins x = some (.type T) := by decide +kernel) (hg : Gl X x := by rfl) (hn : x ≠ "__name__" := by decide) (hd : (x == ("__debug__" : Str)) = false := by decide) : PE X (.Name x pos) (tC (.ty T)) := pe_bltn hg h hv rfl hn hd
theorem pe_cb {id : String} {r : List V → Hp → VK → Prop} (hc : CallR X (.builtin id) r) (hm : X.mg x = none) (ha : PA X (e :: es) t) (hv : bootBuiltins x = some (.builtin id) := by decide +kernel) (hg : Gl X x := by rfl) (hn : x ≠ "__name__" := by decide) (hdb : (x == ("__debug__" : Str)) = false := by decide)
    (he : starEach (e :: es) X.env = (false, eval e X.env) :: starEach es X.env := by rfl) (hpl : (backTo pos (starEach es X.env)).any (·.1) = false := by rfl) : PE X (.Call (.Name x p) (e :: es) [] pos) (tCB r t) := pe_callB hc hg hm hv ha hn hdb he hpl
theorem pe_ct {id : String} {r : List V → Hp → VK → Prop} (hc : CallR X (.type id) r) (hm : X.mg x = none) (ha : PA X (e :: es) t) (hv : bootBuiltins x = some (.type id) := by decide +kernel) (hg : Gl X x := by rfl) (hn : x ≠ "__name__" := by decide) (hdb : (x == ("__debug__" : Str)) = false := by decide)
    (he : starEach (e :: es) X.env = (false, eval e X.env) :: starEach es X.env := by rfl) (hpl : (backTo pos (starEach es X.env)).any (·.1) = false := by rfl) : PE X (.Call (.Name x p) (e :: es) [] pos) (tCB r t) := pe_callTy hc hg hm hv ha hn hdb he hpl

/-! ### a new dict, locked as it is walked -/
def tFrz (td : TE) : TE := fun σ H Q => td σ H fun x H1 => ∃ (d : Addr) (u : HO), x = .ref d ∧ H1 d = some u ∧ Mut (some u) ∧ ∀ od, Q x (upd H1 d (.frz od u))
theorem pe_frz {td : TE} (h : PE X e td) : PE X e (tFrz td) := by
  refine ⟨fun pins s σ H Q I hw => ?_⟩
  refine thn (h.run pins s σ H _ I hw) fun v s1 ⟨y, H1, I1, ry, d, u, ey, hd, mu, q⟩ => ?_
  obtain ⟨od, I2⟩ := I1.lock hd mu
  exact ⟨y, _, I2, ry, q od⟩
end
end AgC
end
section
set_option maxHeartbeats 4000000
/-! AgI: how a reading is answered: one lemma for each construct, and the step "rd" that picks it. -/
namespace AgI
open PySem PySem.Spec PyProof.Rows L2 AgR AgT AgC

/-! ### heaps -/
theorem smallB {n : Nat} (h : n ≤ 60000) : n < sizeLine := by
  rw [sizeLine_eq]
  omega
theorem same_upd {H : Hp} {p : Addr} {o : HO} (h : H p = none) : Same H (upd H p o) := fun b x e => by
  rw [upd_ne (ne_of_none e h)]
  exact e
theorem same_at {H H' : Hp} {b : Addr} {o : HO} (S : Same H H') (h : H b = some o) : H' b = some o := S b o h
/-- all but what stands at l -/
def Ex (l : Addr) (H H' : Hp) : Prop := ∀ b o, b ≠ l → H b = some o → H' b = some o
theorem ex_at {l : Addr} {H H' : Hp} {b : Addr} {o : HO} (S : Ex l H H') (h : H b = some o) (n : b ≠ l) : H' b = some o := S b o n h
theorem ex_upd {H : Hp} {p : Addr} {o : HO} : Ex p H (upd H p o) := fun _ _ h e => (upd_ne h).trans e
theorem Ex.trans {l : Addr} {H H1 H2 : Hp} (a : Ex l H H1) (b : Ex l H1 H2) : Ex l H H2 := fun c o n h => b c o n (a c o n h)
theorem Ex.refl {l : Addr} {H : Hp} : Ex l H H := fun _ _ _ h => h
theorem Ex.of {l : Addr} {H H1 : Hp} (a : Same H H1) : Ex l H H1 := fun c o _ h => a c o h
/-- what is changed was new -/
theorem Ex.same {l : Addr} {H H1 H2 : Hp} (n : H l = none) (a : Same H H1) (b : Ex l H1 H2) : Same H H2 := fun c o h => b c o (ne_of_none h n) (a c o h)

/-! ### tests -/
theorem ited {p A B : Prop} [Decidable p] (h1 : p → A) (h2 : ¬ p → B) : if decide p = true then A else B := by
  by_cases h : p
  · rw [decide_eq_true h, if_pos rfl]
    exact h1 h
  · rw [decide_eq_false h, if_neg Bool.false_ne_true]
    exact h2 h
theorem itedn {p A B : Prop} [Decidable p] (h1 : ¬ p → A) (h2 : p → B) : if (!decide p) = true then A else B := by
  by_cases h : p
  · rw [decide_eq_true h]
    exact iteF (h2 h)
  · rw [decide_eq_false h]
    exact iteT (h1 h)
theorem iteb {b : Bool} {A B : Prop} (h1 : b = true → A) (h2 : b = false → B) : if b = true then A else B := by
  cases b with
  | true => exact iteT (h1 rfl)
  | false => exact iteF (h2 rfl)
theorem iteDT {p A B : Prop} [Decidable p] (hp : p) (h : A) : if decide p = true then A else B := ited (fun _ => h) fun n => absurd hp n
theorem iteDF {p A B : Prop} [Decidable p] (hp : ¬ p) (h : B) : if decide p = true then A else B := ited (fun n => absurd n hp) fun _ => h
theorem iteNDT {p A B : Prop} [Decidable p] (hp : ¬ p) (h : A) : if (!decide p) = true then A else B := itedn (fun _ => h) fun n => absurd n hp
theorem iteNDF {p A B : Prop} [Decidable p] (hp : p) (h : B) : if (!decide p) = true then A else B := itedn (fun n => absurd hp n) fun _ => h
theorem iteBT {b : Bool} {A B : Prop} (e : b = true) (h : A) : if b = true then A else B := by
  rw [e]
  exact iteT h
theorem iteBF {b : Bool} {A B : Prop} (e : b = false) (h : B) : if b = true then A else B := by
  rw [e]
  exact iteF h
theorem iteNT {A B : Prop} (h : B) : if (!true) = true then A else B := iteF h
theorem iteNF {A B : Prop} (h : A) : if (!false) = true then A else B := iteT h
theorem iteq {b c : Bool} {A B : Prop} (e : b = c) (h : if c = true then A else B) : if b = true then A else B := by
  rw [e]
  exact h

/-! ### own, simpler rules -/
section
variable {X : Cx} {o e value a b : Expr} {es : List Expr} {f x m : Str} {pos pos' p apos : Pos} {ta tb te tv : TE} {t : TA} {C : Addr}
def kF (C : Addr) (f : Str) (x : V) (H : Hp) (Q : VK) : Prop := ∃ (a dx : Addr) (fs : List (Str × V)) (v : V), x = .ref a ∧ H a = some (.ins C dx fs) ∧ fs.lookup f = some v ∧ Q v H
/-- o.f -/
def tF (C : Addr) (f : Str) (ta : TE) : TE := fun σ H Q => ta σ H fun x H1 => kF C f x H1 Q
theorem pe_f (he : PE X e ta) (c : Cls X.K C) (n : NoAttr X.K C f) (hb : attributeBase e f X.env (eval e X.env) = eval e X.env := by rfl) : PE X (.Attribute e f pos) (tF C f ta) := by
  refine ⟨fun pins s σ H Q I h => ?_⟩
  refine attr_of hb (thn (he.run pins s σ H _ I h) fun u s1 ⟨x, H1, I1, rx, a, dx, fs, v, ex, ea, l, q⟩ => ?_)
  subst ex
  obtain rfl : u = Value.ref a := rx
  exact getattr_ok I1 ea c n l fun u' s2 I2 ru => ⟨v, H1, I2, ru, q⟩
/-- o.f = value -/
def kSF (C : Addr) (f : Str) (y x : V) (H : Hp) (N : Hp → Prop) : Prop := ∃ (a dx : Addr) (fs : List (Str × V)), x = .ref a ∧ H a = some (.ins C dx fs) ∧ fs.length < 1000 ∧ N (upd H a (.ins C dx (putF f y fs)))
def sF (C : Addr) (f : Str) (ta tv : TE) : TS := fun D σ H => tv σ H fun y H1 => ta σ H1 fun x H2 => kSF C f y x H2 fun H3 => D.nx σ H3
theorem ps_f (ha : PE X o ta) (hv : PE X value tv) (c : Cls X.K C) (n : NoAttr X.K C f) (hs : swapsWith value (some (.Attribute o f pos')) pos.line X.env = pure false := by rfl) : PS X (.Assign [.Attribute o f pos'] value pos) (sF C f ta tv) := by
  refine ⟨fun pins s σ H D I h => ?_⟩
  refine plainObj_wpAny_Assign_Attribute (thn (hv.run pins s σ H _ I h) fun u s1 ⟨y, H1, I1, ry, q⟩ => thn (ha.run pins s1 σ H1 _ I1 q) fun ov s2 ⟨x, H2, I2, rx, a, dx, fs, ex, ea, l, q2⟩ => ?_) hs
  subst ex
  obtain rfl : ov = Value.ref a := rx
  exact setattr_ok I2 ea c n l ry fun s3 I3 => ⟨σ, _, I3, q2⟩
theorem OpR.imp {g} {r r' : R2} (h : OpR X g r) (i : ∀ x y H Q, r' x y H Q → r x y H Q) : OpR X g r' := fun pins s σ H x y v u Q I rx ry q => h pins s σ H x y v u Q I rx ry (i _ _ _ _ q)
theorem CallR.imp {g : Value} {r r' : List V → Hp → VK → Prop} (h : CallR X g r) (i : ∀ x H Q, r' x H Q → r x H Q) : CallR X g r' := fun pins s σ H xs us Q I r1 q => h pins s σ H xs us Q I r1 (i _ _ _ q)
/-- is None, is not None -/
def rIsN : R2 := fun x y H Q => y = .non ∧ Q (.bl (decide (x = .non))) H
def rNotN : R2 := fun x y H Q => y = .non ∧ Q (.bl (!decide (x = .non))) H
theorem op_isN' : OpR X (compareOp .Is) rIsN := op_isN
theorem op_notN' : OpR X (compareOp .IsNot) rNotN := op_notN
/-- len of a list, a tuple -/
def rLn (K : PySem.W.Frag) : List V → Hp → VK → Prop := fun xs H Q => ∃ p ys, xs = [.ref p] ∧ (SqL K H p ys ∨ SqT K H p ys) ∧ Q (.int ys.length) H
theorem call_ln : CallR X (.builtin "len") (rLn X.K) := call_len_seq
/-- l.append(e) -/
def kApp (x y : V) (H : Hp) (Q : VK) : Prop := ∃ l xs, x = .ref l ∧ H l = some (.lst xs) ∧ xs.length < sizeLine ∧ Q .non (upd H l (.lst (xs ++ [y])))
def tApp (K : PySem.W.Frag) (to te : TE) : TE := fun σ H Q => to σ H fun x H1 => (∃ l xs, x = .ref l ∧ SqL K H1 l xs) ∧ te σ H1 fun y H2 => kApp x y H2 Q
end
section
variable {K : PySem.W.Frag} {σ : L2.St} {H : Hp} {Q : VK} {R : It → Hp → Prop} {D : Ends} {E : XK} {C : Addr} {x y : V} {ta tb te tv tc : TE} {t u : TS} {tt tt2 : TT} {tr : TA} {f m : Str} {i j : Int} {a p dx : Addr} {xs ys : List V} {fs : List (Str × V)} {sp : Sp} {v : V} {QB : Bool → Hp → Prop} {n : Nat}
  {nx bk ct : L2.St → Hp → Prop} {rt : VK} {b : Bool} {r r' : R2} {rl : List V → Hp → VK → Prop} {tl : TO} {wi : TI} {g : TG} {QS : L2.St → Hp → Prop} {w1 : V}
theorem rd_var (h : σ[n]? = some (some v)) (q : Q v H) : tVar n σ H Q := ⟨v, h, q⟩
theorem rd_C (q : Q v H) : tC v σ H Q := q
theorem rd_op (h : ta σ H fun x H1 => tb σ H1 fun y H2 => r x y H2 Q) : tOp r ta tb σ H Q := h
theorem rd_un {ru : V → Hp → VK → Prop} (h : ta σ H fun x H1 => ru x H1 Q) : tUn ru ta σ H Q := h
theorem rd_I0 {g : Int → Int → V} (q : Q (g i j) H) : rI0 g (.int i) (.int j) H Q := ⟨i, j, rfl, rfl, q⟩
theorem rd_I {c : Int → Int → Prop} {g : Int → Int → V} (hc : c i j) (q : Q (g i j) H) : rI c g (.int i) (.int j) H Q := ⟨i, j, rfl, rfl, hc, q⟩
theorem rd_U {g : Int → V} (q : Q (g i) H) : rU g (.int i) H Q := ⟨i, rfl, q⟩
theorem rd_eqi (q : Q (.bl (decide (i = j))) H) : rEq (.int i) (.int j) H Q := ⟨rfl, by
  rw [show decide (V.int i = V.int j) = decide (i = j) from by simp]
  exact q⟩
theorem rd_nei (q : Q (.bl (!decide (i = j))) H) : rNe (.int i) (.int j) H Q := ⟨rfl, by
  rw [show decide (V.int i = V.int j) = decide (i = j) from by simp]
  exact q⟩
theorem rd_eqs {s z : Str} (q : Q (.bl (decide (s = z))) H) : rEq (.str s) (.str z) H Q := ⟨rfl, by
  rw [show decide (V.str s = V.str z) = decide (s = z) from by simp]
  exact q⟩
theorem rd_nes {s z : Str} (q : Q (.bl (!decide (s = z))) H) : rNe (.str s) (.str z) H Q := ⟨rfl, by
  rw [show decide (V.str s = V.str z) = decide (s = z) from by simp]
  exact q⟩
theorem rd_eqb {c d : Bool} (q : Q (.bl (decide (c = d))) H) : rEq (.bl c) (.bl d) H Q := ⟨rfl, by
  rw [show decide (V.bl c = V.bl d) = decide (c = d) from by simp]
  exact q⟩
theorem rd_eqin (q : Q (.bl false) H) : rEq (.int i) .non H Q := ⟨rfl, q⟩
theorem rd_eqni (q : Q (.bl false) H) : rEq .non (.int i) H Q := ⟨rfl, q⟩
theorem rd_eqnn (q : Q (.bl true) H) : rEq .non .non H Q := ⟨rfl, q⟩
theorem rd_isn (q : Q (.bl (decide (x = .non))) H) : rIsN x .non H Q := ⟨rfl, q⟩
theorem rd_notn (q : Q (.bl (!decide (x = .non))) H) : rNotN x .non H Q := ⟨rfl, q⟩
theorem rd_isn_i (q : Q (.bl false) H) : rIsN (.int i) .non H Q := ⟨rfl, q⟩
theorem rd_notn_i (q : Q (.bl true) H) : rNotN (.int i) .non H Q := ⟨rfl, q⟩
theorem rd_isn_r (q : Q (.bl false) H) : rIsN (.ref a) .non H Q := ⟨rfl, q⟩
theorem rd_notn_r (q : Q (.bl true) H) : rNotN (.ref a) .non H Q := ⟨rfl, q⟩
theorem rd_isn_n (q : Q (.bl true) H) : rIsN .non .non H Q := ⟨rfl, q⟩
theorem rd_notn_n (q : Q (.bl false) H) : rNotN .non .non H Q := ⟨rfl, q⟩
theorem rd_chain (h : ta σ H fun x H1 => tb σ H1 fun y H2 => r x y H2 fun z H3 => ∃ k, z = .bl k ∧ if k = true then tc σ H3 fun w H4 => r' y w H4 Q else Q (.bl false) H3) : tChain r r' ta tb tc σ H Q := h
theorem rd_ex {P : Bool → Prop} (h : P b) : ∃ k, V.bl b = .bl k ∧ P k := ⟨b, rfl, h⟩
theorem rd_test (h : ta σ H fun x H1 => ∃ k, x = .bl k ∧ QB k H1) : tTest ta σ H QB := h
theorem rd_B (h : ta σ H fun x H1 => ∃ k, x = .bl k ∧ QB k H1) : tB ta σ H QB := h
theorem rd_and (h : tt σ H fun c H1 => if c = true then tt2 σ H1 QB else QB false H1) : tAnd tt tt2 σ H QB := h
theorem rd_or (h : tt σ H fun c H1 => if c = true then QB true H1 else tt2 σ H1 QB) : tOr tt tt2 σ H QB := h
theorem rd_not (h : tt σ H fun c H1 => QB (!c) H1) : tNot tt σ H QB := h
theorem rd_yes (h : QB true H) : tYes σ H QB := h
theorem rd_andV (h : ta σ H fun x H1 => ∃ c, x = .bl c ∧ if c = true then tb σ H1 Q else Q (.bl false) H1) : tAndV ta tb σ H Q := h
theorem rd_orV (h : ta σ H fun x H1 => ∃ c, x = .bl c ∧ if c = true then Q (.bl true) H1 else tb σ H1 Q) : tOrV ta tb σ H Q := h
theorem rd_notV (h : ta σ H fun x H1 => ∃ c, x = .bl c ∧ Q (.bl (!c)) H1) : tNotV ta σ H Q := h
theorem rd_if (h : tt σ H fun c H1 => if c = true then ta σ H1 Q else tb σ H1 Q) : tIf tt ta tb σ H Q := h
theorem rd_CB (h : tr σ H fun vs H1 => rl vs H1 Q) : tCB rl tr σ H Q := h
theorem rd_nil {QA : List V → Hp → Prop} (h : QA [] H) : tNil σ H QA := h
theorem rd_cons {QA : List V → Hp → Prop} (h : ta σ H fun x H1 => tr σ H1 fun xs H2 => QA (x :: xs) H2) : tCons ta tr σ H QA := h
def kStar (K : PySem.W.Frag) (tr : TA) (σ : L2.St) (x : V) (H : Hp) (QA : List V → Hp → Prop) : Prop := ∃ p xs, x = V.ref p ∧ (SqT K H p xs ∨ SqL K H p xs) ∧ tr σ H fun ys H2 => QA (xs ++ ys) H2
theorem rd_star {QA : List V → Hp → Prop} (h : te σ H fun x H1 => kStar K tr σ x H1 QA) : StX.tStar K te tr σ H QA := h
theorem rd_kStar {QA : List V → Hp → Prop} (h : SqT K H p xs) (q : tr σ H fun ys H2 => QA (xs ++ ys) H2) : kStar K tr σ (.ref p) H QA := ⟨p, xs, rfl, .inl h, q⟩
theorem rd_CR (h : tr σ H fun vs H1 => sp vs H1 Q E0) : tCR sp tr σ H Q := h
def kM (C : Addr) (m : Str) (x : V) (H : Hp) (N : Prop) : Prop := ∃ (a dx : Addr) (fs : List (Str × V)), x = .ref a ∧ H a = some (.ins C dx fs) ∧ fs.lookup m = none ∧ N
theorem rd_kM (h : H a = some (.ins C dx fs)) (l : fs.lookup m = none) {N : Prop} (q : N) : kM C m (.ref a) H N := ⟨a, dx, fs, rfl, h, l, q⟩
theorem rd_MR (h : ta σ H fun x H1 => kM C m x H1 (tr σ H1 fun vs H2 => sp (x :: vs) H2 Q E0)) : tMR C m sp ta tr σ H Q := h
def kPR (C : Addr) (sp : Sp) (x : V) (H : Hp) (Q : VK) : Prop := ∃ (a dx : Addr) (fs : List (Str × V)), x = .ref a ∧ H a = some (.ins C dx fs) ∧ sp [.ref a] H Q E0
theorem rd_kPR (h : H a = some (.ins C dx fs)) (q : sp [.ref a] H Q E0) : kPR C sp (.ref a) H Q := ⟨a, dx, fs, rfl, h, q⟩
theorem rd_PR (h : ta σ H fun x H1 => kPR C sp x H1 Q) : tPR C sp ta σ H Q := h
def kKR (C : Addr) (sp : Sp) (vs : List V) (H : Hp) (Q : VK) : Prop := ∀ x dx, H x = none → H dx = none → dx ≠ x → sp (V.ref x :: vs) (upd (upd H dx (.own x)) x (.ins C dx [])) (fun v H2 => v = .non ∧ Q (.ref x) H2) E0
theorem rd_kKR (h : ∀ x dx H1, H x = none → Same H H1 → H1 x = some (.ins C dx []) → sp (V.ref x :: xs) H1 (fun v H2 => v = .non ∧ Q (.ref x) H2) E0) : kKR C sp xs H Q := fun x dx n1 n2 ne =>
  h x dx _ n1 (fun b o e => by rw [upd_ne (ne_of_none e n1), upd_ne (ne_of_none e n2)]; exact e) upd_same
theorem rd_KR (h : tr σ H fun vs H1 => kKR C sp vs H1 Q) : tKR C sp tr σ H Q := h
def kKS (K : PySem.W.Frag) (C : Addr) (sp : Sp) (y : V) (H : Hp) (Q : VK) : Prop := ∃ (a : Addr) (xs : List V), y = V.ref a ∧ (SqT K H a xs ∨ SqL K H a xs) ∧ kKR C sp xs H Q
theorem rd_KS (h : te σ H fun y H1 => kKS K C sp y H1 Q) : tKS K C sp te σ H Q := h
theorem rd_SR (h : ta σ H fun x H1 => x = V.ref C ∧ tr σ H1 fun vs H2 => sp vs H2 Q E0) : tSR C sp ta tr σ H Q := h
def kSubO (C : Addr) (sp : Sp) (x y : V) (H : Hp) (Q : VK) : Prop := ∃ (a dx : Addr) (fs : List (Str × V)), x = V.ref a ∧ H a = some (.ins C dx fs) ∧ sp [.ref a, y] H Q E0
theorem rd_kSubO (h : H a = some (.ins C dx fs)) (q : sp [.ref a, y] H Q E0) : kSubO C sp (.ref a) y H Q := ⟨a, dx, fs, rfl, h, q⟩
theorem rd_SubO (h : ta σ H fun x H1 => tb σ H1 fun y H2 => kSubO C sp x y H2 Q) : tSubO C sp E0 ta tb σ H Q := h
theorem rd_LenO (h : H a = some (.ins C dx fs)) (q : sp [.ref a] H (fun z H' => ∃ i : Int, z = .int i ∧ 0 ≤ i ∧ i < 2 ^ 63 ∧ Q (.int i) H') E0) : rLenO C sp E0 [.ref a] H Q := ⟨a, dx, fs, rfl, h, q⟩
theorem rd_F (h : ta σ H fun x H1 => kF C f x H1 Q) : tF C f ta σ H Q := h
theorem rd_kF (h : H a = some (.ins C dx fs)) (l : fs.lookup f = some v) (q : Q v H) : kF C f (.ref a) H Q := ⟨a, dx, fs, v, rfl, h, l, q⟩
theorem rd_sF (h : tv σ H fun y H1 => ta σ H1 fun x H2 => kSF C f y x H2 fun H3 => D.nx σ H3) : sF C f ta tv D σ H := h
theorem rd_kSF {N : Hp → Prop} (h : H a = some (.ins C dx fs)) (l : fs.length < 1000) (q : ∀ H1, Ex a H H1 → H1 a = some (.ins C dx (putF f y fs)) → N H1) : kSF C f y (.ref a) H N := ⟨a, dx, fs, rfl, h, l, q _ ex_upd upd_same⟩
/-! sequences -/
theorem rd_ixL (h : SqL K H p xs) (e : atI xs i = some v) (q : Q v H) : rIxL K (.ref p) (.int i) H Q := ⟨p, xs, i, v, rfl, rfl, h, e, q⟩
theorem rd_ixT (h : SqT K H p xs) (e : atI xs i = some v) (q : Q v H) : rIxT K (.ref p) (.int i) H Q := ⟨p, xs, i, v, rfl, rfl, h, e, q⟩
theorem sql {H : Hp} (h : H p = some (.lst xs)) : SqL K H p xs := .inl (.inl h)
theorem sqt {H : Hp} (h : H p = some (.tup xs)) : SqT K H p xs := .inl (.inl h)
theorem rd_in (h : SqL K H p xs ∨ SqT K H p xs) (h1 : flatV x = true) (h2 : xs.all flatV = true) (q : Q (.bl (inV x xs)) H) : rIn K false x (.ref p) H Q := ⟨p, xs, rfl, h, h1, h2, q⟩
theorem rd_nin (h : SqL K H p xs ∨ SqT K H p xs) (h1 : flatV x = true) (h2 : xs.all flatV = true) (q : Q (.bl (!inV x xs)) H) : rIn K true x (.ref p) H Q := ⟨p, xs, rfl, h, h1, h2, q⟩
theorem rd_ln (h : SqL K H p xs ∨ SqT K H p xs) (q : Q (.int xs.length) H) : rLn K [.ref p] H Q := ⟨p, xs, rfl, h, q⟩
def kTup (xs : List V) (H : Hp) (Q : VK) : Prop := xs.length ≤ sizeLine ∧ ∀ p, H p = none → Q (.ref p) (upd H p (.tup xs))
def kLst (xs : List V) (H : Hp) (Q : VK) : Prop := xs.length ≤ sizeLine ∧ ∀ p, H p = none → Q (.ref p) (upd H p (.lst xs))
theorem rd_tup (h : tr σ H fun xs H1 => kTup xs H1 Q) : tTup tr σ H Q := h
theorem rd_lst (h : tr σ H fun xs H1 => kLst xs H1 Q) : tLst tr σ H Q := h
theorem rd_kTup (l : xs.length ≤ 60000) (h : ∀ p H1, H p = none → Same H H1 → H1 p = some (.tup xs) → Q (.ref p) H1) : kTup xs H Q := ⟨Nat.le_of_lt (smallB l), fun p np => h p _ np (same_upd np) upd_same⟩
theorem rd_kLst (l : xs.length ≤ 60000) (h : ∀ p H1, H p = none → Same H H1 → H1 p = some (.lst xs) → Q (.ref p) H1) : kLst xs H Q := ⟨Nat.le_of_lt (smallB l), fun p np => h p _ np (same_upd np) upd_same⟩
theorem rd_kApp {l : Addr} (h : H l = some (.lst xs)) (z : xs.length ≤ 60000) (q : ∀ H1, Ex l H H1 → H1 l = some (.lst (xs ++ [y])) → Q .non H1) : rAppend (.ref l) [y] H Q := ⟨l, xs, y, rfl, rfl, h, smallB z, q _ ex_upd upd_same⟩
def kTy (K : PySem.W.Frag) (T : String) (x : V) (H : Hp) (N : Prop) : Prop := tyV K T x H ∧ N
theorem rd_BM {T : String} {rm : V → List V → Hp → VK → Prop} (h : ta σ H fun x H1 => kTy K T x H1 (tr σ H1 fun xs H2 => rm x xs H2 Q)) : tBM K T rm ta tr σ H Q := h
theorem rd_kTyL {N : Prop} (h : H p = some (.lst xs)) (q : N) : kTy K "list" (.ref p) H N := ⟨.inl ⟨rfl, xs, sql h⟩, q⟩
def kSl (r : V → Option Int → Option Int → Hp → VK → Prop) (x : V) (a b : Option Int) (H : Hp) (Q : VK) : Prop := r x a b H Q
theorem rd_sl {r : V → Option Int → Option Int → Hp → VK → Prop} {tl th : TO} (h : te σ H fun x H1 => tl σ H1 fun l H2 => th σ H2 fun u H3 => r x l u H3 Q) : tSl r te tl th σ H Q := h
theorem rd_noPart {QO : Option Int → Hp → Prop} (h : QO none H) : tNoPart σ H QO := h
theorem rd_part {QO : Option Int → Hp → Prop} (h : ta σ H fun x H1 => ∃ i, x = .int i ∧ QO (some i) H1) : tPart ta σ H QO := h
theorem rd_exi {P : Int → Prop} (h : P i) : ∃ k, V.int i = .int k ∧ P k := ⟨i, rfl, h⟩
theorem rd_slT {lo hi : Option Int} (h : SqT K H p xs) (hw : ¬ (HT.sIx xs.length 0 lo = 0 ∧ HT.sIx xs.length xs.length hi = xs.length)) (q : ∀ q H1, H q = none → Same H H1 → H1 q = some (.tup (cutV xs lo hi)) → Q (.ref q) H1) : rSlT K (.ref p) lo hi H Q :=
  ⟨p, xs, rfl, h, hw, fun q' nq => q q' _ nq (same_upd nq) upd_same⟩
theorem rd_slL {lo hi : Option Int} (h : SqL K H p xs) (q : ∀ q H1, H q = none → Same H H1 → H1 q = some (.lst (cutV xs lo hi)) → Q (.ref q) H1) : rSlL K (.ref p) lo hi H Q :=
  ⟨p, xs, rfl, h, fun q' nq => q q' _ nq (same_upd nq) upd_same⟩
/-! statements -/
theorem rd_seq (h : t ⟨u ⟨nx, rt, bk, ct⟩, rt, bk, ct⟩ σ H) : tSeq t u ⟨nx, rt, bk, ct⟩ σ H := h
theorem rd_ifS (h : tt σ H fun b H1 => if b = true then t ⟨nx, rt, bk, ct⟩ σ H1 else u ⟨nx, rt, bk, ct⟩ σ H1) : tIfS tt t u ⟨nx, rt, bk, ct⟩ σ H := h
theorem rd_ret (h : te σ H rt) : tRet te ⟨nx, rt, bk, ct⟩ σ H := h
theorem rd_drop (h : te σ H fun _ H1 => nx σ H1) : tDrop te ⟨nx, rt, bk, ct⟩ σ H := h
theorem rd_next (h : nx σ H) : tNext ⟨nx, rt, bk, ct⟩ σ H := h
theorem rd_asg (h : te σ H fun x H1 => g x σ H1 nx) : tAsg te g ⟨nx, rt, bk, ct⟩ σ H := h
theorem rd_gname (h : QS (σ.set n (some v)) H) : gName n v σ H QS := h
theorem rd_gsub {to ti : TE} {ts : TSet} (h : to σ H fun o H1 => ti σ H1 fun i H2 => ts o i v H2 fun H3 => QS σ H3) : gSub to ti ts v σ H QS := h
theorem rd_par {k l : Nat} (h : tr σ H fun vs H1 => ∃ v w, vs = [v, w] ∧ nx ((σ.set k (some v)).set l (some w)) H1) : tPar k l tr ⟨nx, rt, bk, ct⟩ σ H := h
theorem rd_for (h : wi σ H fun J H1 => ∃ W : Nat → Nat → L2.St → Hp → Prop, (∃ m, W 0 m σ H1) ∧ ∀ i m σ H, W i m σ H →
  (J.stop i H ∧ nx σ H) ∨ (J.go i H ∧ ∃ N : L2.St → Hp → Prop, (∀ σ' H', N σ' H' → ∃ m', m' < m ∧ W (i + 1) m' σ' H') ∧ ∀ x H', J.yld i H x H' → g x σ H' fun σ2 H2 => t ⟨N, rt, nx, N⟩ σ2 H2)) : tFor wi g t ⟨nx, rt, bk, ct⟩ σ H := h
theorem rd_iL (h : ta σ H fun x H1 => ∃ a, x = .ref a ∧ (∃ xs, SqL K H1 a xs) ∧ R (Itl K a) H1) : iList K ta σ H R := h
theorem rd_iT (h : ta σ H fun x H1 => ∃ a, x = .ref a ∧ (∃ xs, SqT K H1 a xs) ∧ R (Itt K a) H1) : iTup K ta σ H R := h
theorem rd_iR1 (h : tr σ H fun vs H1 => ∃ j : Int, vs = [.int j] ∧ -(2 ^ 62) ≤ j ∧ j < 2 ^ 62 ∧ R (Itr 0 j.toNat) H1) : iRng1 tr σ H R := h
theorem rd_iR2 (h : tr σ H fun vs H1 => ∃ i j : Int, vs = [.int i, .int j] ∧ (-(2 ^ 62) ≤ i ∧ i < 2 ^ 62 ∧ -(2 ^ 62) ≤ j ∧ j < 2 ^ 62) ∧ R (Itr i (j - i).toNat) H1) : iRng2 tr σ H R := h
theorem rd_iE (h : tr σ H fun vs H1 => ∃ a xs, vs = [.ref a] ∧ SqL K H1 a xs ∧ R (Ite K a) H1) : iEnum K tr σ H R := h
/-! built-in calls -/
theorem rd_isi {c : V} {tx tc : Value} (k : ClsV c tc) (ty : TyX K H x tx) (e : PySem.W.kitOne K tx tc = some b) (q : Q (.bl b) H) : rIsi K [x, c] H Q := ⟨x, c, tx, tc, b, rfl, k, ty, e, q⟩
theorem rd_isi_ii (q : Q (.bl true) H) : rIsi K [.int i, .ty "int"] H Q := rd_isi (.ty _) (.base (.int _)) (kit_ty (by decide +kernel)) q
theorem rd_isi_ib (q : Q (.bl false) H) : rIsi K [.int i, .ty "bool"] H Q := rd_isi (.ty _) (.base (.int _)) (kit_ty (by decide +kernel)) q
theorem rd_isi_bb (q : Q (.bl true) H) : rIsi K [.bl b, .ty "bool"] H Q := rd_isi (.ty _) (.base (.bl _)) (kit_ty (by decide +kernel)) q
theorem rd_isi_ss {s : Str} (q : Q (.bl true) H) : rIsi K [.str s, .ty "str"] H Q := rd_isi (.ty _) (.base (.str _)) (kit_ty (by decide +kernel)) q
theorem rd_isi_tt (h : H a = some (.tup xs)) (q : Q (.bl true) H) : rIsi K [.ref a, .ty "tuple"] H Q := rd_isi (.ty _) (.base (.tup h)) (kit_ty (by decide +kernel)) q
theorem rd_isi_own (c : C8.InsC K C) (h : H a = some (.ins C dx fs)) (q : Q (.bl true) H) : rIsi K [.ref a, .ref C] H Q := rd_isi (.own _) (.base (.ins h c.cl c.ha c.hn c.htk c.hm)) c.me q
theorem rd_isi_int {M : Addr} (c : PySem.W.kitOne K (.type "int") (.ref M) = some b) (q : Q (.bl b) H) : rIsi K [.int i, .ref M] H Q := rd_isi (.own _) (.base (.int _)) c q
end

/-! ### the steps -/
theorem same_refl {H : Hp} : Same H H := Same.refl H
theorem same_trans {H H1 H2 : Hp} (b : Same H1 H2) (a : Same H H1) : Same H H2 := a.trans b
end AgI
end
section
set_option maxHeartbeats 4000000
/-! AgJ: the rules with the written part by name; readings of built-in calls; comprehensions and loops whose turns only add to the heap. -/
namespace AgJ
open PySem PySem.Spec PyProof.Rows L2 AgR AgT AgC AgI
section
variable {X : Cx} {K : PySem.W.Frag} {e a b : Expr} {es : List Expr} {ta te td : TE} {t : TA} {pos : Pos} {T : String} {name : Str} {id : String}
theorem jx_list (h : X.K = K := by rfl) : IxR X (rIxL K) := h ▸ ix_list
theorem jx_tup (h : X.K = K := by rfl) : IxR X (rIxT K) := h ▸ ix_tup
theorem jo_in (h : X.K = K := by rfl) : OpR X (compareOp .In) (rIn K false) := h ▸ op_in_seq
theorem jo_nin (h : X.K = K := by rfl) : OpR X (compareOp .NotIn) (rIn K true) := h ▸ op_notIn_seq
theorem jo_eqD (hu : X.A.units + 64 < cLine) (h : X.K = K := by rfl) : OpR X (compareOp .Eq) (rEqD K) := h ▸ op_eqD hu
theorem jo_neD (hu : X.A.units + 64 < cLine) (h : X.K = K := by rfl) : OpR X (compareOp .NotEq) (rNeD K) := h ▸ op_neD hu
theorem jo_inD (hu : X.A.units + 65 < cLine) (h : X.K = K := by rfl) : OpR X (compareOp .In) (rInD K) := h ▸ op_inD hu
theorem jo_ninD (hu : X.A.units + 65 < cLine) (h : X.K = K := by rfl) : OpR X (compareOp .NotIn) (rNotInD K) := h ▸ op_notInD hu
theorem jo_catT (h : X.K = K := by rfl) : OpR X (binaryOp .Add) (rCatA K) := h ▸ op_catA
theorem js_list (h : X.K = K := by rfl) : SlR X (rSlL K) := h ▸ sl_list
theorem js_tup (h : X.K = K := by rfl) : SlR X (rSlT K) := h ▸ sl_tup
theorem jg_tup {es : List Expr} {k : Nat} {t : TGs} {n : Nat} (hc : X.calm = true) (g : PGs X es t) (hn : (assignEach es X.env).length = n := by rfl) (hst : (assignEach es X.env).findIdx? (·.1) = none := by rfl) (h : X.K = K := by rfl) : PG X (.Tuple es k pos) (gTup K n t) := h ▸ pg_tup hc g hn hst
theorem ji_list {tg l : Expr} {tl : TE} (hl : PE X l tl) (h : X.K = K := by rfl) : PI X tg l (iList K tl) := h ▸ pi_list hl
theorem ji_tup {tg l : Expr} {tl : TE} (hl : PE X l tl) (h : X.K = K := by rfl) : PI X tg l (iTup K tl) := h ▸ pi_tup hl
theorem jc_ln (h : X.K = K := by rfl) : CallR X (.builtin "len") (rLn K) := h ▸ call_ln
theorem jc_isi (h : X.K = K := by rfl) : CallR X (.builtin "isinstance") (rIsi K) := h ▸ call_isi
theorem jc_isiT (h : X.K = K := by rfl) : CallR X (.builtin "isinstance") (rIsiT K) := h ▸ call_isiT
theorem jc_min (hc : X.calm = true) (h : X.K = K := by rfl) : CallR X (.builtin "min") (rMin K) := h ▸ cr_min hc
theorem jc_max (hc : X.calm = true) (h : X.K = K := by rfl) : CallR X (.builtin "max") (rMax K) := h ▸ cr_max hc
theorem jc_any (hc : X.calm = true) (h : X.K = K := by rfl) : CallR X (.builtin "any") (rAny K) := h ▸ cr_any hc
theorem jc_all (hc : X.calm = true) (h : X.K = K := by rfl) : CallR X (.builtin "all") (rAll K) := h ▸ cr_all hc
theorem jc_sorted (h : X.K = K := by rfl) : CallR X (.builtin "sorted") (rSortedI K) := h ▸ cr_sortedI
def rLof (K : PySem.W.Frag) : List V → Hp → VK → Prop := fun xs H Q => ∃ p ys, xs = [.ref p] ∧ (SqL K H p ys ∨ SqT K H p ys) ∧ ∀ l, H l = none → Q (.ref l) (upd H l (.lst ys))
theorem jc_list (h : X.K = K := by rfl) : CallR X (.type "list") (rLof K) := h ▸ call_list_of
def rTof (K : PySem.W.Frag) : List V → Hp → VK → Prop := fun xs H Q => ∃ p ys, xs = [.ref p] ∧ SqL K H p ys ∧ ∀ l, H l = none → Q (.ref l) (upd H l (.tup ys))
theorem jc_tuple (h : X.K = K := by rfl) : CallR X (.type "tuple") (rTof K) := h ▸ CallR.imp call_tuple_of fun _ _ _ ⟨p, ys, e, s, q⟩ => ⟨p, ys, e, .inl ⟨s, q⟩⟩
def rI1 : List V → Hp → VK → Prop := fun xs H Q => ∃ i, xs = [.int i] ∧ Q (.int i) H
def rI1b : List V → Hp → VK → Prop := fun xs H Q => ∃ k, xs = [.bl k] ∧ Q (.int (if k then 1 else 0)) H
theorem jc_int : CallR X (.type "int") rI1 := CallR.imp call_int1 fun _ _ _ h => .inl h
theorem jc_intb : CallR X (.type "int") rI1b := CallR.imp call_int1 fun _ _ _ h => .inr h
def rAbs : List V → Hp → VK → Prop := fun xs H Q => ∃ i, xs = [.int i] ∧ Q (.int (if i < 0 then -i else i)) H
theorem jc_abs : CallR X (.builtin "abs") rAbs := call_abs
def rMax2 : List V → Hp → VK → Prop := fun xs H Q => ∃ i j, xs = [.int i, .int j] ∧ Q (.int (if j > i then j else i)) H
def rMin2 : List V → Hp → VK → Prop := fun xs H Q => ∃ i j, xs = [.int i, .int j] ∧ Q (.int (if j < i then j else i)) H
theorem jc_max2 (hc : X.calm = true) : CallR X (.builtin "max") rMax2 := call_max2 hc
theorem jc_min2 (hc : X.calm = true) : CallR X (.builtin "min") rMin2 := call_min2 hc
theorem ja_star {es : List Expr} {p : Pos} (he : PE X e te) (hr : PA X es t) (hs : starEach (.Starred e p :: es) X.env = (true, eval e X.env) :: starEach es X.env := by rfl) (h : X.K = K := by rfl) : PA X (.Starred e p :: es) (StX.tStar K te t) := h ▸ StX.pa_star he hr hs
theorem je_app {o e : Expr} {to : TE} {t : TA} {apos cpos : Pos} (ho : PE X o to) (ha : PA X [e] t)
    (hbase : attributeBase o "append" X.env (eval o X.env) = eval o X.env := by rfl)
    (hfew : ((backTo cpos (starEach [e] X.env)).all (fun x => !x.1) && (backToKw cpos (keywordEach [] X.env)).all (fun x => x.1.isSome)
      && decide ([e].length + ([] : List Keyword).length + (if ([] : List Keyword).isEmpty then 0 else 1) < 30)) = true := by rfl)
    (hline : (apos.endLine == cpos.line) = true := by rfl) (hs : starEach [e] X.env = (false, eval e X.env) :: starEach [] X.env := by rfl) (hplain : (backTo cpos (starEach [] X.env)).any (·.1) = false := by rfl) (h : X.K = K := by rfl) :
    PE X (.Call (.Attribute o "append" apos) [e] [] cpos) (tBM K "list" rAppend to t) := h ▸ pe_bm PySem.F.plainAttrs_list PySem.F.slot_list_append PySem.F.type_list_append mt_append ho ha hbase hfew hline hs hplain
end
section
variable {K : PySem.W.Frag} {σ : L2.St} {H : Hp} {Q : VK} {i j : Int} {p a : Addr} {xs ys : List V} {x : V} {b : Bool} {ns : List Int} {bs : List Bool}
theorem rd_int (q : Q (.int i) H) : rI1 [.int i] H Q := ⟨i, rfl, q⟩
theorem rd_intb (q : Q (.int (b2i b)) H) : rI1b [.bl b] H Q := ⟨b, rfl, q⟩
theorem rd_abs (q : Q (.int (if i < 0 then -i else i)) H) : rAbs [.int i] H Q := ⟨i, rfl, q⟩
theorem rd_max2 (q : Q (.int (if j > i then j else i)) H) : rMax2 [.int i, .int j] H Q := ⟨i, j, rfl, q⟩
theorem rd_min2 (q : Q (.int (if j < i then j else i)) H) : rMin2 [.int i, .int j] H Q := ⟨i, j, rfl, q⟩
theorem rd_any (h : SqL K H a (bs.map V.bl)) (q : Q (.bl (bs.any fun b => b)) H) : rAny K [.ref a] H Q := ⟨a, bs, rfl, h, q⟩
theorem rd_all (h : SqL K H a (bs.map V.bl)) (q : Q (.bl (bs.all fun b => b)) H) : rAll K [.ref a] H Q := ⟨a, bs, rfl, h, q⟩
theorem rd_lof (h : SqL K H p xs ∨ SqT K H p xs) (q : ∀ l H1, H l = none → Same H H1 → H1 l = some (.lst xs) → Q (.ref l) H1) : rLof K [.ref p] H Q := ⟨p, xs, rfl, h, fun l n => q l _ n (same_upd n) upd_same⟩
theorem rd_tof (h : SqL K H p xs) (q : ∀ l H1, H l = none → Same H H1 → H1 l = some (.tup xs) → Q (.ref l) H1) : rTof K [.ref p] H Q := ⟨p, xs, rfl, h, fun l n => q l _ n (same_upd n) upd_same⟩
theorem rd_cat (h : H p = some (.lst xs)) (h2 : H a = some (.lst ys)) (z : xs.length + ys.length ≤ 60000) (q : ∀ l H1, H l = none → Same H H1 → H1 l = some (.lst (xs ++ ys)) → Q (.ref l) H1) : rCat (.ref p) (.ref a) H Q :=
  ⟨p, a, xs, ys, rfl, rfl, h, h2, Nat.le_of_lt (smallB z), fun l n => q l _ n (same_upd n) upd_same⟩
theorem rd_catT (h : SqT K H p xs) (h2 : SqT K H a ys) (z : xs.length + ys.length ≤ 60000) (n1 : xs ≠ []) (n2 : ys ≠ []) (q : ∀ l H1, H l = none → Same H H1 → H1 l = some (.tup (xs ++ ys)) → Q (.ref l) H1) : rCatA K (.ref p) (.ref a) H Q :=
  ⟨p, a, xs, ys, rfl, rfl, h, h2, Nat.le_of_lt (smallB z), fun e => absurd e n1, fun _ e => absurd e n2, fun _ _ l n => q l _ n (same_upd n) upd_same⟩
theorem rd_eqD {y : V} {d e : PyData} (h : Dp K H x d) (h2 : Dp K H y e) (z : SeqAt.shaped d = true) (z2 : SeqAt.shaped e = true) (q : Q (.bl (PyData.eqv d e)) H) : rEqD K x y H Q := ⟨d, e, h, h2, z, z2, q⟩
theorem rd_neD {y : V} {d e : PyData} (h : Dp K H x d) (h2 : Dp K H y e) (z : SeqAt.shaped d = true) (z2 : SeqAt.shaped e = true) (q : Q (.bl (!PyData.eqv d e)) H) : rNeD K x y H Q := ⟨d, e, h, h2, z, z2, q⟩
theorem rd_inD {y : V} {d : PyData} {ds : List PyData} (h : Dp K H x d) (h2 : Dp K H y (.list ds)) (z : SeqAt.shaped d = true) (z2 : SeqAt.shaped (.list ds) = true) (q : Q (.bl (ds.any fun z => PyData.eqv z d)) H) : rInD K x y H Q := ⟨d, ds, h, h2, z, z2, q⟩
theorem rd_ninD {y : V} {d : PyData} {ds : List PyData} (h : Dp K H x d) (h2 : Dp K H y (.list ds)) (z : SeqAt.shaped d = true) (z2 : SeqAt.shaped (.list ds) = true) (q : Q (.bl (!ds.any fun z => PyData.eqv z d)) H) : rNotInD K x y H Q := ⟨d, ds, h, h2, z, z2, q⟩
theorem dp_tup (h : H a = some (.tup xs)) {ds : List PyData} (q : DpAll K H xs ds) : Dp K H (.ref a) (.tuple ds) := .tup (sqt h) q
theorem dp_lst (h : H a = some (.lst xs)) {ds : List PyData} (q : DpAll K H xs ds) : Dp K H (.ref a) (.list ds) := .lst (sql h) q
theorem dp_mono {K : PySem.W.Frag} {H H' : Hp} {x : V} {d : PyData} : Dp K H x d → Dp K H x d := id
/-- max of a list of ints: the greatest -/
theorem rd_max (h : SqL K H a (ns.map V.int)) (z : 0 < ns.length) (q : ∀ m, m ∈ ns → (∀ y, y ∈ ns → y ≤ m) → Q (.int m) H) : rMax K [.ref a] H Q := ⟨a, ns, rfl, h, z, q⟩
theorem rd_min (h : SqL K H a (ns.map V.int)) (z : 0 < ns.length) (q : ∀ m, m ∈ ns → (∀ y, y ∈ ns → m ≤ y) → Q (.int m) H) : rMin K [.ref a] H Q := ⟨a, ns, rfl, h, z, q⟩
end

theorem hu65 {k : Nat} {A : Around} (r : Room k A) : A.units + 65 < cLine := by
  have := r.un
  omega
/-! ### bits -/
def rShl : R2 := fun x y H Q => ∃ (i : Int) (k : Nat), x = .int i ∧ y = .int (k : Int) ∧ CShl i (k : Int) ∧ Q (.int (i * 2 ^ k)) H
theorem jo_shl {X : Cx} : OpR X (binaryOp .LShift) rShl := op_shlN
theorem rd_shl {H : Hp} {Q : VK} {b k n : Nat} (h : b < 2 ^ n) (hn : n + k ≤ 134217728) (q : Q (.int ((b <<< k : Nat) : Int)) H) : rShl (.int (b : Int)) (.int (k : Int)) H Q := by
  refine ⟨b, k, rfl, rfl, shl_ok (n := n) (by rw [Int.natAbs_natCast]; exact h) hn, ?_⟩
  rw [show ((b : Int) * 2 ^ k) = ((b <<< k : Nat) : Int) by rw [Nat.shiftLeft_eq, Int.natCast_mul, Int.natCast_pow]; rfl]
  exact q
theorem bitOrN (a b : Nat) : Builtin.bitOr (a : Int) (b : Int) = ((a ||| b : Nat) : Int) := by
  rw [bitOr_nn (Int.natCast_nonneg a) (Int.natCast_nonneg b), Int.toNat_natCast, Int.toNat_natCast]
theorem rd_orN {H : Hp} {Q : VK} {a b : Nat} (q : Q (.int ((a ||| b : Nat) : Int)) H) : rI0 (fun i j => V.int (Builtin.bitOr i j)) (.int (a : Int)) (.int (b : Int)) H Q := ⟨_, _, rfl, rfl, by
  show Q (.int (Builtin.bitOr (a : Int) (b : Int))) H
  rw [bitOrN]
  exact q⟩
/-! ### comprehensions over a list, a range: turns that only add -/
section
variable {K : PySem.W.Frag} {σ : L2.St} {H : Hp} {Q : VK} {a : Addr} {xs : List V} {g : TG} {tt : TT} {te : TE} {vs : List Nat} {J : It}
def kLc (J : It) (g : TG) (tt : TT) (te : TE) (vs : List Nat) (σ : L2.St) (H1 : Hp) (Q : VK) : Prop := ∀ D, H1 D = none → ∃ W : Nat → Nat → Hp → Prop, (∃ m, W 0 m (upd H1 D (.lst []))) ∧ ∀ i m H, W i m H →
  (J.stop i H ∧ Q (.ref D) H) ∨ (J.go i H ∧ ∃ Nx : Hp → Prop, (∀ H', Nx H' → ∃ m', m' < m ∧ W (i + 1) m' H') ∧ ∀ x H', J.yld i H x H' → g x (wipe σ vs) H' fun σ2 H2 => wipe σ2 vs = wipe σ vs ∧ tt σ2 H2 fun b H3 =>
    if b = true then te σ2 H3 fun y H4 => ∃ acc, H4 D = some (.lst acc) ∧ acc.length < sizeLine ∧ Nx (upd H4 D (.lst (acc ++ [y]))) else Nx H3)
theorem rd_lc {wi : TI} (h : wi σ H fun J H1 => kLc J g tt te vs σ H1 Q) : tLc wi g tt te vs σ H Q := h
/-- what a turn does with the i-th item: in any heap that holds the old one, it gives the value y with R, or nothing -/
def Turn1 (g : TG) (tt : TT) (te : TE) (vs : List Nat) (σ : L2.St) (H1 : Hp) (x : V) (R : Option V → Hp → Prop) : Prop :=
  ∀ (H2 : Hp) (N : Option V → Hp → Prop), Same H1 H2 → (∀ o H3, Same H2 H3 → R o H3 → N o H3) →
    g x (wipe σ vs) H2 fun σ2 H3 => wipe σ2 vs = wipe σ vs ∧ tt σ2 H3 fun b H4 => if b = true then te σ2 H4 fun y H5 => N (some y) H5 else N none H4
/-- what stands in the new list behind i turns -/
inductive Rows (R : Nat → Option V → Hp → Prop) (H : Hp) : Nat → List V → Prop
  | nil : Rows R H 0 []
  | yes {i : Nat} {acc : List V} {y : V} (h : Rows R H i acc) (r : R i (some y) H) : Rows R H (i + 1) (acc ++ [y])
  | no {i : Nat} {acc : List V} (h : Rows R H i acc) (r : R i none H) : Rows R H (i + 1) acc
theorem Rows.mono {R : Nat → Option V → Hp → Prop} {H H' : Hp} (m : ∀ i o, R i o H → R i o H') {n : Nat} {acc : List V} (h : Rows R H n acc) : Rows R H' n acc := by
  induction h with
  | nil => exact .nil
  | yes _ r ih => exact .yes ih (m _ _ r)
  | no _ r ih => exact .no ih (m _ _ r)
theorem Rows.len {R : Nat → Option V → Hp → Prop} {H : Hp} {n : Nat} {acc : List V} (h : Rows R H n acc) : acc.length ≤ n := by
  induction h with
  | nil => exact Nat.le_refl _
  | yes _ r ih =>
    rw [List.length_append]
    exact Nat.succ_le_succ ih
  | no _ r ih => exact Nat.le_succ_of_le ih
/-- all are taken, f says what -/
theorem Rows.map {R : Nat → Option V → Hp → Prop} {H : Hp} {n : Nat} {acc : List V} (h : Rows R H n acc) (f : Nat → V) (hf : ∀ i o, R i o H → o = some (f i)) : acc = (List.range n).map f := by
  induction h with
  | nil => rfl
  | yes _ r ih =>
    rw [List.range_succ, List.map_append, ih]
    have e := hf _ _ r
    rw [Option.some.inj e]
    rfl
  | no _ r _ => cases hf _ _ r
theorem Rows.fm {R : Nat → Option V → Hp → Prop} {H : Hp} {n : Nat} {acc : List V} (h : Rows R H n acc) (f : Nat → Option V) (hf : ∀ i o, R i o H → o = f i) : acc = (List.range n).filterMap f := by
  induction h with
  | nil => rfl
  | yes _ r ih =>
    rw [List.range_succ, List.filterMap_append, ih, List.filterMap_cons, ← hf _ _ r]
    rfl
  | no _ r ih =>
    rw [List.range_succ, List.filterMap_append, ih, List.filterMap_cons, ← hf _ _ r]
    simp
theorem range_getD {α : Type} (xs : List α) (d : α) {β : Type} (f : α → Option β) : (List.range xs.length).filterMap (fun i => f (xs.getD i d)) = xs.filterMap f := by
  have e : xs = (List.range xs.length).map fun i => xs.getD i d := by
    apply List.ext_getElem?
    intro i
    rw [List.getElem?_map]
    by_cases h : i < xs.length
    · rw [List.getElem?_range h, List.getElem?_eq_getElem h]
      simp [List.getD_eq_getElem?_getD, List.getElem?_eq_getElem h]
    · rw [List.getElem?_eq_none (by omega), List.getElem?_eq_none (by rw [List.length_range]; omega)]
      rfl
  conv => rhs; rw [e]
  rw [List.filterMap_map]
  rfl
theorem range_getDm {α : Type} (xs : List α) (d : α) {β : Type} (f : α → β) : (List.range xs.length).map (fun i => f (xs.getD i d)) = xs.map f := by
  have e := range_getD xs d (fun a => some (f a))
  rw [← List.filterMap_eq_map, ← List.filterMap_eq_map]
  exact e
/-- [.. for x in xs if ..] over a list -/
theorem lc_rows (R : Nat → Option V → Hp → Prop) (hx : SqL K H a xs) (hl : xs.length ≤ 60000) (mono : ∀ i o H' H'', Same H H' → Same H' H'' → R i o H' → R i o H'') (mono2 : ∀ i o H' D v, (∃ l, H' D = some (.lst l)) → H D = none → Same H H' → R i o H' → R i o (upd H' D v))
    (ht : ∀ i x, xs[i]? = some x → Turn1 g tt te vs σ H x (R i))
    (q : ∀ D ys H', H D = none → Same H H' → H' D = some (.lst ys) → Rows R H' xs.length ys → Q (.ref D) H') : kLc (Itl K a) g tt te vs σ H Q := by
  intro D hD
  refine lc_list (K := K) (a := a) (xs := xs) (fun i H' => Same H H' ∧ ∃ acc, H' D = some (.lst acc) ∧ Rows R H' i acc) ⟨same_upd hD, [], upd_same, .nil⟩ (fun i H' _ h => h.1.seq hx) (fun i x H' hi h => ?_) (fun H' h => ?_)
  · obtain ⟨S, acc, hacc, rows⟩ := h
    have hlt : i < xs.length := (List.getElem?_eq_some_iff.mp hi).1
    have key : ∀ o H3, Same H' H3 → R i o H3 → (match o with
        | some y => ∃ acc, H3 D = some (.lst acc) ∧ acc.length < sizeLine ∧ (Same H (upd H3 D (.lst (acc ++ [y]))) ∧ ∃ acc_1, upd H3 D (.lst (acc ++ [y])) D = some (.lst acc_1) ∧ Rows R (upd H3 D (.lst (acc ++ [y]))) (i + 1) acc_1)
        | none => Same H H3 ∧ ∃ acc, H3 D = some (.lst acc) ∧ Rows R H3 (i + 1) acc) := fun o H3 S3 r => by
      have hd3 : H3 D = some (.lst acc) := S3 _ _ hacc
      have rows3 : Rows R H3 i acc := rows.mono fun i o => mono i o H' H3 S S3
      have SS : Same H H3 := S.trans S3
      cases o with
      | none => exact ⟨SS, acc, hd3, .no rows3 r⟩
      | some y =>
        have hlen := rows3.len
        refine ⟨acc, hd3, smallB (by omega), fun b z e => ?_, _, upd_same, .yes (rows3.mono fun i o => mono2 i o H3 D _ ⟨_, hd3⟩ hD SS) (mono2 _ _ H3 D _ ⟨_, hd3⟩ hD SS r)⟩
        rw [upd_ne (ne_of_none e hD)]
        exact SS _ _ e
    exact ht i x hi H' (fun o H3 => match o with
        | some y => ∃ acc, H3 D = some (.lst acc) ∧ acc.length < sizeLine ∧ (Same H (upd H3 D (.lst (acc ++ [y]))) ∧ ∃ acc_1, upd H3 D (.lst (acc ++ [y])) D = some (.lst acc_1) ∧ Rows R (upd H3 D (.lst (acc ++ [y]))) (i + 1) acc_1)
        | none => Same H H3 ∧ ∃ acc, H3 D = some (.lst acc) ∧ Rows R H3 (i + 1) acc) S key
  · obtain ⟨S, acc, hacc, rows⟩ := h
    exact q D acc H' hD S hacc rows
/-- .. where what is said of an item leans on the new list's place -/
theorem lc_rowsD (R : Addr → Nat → Option V → Hp → Prop) (hx : SqL K H a xs) (hl : xs.length ≤ 60000) (mono : ∀ D i o H' H'', H D = none → Same H H' → Same H' H'' → R D i o H' → R D i o H'') (mono2 : ∀ i o H' D v, (∃ l, H' D = some (.lst l)) → H D = none → Same H H' → R D i o H' → R D i o (upd H' D v))
    (ht : ∀ D i x, H D = none → xs[i]? = some x → ∀ (H2 : Hp) (N : Option V → Hp → Prop), (∃ acc, H2 D = some (.lst acc)) → Same H H2 → (∀ o H3, Same H2 H3 → R D i o H3 → N o H3) →
      g x (wipe σ vs) H2 fun σ2 H3 => wipe σ2 vs = wipe σ vs ∧ tt σ2 H3 fun b H4 => if b = true then te σ2 H4 fun y H5 => N (some y) H5 else N none H4)
    (q : ∀ D ys H', H D = none → Same H H' → H' D = some (.lst ys) → Rows (R D) H' xs.length ys → Q (.ref D) H') : kLc (Itl K a) g tt te vs σ H Q := by
  intro D hD
  refine lc_list (K := K) (a := a) (xs := xs) (fun i H' => Same H H' ∧ ∃ acc, H' D = some (.lst acc) ∧ Rows (R D) H' i acc) ⟨same_upd hD, [], upd_same, .nil⟩ (fun i H' _ h => h.1.seq hx) (fun i x H' hi h => ?_) (fun H' h => ?_)
  · obtain ⟨S, acc, hacc, rows⟩ := h
    have hlt : i < xs.length := (List.getElem?_eq_some_iff.mp hi).1
    have key : ∀ o H3, Same H' H3 → R D i o H3 → (match o with
        | some y => ∃ acc, H3 D = some (.lst acc) ∧ acc.length < sizeLine ∧ (Same H (upd H3 D (.lst (acc ++ [y]))) ∧ ∃ acc_1, upd H3 D (.lst (acc ++ [y])) D = some (.lst acc_1) ∧ Rows (R D) (upd H3 D (.lst (acc ++ [y]))) (i + 1) acc_1)
        | none => Same H H3 ∧ ∃ acc, H3 D = some (.lst acc) ∧ Rows (R D) H3 (i + 1) acc) := fun o H3 S3 r => by
      have hd3 : H3 D = some (.lst acc) := S3 _ _ hacc
      have rows3 : Rows (R D) H3 i acc := rows.mono fun i o => mono D i o H' H3 hD S S3
      have SS : Same H H3 := S.trans S3
      cases o with
      | none => exact ⟨SS, acc, hd3, .no rows3 r⟩
      | some y =>
        have hlen := rows3.len
        refine ⟨acc, hd3, smallB (by omega), fun b z e => ?_, _, upd_same, .yes (rows3.mono fun i o => mono2 i o H3 D _ ⟨_, hd3⟩ hD SS) (mono2 _ _ H3 D _ ⟨_, hd3⟩ hD SS r)⟩
        rw [upd_ne (ne_of_none e hD)]
        exact SS _ _ e
    exact ht D i x hD hi H' (fun o H3 => match o with
        | some y => ∃ acc, H3 D = some (.lst acc) ∧ acc.length < sizeLine ∧ (Same H (upd H3 D (.lst (acc ++ [y]))) ∧ ∃ acc_1, upd H3 D (.lst (acc ++ [y])) D = some (.lst acc_1) ∧ Rows (R D) (upd H3 D (.lst (acc ++ [y]))) (i + 1) acc_1)
        | none => Same H H3 ∧ ∃ acc, H3 D = some (.lst acc) ∧ Rows (R D) H3 (i + 1) acc) ⟨_, hacc⟩ S key
  · obtain ⟨S, acc, hacc, rows⟩ := h
    exact q D acc H' hD S hacc rows
theorem lc_rowsRD (R : Addr → Nat → Option V → Hp → Prop) {lo : Int} {n : Nat} (hl : n ≤ 60000) (mono : ∀ D i o H' H'', H D = none → Same H H' → Same H' H'' → R D i o H' → R D i o H'') (mono2 : ∀ i o H' D v, (∃ l, H' D = some (.lst l)) → H D = none → Same H H' → R D i o H' → R D i o (upd H' D v))
    (ht : ∀ D i, H D = none → i < n → ∀ (H2 : Hp) (N : Option V → Hp → Prop), (∃ acc, H2 D = some (.lst acc)) → Same H H2 → (∀ o H3, Same H2 H3 → R D i o H3 → N o H3) →
      g (.int (lo + (i : Nat))) (wipe σ vs) H2 fun σ2 H3 => wipe σ2 vs = wipe σ vs ∧ tt σ2 H3 fun b H4 => if b = true then te σ2 H4 fun y H5 => N (some y) H5 else N none H4)
    (q : ∀ D ys H', H D = none → Same H H' → H' D = some (.lst ys) → Rows (R D) H' n ys → Q (.ref D) H') : kLc (Itr lo n) g tt te vs σ H Q := by
  intro D hD
  refine lc_range (lo := lo) (n := n) (fun i H' => Same H H' ∧ ∃ acc, H' D = some (.lst acc) ∧ i ≤ n ∧ Rows (R D) H' i acc) ⟨same_upd hD, [], upd_same, Nat.zero_le _, .nil⟩ (fun i H' hi h => ?_) (fun H' h => ?_)
  · obtain ⟨S, acc, hacc, _, rows⟩ := h
    have key : ∀ o H3, Same H' H3 → R D i o H3 → (match o with
        | some y => ∃ acc, H3 D = some (.lst acc) ∧ acc.length < sizeLine ∧ (Same H (upd H3 D (.lst (acc ++ [y]))) ∧ ∃ acc_1, upd H3 D (.lst (acc ++ [y])) D = some (.lst acc_1) ∧ i + 1 ≤ n ∧ Rows (R D) (upd H3 D (.lst (acc ++ [y]))) (i + 1) acc_1)
        | none => Same H H3 ∧ ∃ acc, H3 D = some (.lst acc) ∧ i + 1 ≤ n ∧ Rows (R D) H3 (i + 1) acc) := fun o H3 S3 r => by
      have hd3 : H3 D = some (.lst acc) := S3 _ _ hacc
      have rows3 : Rows (R D) H3 i acc := rows.mono fun i o => mono D i o H' H3 hD S S3
      have SS : Same H H3 := S.trans S3
      cases o with
      | none => exact ⟨SS, acc, hd3, hi, .no rows3 r⟩
      | some y =>
        have hlen := rows3.len
        refine ⟨acc, hd3, smallB (by omega), fun b z e => ?_, _, upd_same, hi, .yes (rows3.mono fun i o => mono2 i o H3 D _ ⟨_, hd3⟩ hD SS) (mono2 _ _ H3 D _ ⟨_, hd3⟩ hD SS r)⟩
        rw [upd_ne (ne_of_none e hD)]
        exact SS _ _ e
    exact ht D i hD hi H' (fun o H3 => match o with
        | some y => ∃ acc, H3 D = some (.lst acc) ∧ acc.length < sizeLine ∧ (Same H (upd H3 D (.lst (acc ++ [y]))) ∧ ∃ acc_1, upd H3 D (.lst (acc ++ [y])) D = some (.lst acc_1) ∧ i + 1 ≤ n ∧ Rows (R D) (upd H3 D (.lst (acc ++ [y]))) (i + 1) acc_1)
        | none => Same H H3 ∧ ∃ acc, H3 D = some (.lst acc) ∧ i + 1 ≤ n ∧ Rows (R D) H3 (i + 1) acc) ⟨_, hacc⟩ S key
  · obtain ⟨S, acc, hacc, _, rows⟩ := h
    exact q D acc H' hD S hacc rows
/-- .. over a range -/
theorem lc_rowsR (R : Nat → Option V → Hp → Prop) {lo : Int} {n : Nat} (hl : n ≤ 60000) (mono : ∀ i o H' H'', Same H H' → Same H' H'' → R i o H' → R i o H'') (mono2 : ∀ i o H' D v, (∃ l, H' D = some (.lst l)) → H D = none → Same H H' → R i o H' → R i o (upd H' D v))
    (ht : ∀ i, i < n → Turn1 g tt te vs σ H (.int (lo + (i : Nat))) (R i))
    (q : ∀ D ys H', H D = none → Same H H' → H' D = some (.lst ys) → Rows R H' n ys → Q (.ref D) H') : kLc (Itr lo n) g tt te vs σ H Q := by
  intro D hD
  refine lc_range (lo := lo) (n := n) (fun i H' => Same H H' ∧ ∃ acc, H' D = some (.lst acc) ∧ i ≤ n ∧ Rows R H' i acc) ⟨same_upd hD, [], upd_same, Nat.zero_le _, .nil⟩ (fun i H' hi h => ?_) (fun H' h => ?_)
  · obtain ⟨S, acc, hacc, _, rows⟩ := h
    have key : ∀ o H3, Same H' H3 → R i o H3 → (match o with
        | some y => ∃ acc, H3 D = some (.lst acc) ∧ acc.length < sizeLine ∧ (Same H (upd H3 D (.lst (acc ++ [y]))) ∧ ∃ acc_1, upd H3 D (.lst (acc ++ [y])) D = some (.lst acc_1) ∧ i + 1 ≤ n ∧ Rows R (upd H3 D (.lst (acc ++ [y]))) (i + 1) acc_1)
        | none => Same H H3 ∧ ∃ acc, H3 D = some (.lst acc) ∧ i + 1 ≤ n ∧ Rows R H3 (i + 1) acc) := fun o H3 S3 r => by
      have hd3 : H3 D = some (.lst acc) := S3 _ _ hacc
      have rows3 : Rows R H3 i acc := rows.mono fun i o => mono i o H' H3 S S3
      have SS : Same H H3 := S.trans S3
      cases o with
      | none => exact ⟨SS, acc, hd3, hi, .no rows3 r⟩
      | some y =>
        have hlen := rows3.len
        refine ⟨acc, hd3, smallB (by omega), fun b z e => ?_, _, upd_same, hi, .yes (rows3.mono fun i o => mono2 i o H3 D _ ⟨_, hd3⟩ hD SS) (mono2 _ _ H3 D _ ⟨_, hd3⟩ hD SS r)⟩
        rw [upd_ne (ne_of_none e hD)]
        exact SS _ _ e
    exact ht i hi H' (fun o H3 => match o with
        | some y => ∃ acc, H3 D = some (.lst acc) ∧ acc.length < sizeLine ∧ (Same H (upd H3 D (.lst (acc ++ [y]))) ∧ ∃ acc_1, upd H3 D (.lst (acc ++ [y])) D = some (.lst acc_1) ∧ i + 1 ≤ n ∧ Rows R (upd H3 D (.lst (acc ++ [y]))) (i + 1) acc_1)
        | none => Same H H3 ∧ ∃ acc, H3 D = some (.lst acc) ∧ i + 1 ≤ n ∧ Rows R H3 (i + 1) acc) S key
  · obtain ⟨S, acc, hacc, _, rows⟩ := h
    exact q D acc H' hD S hacc rows
/-- .. where an item alone says what is taken -/
theorem lc_fm (f : V → Option V) (hx : SqL K H a xs) (hl : xs.length ≤ 60000)
    (ht : ∀ x, x ∈ xs → ∀ (H2 : Hp) (N : Option V → Hp → Prop), Same H H2 → (∀ H3, Same H2 H3 → N (f x) H3) →
      g x (wipe σ vs) H2 fun σ2 H3 => wipe σ2 vs = wipe σ vs ∧ tt σ2 H3 fun b H4 => if b = true then te σ2 H4 fun y H5 => N (some y) H5 else N none H4)
    (q : ∀ D H', H D = none → Same H H' → H' D = some (.lst (xs.filterMap f)) → Q (.ref D) H') : kLc (Itl K a) g tt te vs σ H Q := by
  refine lc_rows (fun i o _ => o = f (xs.getD i .non)) hx hl (fun _ _ _ _ _ _ r => r) (fun _ _ _ _ _ _ _ _ r => r) (fun i x hi H2 N S hN => ?_) (fun D ys H' n S e rows => ?_)
  · have ex : xs.getD i .non = x := by
      rw [List.getD_eq_getElem?_getD, hi]
      rfl
    exact ht x (List.mem_of_getElem? hi) H2 N S fun H3 S3 => hN _ _ S3 (by rw [ex])
  · have e2 := rows.fm _ (fun i o r => r)
    rw [range_getD xs .non f] at e2
    rw [e2] at e
    exact q D H' n S e
theorem lc_fmR (f : Nat → Option V) {lo : Int} {n : Nat} (hl : n ≤ 60000)
    (ht : ∀ i, i < n → ∀ (H2 : Hp) (N : Option V → Hp → Prop), Same H H2 → (∀ H3, Same H2 H3 → N (f i) H3) →
      g (.int (lo + (i : Nat))) (wipe σ vs) H2 fun σ2 H3 => wipe σ2 vs = wipe σ vs ∧ tt σ2 H3 fun b H4 => if b = true then te σ2 H4 fun y H5 => N (some y) H5 else N none H4)
    (q : ∀ D H', H D = none → Same H H' → H' D = some (.lst ((List.range n).filterMap f)) → Q (.ref D) H') : kLc (Itr lo n) g tt te vs σ H Q := by
  refine lc_rowsR (fun i o _ => o = f i) hl (fun _ _ _ _ _ _ r => r) (fun _ _ _ _ _ _ _ _ r => r) (fun i hi H2 N S hN => ht i hi H2 N S fun H3 S3 => hN _ _ S3 rfl) (fun D ys H' n S e rows => ?_)
  rw [rows.fm _ (fun i o r => r)] at e
  exact q D H' n S e
/-- .. over a range, where a turn changes the thing at kp too -/
theorem lc_rngX {kp : Addr} {o0 : HO} (f : Nat → V) (I : Addr → Hp → Prop) {n : Nat} (hl : n ≤ 60000) (hk : H kp = some o0) (I0 : ∀ D, H D = none → I D (upd H D (.lst [])))
    (Iu : ∀ D H' H'', H D = none → Ex kp H H'' → I D H' → (∀ b o, b ≠ D → H' b = some o → H'' b = some o) → I D H'')
    (ht : ∀ D i, H D = none → i < n → ∀ (H2 : Hp) (N : Option V → Hp → Prop), I D H2 → Ex kp H H2 → (∃ acc, H2 D = some (.lst acc)) → (∀ H3, Ex kp H2 H3 → I D H3 → N (some (f i)) H3) →
      g (.int (0 + (i : Nat))) (wipe σ vs) H2 fun σ2 H3 => wipe σ2 vs = wipe σ vs ∧ tt σ2 H3 fun b H4 => if b = true then te σ2 H4 fun y H5 => N (some y) H5 else N none H4)
    (q : ∀ D H', H D = none → Ex kp H H' → I D H' → H' D = some (.lst ((List.range n).map f)) → Q (.ref D) H') : kLc (Itr 0 n) g tt te vs σ H Q := by
  intro D hD
  have hne : kp ≠ D := ne_of_none hk hD
  refine lc_range (lo := 0) (n := n) (fun i H' => i ≤ n ∧ Ex kp H H' ∧ I D H' ∧ H' D = some (.lst ((List.range i).map f))) ⟨Nat.zero_le _, Ex.of (same_upd hD), I0 D hD, upd_same⟩ (fun i H' hi h => ?_) (fun H' h => ?_)
  · obtain ⟨_, X, i1, eD⟩ := h
    have key : ∀ H3, Ex kp H' H3 → I D H3 → ∃ acc, H3 D = some (.lst acc) ∧ acc.length < sizeLine ∧ (i + 1 ≤ n ∧ Ex kp H (upd H3 D (.lst (acc ++ [f i]))) ∧ I D (upd H3 D (.lst (acc ++ [f i]))) ∧ upd H3 D (.lst (acc ++ [f i])) D = some (.lst ((List.range (i + 1)).map f))) := fun H3 X3 i3 => by
      have e3 : H3 D = some (.lst ((List.range i).map f)) := X3 _ _ (Ne.symm hne) eD
      have XX : Ex kp H (upd H3 D (.lst ((List.range i).map f ++ [f i]))) := fun b o nb e => by
        rw [upd_ne (ne_of_none e hD)]
        exact X3 _ _ nb (X _ _ nb e)
      refine ⟨_, e3, smallB (by rw [List.length_map, List.length_range]; omega), hi, XX, Iu D H3 _ hD XX i3 (fun b o nb e => by rw [upd_ne nb]; exact e), ?_⟩
      rw [upd_same, List.range_succ, List.map_append]
      rfl
    exact ht D i hD hi H' (fun o H3 => match o with
        | some y => ∃ acc, H3 D = some (.lst acc) ∧ acc.length < sizeLine ∧ (i + 1 ≤ n ∧ Ex kp H (upd H3 D (.lst (acc ++ [y]))) ∧ I D (upd H3 D (.lst (acc ++ [y]))) ∧ upd H3 D (.lst (acc ++ [y])) D = some (.lst ((List.range (i + 1)).map f)))
        | none => i + 1 ≤ n ∧ Ex kp H H3 ∧ I D H3 ∧ H3 D = some (.lst ((List.range (i + 1)).map f))) i1 X ⟨_, eD⟩ key
  · obtain ⟨_, X, i1, eD⟩ := h
    exact q D H' hD X i1 eD
/-- .. over a tuple -/
theorem lc_fmt (f : V → Option V) (hx : SqT K H a xs) (hl : xs.length ≤ 60000)
    (ht : ∀ x, x ∈ xs → ∀ (H2 : Hp) (N : Option V → Hp → Prop), Same H H2 → (∀ H3, Same H2 H3 → N (f x) H3) →
      g x (wipe σ vs) H2 fun σ2 H3 => wipe σ2 vs = wipe σ vs ∧ tt σ2 H3 fun b H4 => if b = true then te σ2 H4 fun y H5 => N (some y) H5 else N none H4)
    (q : ∀ D H', H D = none → Same H H' → H' D = some (.lst (xs.filterMap f)) → Q (.ref D) H') : kLc (Itt K a) g tt te vs σ H Q := by
  intro D hD
  have keep : ∀ {H' : Hp}, Same H H' → SqT K H' a xs := fun {H'} S => by
    rcases hx with (h | ⟨o, h⟩) | h
    · exact .inl (.inl (S _ _ h))
    · exact .inl (.inr ⟨o, S _ _ h⟩)
    · exact .inr h
  refine lc_tup (K := K) (a := a) (xs := xs) (fun i H' => Same H H' ∧ H' D = some (.lst ((xs.take i).filterMap f))) ⟨same_upd hD, upd_same⟩ (fun i H' _ h => keep h.1) (fun i x H' hi h => ?_) (fun H' h => ?_)
  · obtain ⟨S, eD⟩ := h
    have hlt : i < xs.length := (List.getElem?_eq_some_iff.mp hi).1
    have e1 : xs.take (i + 1) = xs.take i ++ [x] := by rw [List.take_add_one, hi]; rfl
    have key : ∀ H3, Same H' H3 → (match f x with
        | some y => ∃ acc, H3 D = some (.lst acc) ∧ acc.length < sizeLine ∧ Same H (upd H3 D (.lst (acc ++ [y]))) ∧ upd H3 D (.lst (acc ++ [y])) D = some (.lst ((xs.take (i + 1)).filterMap f))
        | none => Same H H3 ∧ H3 D = some (.lst ((xs.take (i + 1)).filterMap f))) := fun H3 S3 => by
      have SS := S.trans S3
      have eD3 := S3 _ _ eD
      cases ef : f x with
      | none =>
        refine ⟨SS, ?_⟩
        rw [e1, List.filterMap_append, List.filterMap_cons, ef, eD3]
        simp
      | some y =>
        refine ⟨_, eD3, smallB ?_, fun b z e => ?_, ?_⟩
        · have h1 := List.length_filterMap_le f (xs.take i)
          rw [List.length_take] at h1
          omega
        · rw [upd_ne (ne_of_none e hD)]
          exact SS _ _ e
        · rw [upd_same, e1, List.filterMap_append, List.filterMap_cons, ef]
          rfl
    exact ht x (List.mem_of_getElem? hi) H' (fun o H3 => match o with
        | some y => ∃ acc, H3 D = some (.lst acc) ∧ acc.length < sizeLine ∧ Same H (upd H3 D (.lst (acc ++ [y]))) ∧ upd H3 D (.lst (acc ++ [y])) D = some (.lst ((xs.take (i + 1)).filterMap f))
        | none => Same H H3 ∧ H3 D = some (.lst ((xs.take (i + 1)).filterMap f))) S key
  · obtain ⟨S, eD⟩ := h
    rw [List.take_length] at eD
    exact q D H' hD S eD
/-- .. over the keys of a locked dict -/
theorem lc_keys {d : Addr} {o : Obj} {kvs : List (Key × V)} (f : Key × V → Option V) (hd : H d = some (.frz o (.dK kvs))) (hl : kvs.length ≤ 60000)
    (ht : ∀ p, p ∈ kvs → ∀ (H2 : Hp) (N : Option V → Hp → Prop), Same H H2 → (∀ H3, Same H2 H3 → N (f p) H3) →
      g (kV p.1) (wipe σ vs) H2 fun σ2 H3 => wipe σ2 vs = wipe σ vs ∧ tt σ2 H3 fun b H4 => if b = true then te σ2 H4 fun y H5 => N (some y) H5 else N none H4)
    (q : ∀ D H', H D = none → Same H H' → H' D = some (.lst (kvs.filterMap f)) → Q (.ref D) H') : kLc (Itk d o kvs) g tt te vs σ H Q := by
  intro D hD
  have hne : d ≠ D := ne_of_none hd hD
  refine ⟨fun i m H' => m = kvs.length - i ∧ i ≤ kvs.length ∧ Same H H' ∧ H' D = some (.lst ((kvs.take i).filterMap f)), ⟨kvs.length, by simp, Nat.zero_le _, same_upd hD, upd_same⟩, ?_⟩
  rintro i m H' ⟨rfl, hi, S, eD⟩
  have hd2 := S _ _ hd
  by_cases hlt : i < kvs.length
  · refine .inr ⟨⟨hd2, hlt⟩, fun H' => i + 1 ≤ kvs.length ∧ Same H H' ∧ H' D = some (.lst ((kvs.take (i + 1)).filterMap f)), fun H' p' => ⟨kvs.length - (i + 1), by omega, rfl, p'⟩, fun x H2 y => ?_⟩
    obtain ⟨rfl, k, v, ek, rfl⟩ := y
    have e1 : kvs.take (i + 1) = kvs.take i ++ [(k, v)] := by rw [List.take_add_one, ek]; rfl
    have key : ∀ H3, Same H2 H3 → (match f (k, v) with
        | some y => ∃ acc, H3 D = some (.lst acc) ∧ acc.length < sizeLine ∧ i + 1 ≤ kvs.length ∧ Same H (upd H3 D (.lst (acc ++ [y]))) ∧ upd H3 D (.lst (acc ++ [y])) D = some (.lst ((kvs.take (i + 1)).filterMap f))
        | none => i + 1 ≤ kvs.length ∧ Same H H3 ∧ H3 D = some (.lst ((kvs.take (i + 1)).filterMap f))) := fun H3 S3 => by
      have SS := S.trans S3
      have eD3 := S3 _ _ eD
      cases ef : f (k, v) with
      | none =>
        refine ⟨hlt, SS, ?_⟩
        rw [e1, List.filterMap_append, List.filterMap_cons, ef, eD3]
        simp
      | some y =>
        refine ⟨_, eD3, smallB ?_, hlt, fun b z e => ?_, ?_⟩
        · have h1 := List.length_filterMap_le f (kvs.take i)
          rw [List.length_take] at h1
          omega
        · rw [upd_ne (ne_of_none e hD)]
          exact SS _ _ e
        · rw [upd_same, e1, List.filterMap_append, List.filterMap_cons, ef]
          rfl
    exact ht (k, v) (List.mem_of_getElem? ek) H2 (fun o H3 => match o with
        | some y => ∃ acc, H3 D = some (.lst acc) ∧ acc.length < sizeLine ∧ i + 1 ≤ kvs.length ∧ Same H (upd H3 D (.lst (acc ++ [y]))) ∧ upd H3 D (.lst (acc ++ [y])) D = some (.lst ((kvs.take (i + 1)).filterMap f))
        | none => i + 1 ≤ kvs.length ∧ Same H H3 ∧ H3 D = some (.lst ((kvs.take (i + 1)).filterMap f))) S key
  · have e : i = kvs.length := by omega
    subst e
    rw [List.take_length] at eD
    exact .inl ⟨⟨hd2, Nat.le_refl _⟩, q D _ hD S eD⟩
def kUnl (d : Addr) (od : Obj) (kvs : List (Key × V)) (v : V) (H : Hp) (Q : VK) : Prop := H d = some (.frz od (.dK kvs)) ∧ Q v (upd H d (.dK kvs))
theorem rd_lockE {t : TE} {d : Addr} {kvs : List (Key × V)} (h : H d = some (.dK kvs)) (q : ∀ od H1, Ex d H H1 → H1 d = some (.frz od (.dK kvs)) → t σ H1 fun v H2 => kUnl d od kvs v H2 Q) : tLockE t σ H Q :=
  ⟨d, .dK kvs, h, trivial, fun od => q od _ ex_upd upd_same⟩
theorem rd_kUnl {d : Addr} {od : Obj} {kvs : List (Key × V)} {v : V} (h : H d = some (.frz od (.dK kvs))) (q : ∀ H1, Ex d H H1 → H1 d = some (.dK kvs) → Q v H1) : kUnl d od kvs v H Q := ⟨h, q _ ex_upd upd_same⟩
theorem rd_iKeys {td : TE} {R : It → Hp → Prop} (h : td σ H fun x H1 => ∃ d o, x = .ref d ∧ ((∃ kvs, H1 d = some (.frz o (.dK kvs)) ∧ R (Itk d o kvs) H1) ∨ ∃ kvs, H1 d = some (.frz o (.dT kvs)) ∧ R (Itkt d o kvs) H1)) : iKeys td σ H R := h
/-- sorted, of ints that rise already -/
theorem rd_sorted {a : Addr} {ns : List Int} (h : SqL K H a (ns.map V.int)) (r : ns.Pairwise (· < ·)) (q : ∀ p H1, H p = none → Same H H1 → H1 p = some (.lst (ns.map V.int)) → Q (.ref p) H1) : rSortedI K [.ref a] H Q := by
  refine ⟨a, ns, rfl, h, fun ns' p perm up np => ?_⟩
  have e : ns' = ns := List.Perm.eq_of_pairwise (le := fun (a b : Int) => a ≤ b) (fun a b _ _ h1 h2 => Int.le_antisymm h1 h2) up (r.imp fun h => Int.le_of_lt h) perm
  rw [e]
  exact q p _ np (same_upd np) upd_same
end
/-! ### a written dict -/
section
variable {σ : L2.St} {H : Hp} {Q : VK} {ta tb : TE} {trs : List (TE × TE)} {p : Addr} {ps : List (V × V)} {QP : List (V × V) → Hp → Prop}
def toK : V × V → Key × V
  | (.str z, v) => (.inr z, v)
  | (.int i, v) => (.inl i, v)
  | (_, v) => (.inl 0, v)
def kDisp (p : Addr) (ps : List (V × V)) (H : Hp) (Q : VK) : Prop := H p = some (.dK []) ∧ ∃ kvs : List (Key × V), ps = kvs.map (fun kv => (kV kv.1, kv.2)) ∧ kvs.length ≤ 15 ∧ Q (.ref p) (upd H p (.dK (mergeK [] kvs)))
theorem rd_disp (h : ∀ p H1, H p = none → Same H H1 → H1 p = some (.dK []) → tPairs trs σ H1 fun ps H2 => kDisp p ps H2 Q) : tDisp trs σ H Q := fun p n => h p _ n (same_upd n) upd_same
theorem rd_pair (h : ta σ H fun x H1 => tb σ H1 fun y H2 => tPairs trs σ H2 fun ps H3 => QP ((x, y) :: ps) H3) : tPairs ((ta, tb) :: trs) σ H QP := h
theorem rd_pair0 (h : QP [] H) : tPairs [] σ H QP := h
theorem rd_kDisp (h : H p = some (.dK [])) (e : ps = (ps.map toK).map fun kv => (kV kv.1, kv.2)) (l : ps.length ≤ 15) (q : ∀ H1, Ex p H H1 → H1 p = some (.dK (mergeK [] (ps.map toK))) → Q (.ref p) H1) : kDisp p ps H Q :=
  ⟨h, ps.map toK, e, by rw [List.length_map]; exact l, q _ ex_upd upd_same⟩
theorem rd_dnew (h : ∀ p H1, H p = none → Same H H1 → H1 p = some (.dK []) → Q (.ref p) H1) : tDNewK σ H Q := fun p n => h p _ n (same_upd n) upd_same
theorem rd_dnewT (h : ∀ p H1, H p = none → Same H H1 → H1 p = some (.dT []) → Q (.ref p) H1) : tDNewT σ H Q := fun p n => h p _ n (same_upd n) upd_same
/-! d[k], k in d, d[k] = v -/
def kGet (x y : V) (H : Hp) (Q : VK) : Prop := ∃ a v, x = .ref a ∧ DGet H a y (some v) ∧ Q v H
theorem rd_dget (h : ta σ H fun x H1 => tb σ H1 fun y H2 => kGet x y H2 Q) : tDGet ta tb σ H Q := h
def kIn (y x : V) (H : Hp) (Q : VK) : Prop := ∃ a o, x = .ref a ∧ DGet H a y o ∧ Q (.bl o.isSome) H
theorem rd_din (h : ta σ H fun y H1 => tb σ H1 fun x H2 => kIn y x H2 Q) : tDIn ta tb σ H Q := h
def kNin (y x : V) (H : Hp) (Q : VK) : Prop := ∃ a o, x = .ref a ∧ DGet H a y o ∧ Q (.bl (!o.isSome)) H
theorem rd_dnin (h : ta σ H fun y H1 => tb σ H1 fun x H2 => kNin y x H2 Q) : tDNotIn ta tb σ H Q := h
def kPut (x y v : V) (H : Hp) (N : Hp → Prop) : Prop := ∃ a H4, x = .ref a ∧ DPut H a y v H4 ∧ N H4
theorem rd_dput {tv : TE} {nx bk ct : L2.St → Hp → Prop} {rt : VK} (h : tv σ H fun v H1 => ta σ H1 fun x H2 => tb σ H2 fun y H3 => kPut x y v H3 fun H4 => nx σ H4) : sDPut ta tb tv ⟨nx, rt, bk, ct⟩ σ H := h
variable {a b : Addr} {kvs : List (Key × V)} {v : V} {z : Str} {o : Option V} {i : Int}
theorem rd_getS (h : H a = some (.dK kvs)) (e : valV kvs (Sum.inr z) = some v) (q : Q v H) : kGet (.ref a) (.str z) H Q := ⟨a, v, rfl, e ▸ DGet.k (k := Sum.inr z) h, q⟩
theorem rd_getI (h : H a = some (.dK kvs)) (e : valV kvs (Sum.inl i) = some v) (q : Q v H) : kGet (.ref a) (.int i) H Q := ⟨a, v, rfl, e ▸ DGet.k (k := Sum.inl i) h, q⟩
theorem rd_inS (h : H a = some (.dK kvs)) (q : Q (.bl (valV kvs (Sum.inr z)).isSome) H) : kIn (.str z) (.ref a) H Q := ⟨a, _, rfl, DGet.k (k := Sum.inr z) h, q⟩
theorem rd_ninS (h : H a = some (.dK kvs)) (q : Q (.bl (!(valV kvs (Sum.inr z)).isSome)) H) : kNin (.str z) (.ref a) H Q := ⟨a, _, rfl, DGet.k (k := Sum.inr z) h, q⟩
theorem rd_ninI (h : H a = some (.dK kvs)) (q : Q (.bl (!(valV kvs (Sum.inl i)).isSome)) H) : kNin (.int i) (.ref a) H Q := ⟨a, _, rfl, DGet.k (k := Sum.inl i) h, q⟩
theorem rd_putS {N : Hp → Prop} (h : H a = some (.dK kvs)) (l : kvs.length ≤ 60000) (q : ∀ H1, Ex a H H1 → H1 a = some (.dK (putK kvs (Sum.inr z) v)) → N H1) : kPut (.ref a) (.str z) v H N := ⟨a, _, rfl, DPut.k (k := Sum.inr z) h (smallB l), q _ ex_upd upd_same⟩
theorem rd_putI {N : Hp → Prop} (h : H a = some (.dK kvs)) (l : kvs.length ≤ 60000) (q : ∀ H1, Ex a H H1 → H1 a = some (.dK (putK kvs (Sum.inl i) v)) → N H1) : kPut (.ref a) (.int i) v H N := ⟨a, _, rfl, DPut.k (k := Sum.inl i) h (smallB l), q _ ex_upd upd_same⟩
/-! xs[i] = v -/
theorem rd_setL {xs : List V} {N : Hp → Prop} {j : Nat} (h : H a = some (.lst xs)) (e : ixN xs.length i = some j) (q : ∀ H1, Ex a H H1 → H1 a = some (.lst (xs.set j v)) → N H1) : rSetL (.ref a) (.int i) v H N := ⟨a, xs, i, j, rfl, rfl, h, e, q _ ex_upd upd_same⟩
theorem ixN_nat {n k : Nat} (h : k < n) : ixN n (k : Int) = some k := by
  unfold ixN
  rw [if_pos (by omega), if_pos (by omega), Int.toNat_natCast]
end
/-! ### loops -/
section
variable {K : PySem.W.Frag} {σ : L2.St} {H : Hp} {a : Addr} {xs : List V} {g : TG} {t : TS} {nx : L2.St → Hp → Prop} {rt : VK}
def kFor (g : TG) (t : TS) (nx : L2.St → Hp → Prop) (rt : VK) (σ : L2.St) (J : It) (H1 : Hp) : Prop := ∃ W : Nat → Nat → L2.St → Hp → Prop, (∃ m, W 0 m σ H1) ∧ ∀ i m σ H, W i m σ H →
  (J.stop i H ∧ nx σ H) ∨ (J.go i H ∧ ∃ N : L2.St → Hp → Prop, (∀ σ' H', N σ' H' → ∃ m', m' < m ∧ W (i + 1) m' σ' H') ∧ ∀ x H', J.yld i H x H' → g x σ H' fun σ2 H2 => t ⟨N, rt, nx, N⟩ σ2 H2)
theorem fo_list (Pv : Nat → L2.St → Hp → Prop) (hx : SqL K H a xs) (h0 : Pv 0 σ H) (hl : ∀ i σ H, i ≤ xs.length → Pv i σ H → SqL K H a xs)
    (hs : ∀ i x σ H, xs[i]? = some x → Pv i σ H → g x σ H fun σ2 H2 => t ⟨Pv (i + 1), rt, nx, Pv (i + 1)⟩ σ2 H2) (hd : ∀ σ H, Pv xs.length σ H → nx σ H) :
    ∃ b, V.ref a = .ref b ∧ (∃ xs, SqL K H b xs) ∧ kFor g t nx rt σ (Itl K b) H :=
  ⟨a, rfl, ⟨xs, hx⟩, for_list (D := ⟨nx, rt, fun _ _ => False, fun _ _ => False⟩) Pv h0 hl hs hd⟩
theorem fo_tup (Pv : Nat → L2.St → Hp → Prop) (hx : SqT K H a xs) (h0 : Pv 0 σ H) (hl : ∀ i σ H, i ≤ xs.length → Pv i σ H → SqT K H a xs)
    (hs : ∀ i x σ H, xs[i]? = some x → Pv i σ H → g x σ H fun σ2 H2 => t ⟨Pv (i + 1), rt, nx, Pv (i + 1)⟩ σ2 H2) (hd : ∀ σ H, Pv xs.length σ H → nx σ H) :
    ∃ b, V.ref a = .ref b ∧ (∃ xs, SqT K H b xs) ∧ kFor g t nx rt σ (Itt K b) H :=
  ⟨a, rfl, ⟨xs, hx⟩, for_tup (D := ⟨nx, rt, fun _ _ => False, fun _ _ => False⟩) Pv h0 hl hs hd⟩
theorem fo_range {n : Nat} {z : Int} (hz : z = (n : Int)) (hn : n ≤ 60000) (Pv : Nat → L2.St → Hp → Prop) (h0 : Pv 0 σ H)
    (hs : ∀ (i : Nat) σ H, i < n → Pv i σ H → g (.int (i : Int)) σ H fun σ2 H2 => t ⟨Pv (i + 1), rt, nx, Pv (i + 1)⟩ σ2 H2) (hd : ∀ σ H, Pv n σ H → nx σ H) :
    ∃ j : Int, [V.int z] = [.int j] ∧ -(2 ^ 62) ≤ j ∧ j < 2 ^ 62 ∧ kFor g t nx rt σ (Itr 0 j.toNat) H := by
  subst hz
  refine ⟨(n : Int), rfl, by omega, by omega, ?_⟩
  rw [Int.toNat_natCast]
  exact for_range (D := ⟨nx, rt, fun _ _ => False, fun _ _ => False⟩) Pv h0 (fun i σ H hi h => by rw [Int.zero_add]; exact hs i σ H hi h) hd
theorem fo_range2 {lo hi : Int} (h1 : 0 ≤ lo) (h2 : hi ≤ 60000) (h3 : lo ≤ 60000) (Pv : Nat → L2.St → Hp → Prop) (h0 : Pv 0 σ H)
    (hs : ∀ (i : Nat) σ H, (i : Int) < hi - lo → Pv i σ H → g (.int (lo + (i : Nat))) σ H fun σ2 H2 => t ⟨Pv (i + 1), rt, nx, Pv (i + 1)⟩ σ2 H2) (hd : ∀ σ H, Pv (hi - lo).toNat σ H → nx σ H) (h4 : -60000 ≤ hi) :
    ∃ i j : Int, [V.int lo, V.int hi] = [.int i, .int j] ∧ (-(2 ^ 62) ≤ i ∧ i < 2 ^ 62 ∧ -(2 ^ 62) ≤ j ∧ j < 2 ^ 62) ∧ kFor g t nx rt σ (Itr i (j - i).toNat) H := by
  refine ⟨lo, hi, rfl, by omega, ?_⟩
  exact for_range (D := ⟨nx, rt, fun _ _ => False, fun _ _ => False⟩) Pv h0 (fun i σ H hi h => hs i σ H (by omega) h) hd
/-- enumerate -/
theorem fo_enum (Pv : Nat → L2.St → Hp → Prop) (hx : SqL K H a xs) (h0 : Pv 0 σ H) (hl : ∀ i σ H, i ≤ xs.length → Pv i σ H → SqL K H a xs)
    (hs : ∀ i x σ H p H1, xs[i]? = some x → Pv i σ H → H p = none → Same H H1 → H1 p = some (.tup [.int (i : Nat), x]) → g (.ref p) σ H1 fun σ2 H2 => t ⟨Pv (i + 1), rt, nx, Pv (i + 1)⟩ σ2 H2) (hd : ∀ σ H, Pv xs.length σ H → nx σ H) :
    ∃ b ys, [V.ref a] = [.ref b] ∧ SqL K H b ys ∧ kFor g t nx rt σ (Ite K b) H := by
  refine ⟨a, xs, rfl, hx, fun i m σ H => m = xs.length - i ∧ i ≤ xs.length ∧ Pv i σ H, ⟨xs.length, by simp, Nat.zero_le _, h0⟩, ?_⟩
  rintro i m σ H ⟨rfl, hi, p⟩
  have q := hl i σ H hi p
  by_cases hlt : i < xs.length
  · refine .inr ⟨⟨xs, xs[i], q, by simp [hlt]⟩, Pv (i + 1), fun σ' H' p' => ⟨xs.length - (i + 1), by omega, rfl, hlt, p'⟩, fun v H' y => ?_⟩
    obtain ⟨b, x, rfl, nb, rfl, hx2⟩ := y
    exact hs i x σ H b _ (hx2 xs q) p nb (same_upd nb) upd_same
  · have e : i = xs.length := by omega
    subst e
    exact .inl ⟨⟨xs, q, Nat.le_refl _⟩, hd σ H p⟩
/-- d.items(), d locked (by a lock around, or new and frozen) -/
theorem fo_items {d : Addr} {o : Obj} {kvs : List (Key × V)} (Pv : Nat → L2.St → Hp → Prop) (hx : H d = some (.frz o (.dK kvs))) (h0 : Pv 0 σ H) (hl : ∀ i σ H, i ≤ kvs.length → Pv i σ H → H d = some (.frz o (.dK kvs)))
    (hs : ∀ i k v σ H p H1, kvs[i]? = some (k, v) → Pv i σ H → H p = none → Same H H1 → H1 p = some (.tup [kV k, v]) → g (.ref p) σ H1 fun σ2 H2 => t ⟨Pv (i + 1), rt, nx, Pv (i + 1)⟩ σ2 H2) (hd : ∀ σ H, Pv kvs.length σ H → nx σ H) :
    ∃ b ob ws, V.ref d = .ref b ∧ H b = some (.frz ob (.dK ws)) ∧ kFor g t nx rt σ (Iti b ob ws) H := by
  refine ⟨d, o, kvs, rfl, hx, fun i m σ H => m = kvs.length - i ∧ i ≤ kvs.length ∧ Pv i σ H, ⟨kvs.length, by simp, Nat.zero_le _, h0⟩, ?_⟩
  rintro i m σ H ⟨rfl, hi, p⟩
  have q := hl i σ H hi p
  by_cases hlt : i < kvs.length
  · refine .inr ⟨⟨q, hlt⟩, Pv (i + 1), fun σ' H' p' => ⟨kvs.length - (i + 1), by omega, rfl, hlt, p'⟩, fun v H' y => ?_⟩
    obtain ⟨b, k, x, e, rfl, nb, rfl⟩ := y
    exact hs i k x σ H b _ e p nb (same_upd nb) upd_same
  · have e : i = kvs.length := by omega
    subst e
    exact .inl ⟨⟨q, Nat.le_refl _⟩, hd σ H p⟩
/-- while -/
def kWh (W : Nat → L2.St → Hp → Prop) (m : Nat) (tb : TS) (nx : L2.St → Hp → Prop) (rt : VK) (σ : L2.St) (H1 : Hp) : Prop := ∃ N : L2.St → Hp → Prop, (∀ σ' H', N σ' H' → ∃ m', m' < m ∧ W m' σ' H') ∧ tb ⟨N, rt, nx, N⟩ σ H1
theorem rd_while {c : TT} {tb : TS} {bk ct : L2.St → Hp → Prop} (W : Nat → L2.St → Hp → Prop) (w0 : ∃ m, W m σ H) (h : ∀ m σ H, W m σ H → c σ H fun b H1 => if b = true then kWh W m tb nx rt σ H1 else nx σ H1) : tWhile c tb ⟨nx, rt, bk, ct⟩ σ H := ⟨W, w0, h⟩
theorem rd_kWh {W : Nat → L2.St → Hp → Prop} {m : Nat} {tb : TS} (h : tb ⟨fun σ' H' => ∃ m', m' < m ∧ W m' σ' H', rt, nx, fun σ' H' => ∃ m', m' < m ∧ W m' σ' H'⟩ σ H) : kWh W m tb nx rt σ H := ⟨_, fun _ _ h => h, h⟩
/-- x, y, .. = a tuple -/
theorem rd_gtup {n : Nat} {u : TGs} {p : Addr} {QS : L2.St → Hp → Prop} (h : SqT K H p xs) (l : xs.length = n) (q : u xs σ H QS) : gTup K n u (.ref p) σ H QS := ⟨p, xs, rfl, h, l, q⟩
theorem rd_gcons {t : TG} {u : TGs} {v : V} {r : List V} {QS : L2.St → Hp → Prop} (q : t v σ H fun σ' H' => u r σ' H' QS) : gCons t u (v :: r) σ H QS := ⟨v, r, rfl, q⟩
theorem rd_gnil {QS : L2.St → Hp → Prop} (q : QS σ H) : gNil [] σ H QS := ⟨rfl, q⟩
end
end AgJ
end
section
set_option maxHeartbeats 4000000
/-! AgV: deeds, marks, arrows as they stand in the heap; == and in of written tuples. -/
namespace AgV
open PySem PySem.Spec PyProof.Rows L2 AgR AgT AgC AgI AgJ
open AgM hiding T sets

/-! ### data of ints and texts -/
def plV : V → Bool
  | .int _ => true
  | .str z => PyData.canLay0 (.str z)
  | _ => false
def fp : V → PyData
  | .int i => .int i
  | .str z => .str z
  | _ => .none
theorem dpf {K : PySem.W.Frag} {H : Hp} : ∀ {xs : List V}, xs.all plV = true → DpAll K H xs (xs.map fp)
  | [], _ => .nil
  | x :: r, h => by
    rw [List.all_cons, Bool.and_eq_true] at h
    refine .cons ?_ (dpf h.2)
    cases x with
    | int i => exact .int i
    | str z => exact .str z
    | _ => cases h.1
theorem layf : ∀ {xs : List V}, xs.all plV = true → PyData.canLayAll0 (xs.map fp) = true
  | [], _ => by simp [PyData.canLayAll0]
  | x :: r, h => by
    rw [List.all_cons, Bool.and_eq_true] at h
    have ih := layf h.2
    cases x with
    | int i => simpa [PyData.canLayAll0, fp, PyData.canLay0] using ih
    | str z =>
      have h1 : PyData.canLay0 (.str z) = true := h.1
      simp [PyData.canLayAll0, fp, ih, h1]
    | _ => cases h.1
theorem depf : ∀ {xs : List V}, xs.all plV = true → PyData.depthAll (xs.map fp) = 0
  | [], _ => by simp [PyData.depthAll]
  | x :: r, h => by
    rw [List.all_cons, Bool.and_eq_true] at h
    have ih := depf h.2
    cases x with
    | int i => simpa [PyData.depthAll, fp, PyData.depth] using ih
    | str z => simpa [PyData.depthAll, fp, PyData.depth] using ih
    | _ => cases h.1
theorem shf {xs : List V} (h : xs.all plV = true) : SeqAt.shaped (.tuple (xs.map fp)) = true := by
  show (PyData.canLay0 (.tuple (xs.map fp)) && decide (PyData.depth (.tuple (xs.map fp)) ≤ 64)) = true
  rw [Bool.and_eq_true]
  refine ⟨by simp only [PyData.canLay0]; exact layf h, decide_eq_true ?_⟩
  simp only [PyData.depth]
  rw [depf h]
  decide
theorem shfl {xs : List V} (h : xs.all plV = true) : SeqAt.shaped (.list (xs.map fp)) = true := by
  show (PyData.canLay0 (.list (xs.map fp)) && decide (PyData.depth (.list (xs.map fp)) ≤ 64)) = true
  rw [Bool.and_eq_true]
  refine ⟨by simp only [PyData.canLay0]; exact layf h, decide_eq_true ?_⟩
  simp only [PyData.depth]
  rw [depf h]
  decide
theorem eqv1 {x y : V} (hx : plV x = true) (hy : plV y = true) : PyData.eqv (fp x) (fp y) = decide (x = y) := by
  cases x with
  | int i =>
    cases y with
    | int j =>
      simp only [fp, PyData.eqv]
      by_cases h : i = j
      · subst h; simp
      · rw [beq_eq_false_iff_ne.mpr h, decide_eq_false (fun e => h (V.int.inj e))]
    | str z => simp [fp, PyData.eqv]
    | _ => cases hy
  | str z =>
    cases y with
    | str u =>
      simp only [fp, PyData.eqv]
      by_cases h : z = u
      · subst h; simp
      · rw [beq_eq_false_iff_ne.mpr h, decide_eq_false (fun e => h (V.str.inj e))]
    | int i => simp [fp, PyData.eqv]
    | _ => cases hy
  | _ => cases hx
theorem eqvf : ∀ {xs ys : List V}, xs.all plV = true → ys.all plV = true → PyData.eqvAll (xs.map fp) (ys.map fp) = decide (xs = ys)
  | [], [], _, _ => by simp [PyData.eqvAll]
  | [], _ :: _, _, _ => by simp [PyData.eqvAll]
  | _ :: _, [], _, _ => by simp [PyData.eqvAll]
  | x :: r, y :: t, h, k => by
    rw [List.all_cons, Bool.and_eq_true] at h k
    have ih := eqvf h.2 k.2
    simp only [List.map_cons, PyData.eqvAll]
    rw [ih, eqv1 h.1 k.1]
    by_cases e1 : x = y
    · subst e1
      by_cases e2 : r = t
      · subst e2; simp
      · rw [decide_eq_false e2, decide_eq_false (fun e => e2 (List.cons.inj e).2), Bool.and_false]
    · rw [decide_eq_false e1, decide_eq_false (fun e => e1 (List.cons.inj e).1), Bool.false_and]
theorem eqvT {xs ys : List V} (h : xs.all plV = true) (k : ys.all plV = true) : PyData.eqv (.tuple (xs.map fp)) (.tuple (ys.map fp)) = decide (xs = ys) := by
  simp only [PyData.eqv]
  exact eqvf h k
theorem eqvL {xs ys : List V} (h : xs.all plV = true) (k : ys.all plV = true) : PyData.eqv (.list (xs.map fp)) (.list (ys.map fp)) = decide (xs = ys) := by
  simp only [PyData.eqv]
  exact eqvf h k
/-- a list of such tuples -/
def tps (l : List (List V)) : PyData := .list (l.map fun xs => .tuple (xs.map fp))
theorem sht : ∀ {l : List (List V)}, (∀ xs ∈ l, xs.all plV = true) → PyData.canLayAll0 (l.map fun xs => .tuple (xs.map fp)) = true ∧ PyData.depthAll (l.map fun xs => .tuple (xs.map fp)) ≤ 1
  | [], _ => by simp [PyData.canLayAll0, PyData.depthAll]
  | xs :: r, h => by
    obtain ⟨h1, h2⟩ := sht (l := r) fun ys hy => h ys (List.mem_cons_of_mem _ hy)
    have h3 := layf (h xs List.mem_cons_self)
    have h4 := depf (h xs List.mem_cons_self)
    refine ⟨by simp [PyData.canLayAll0, PyData.canLay0, h1, h3], ?_⟩
    simp only [List.map_cons, PyData.depthAll, PyData.depth]
    rw [h4]
    omega
theorem shtl {l : List (List V)} (h : ∀ xs ∈ l, xs.all plV = true) : SeqAt.shaped (tps l) = true := by
  obtain ⟨h1, h2⟩ := sht h
  show (PyData.canLay0 (tps l) && decide (PyData.depth (tps l) ≤ 64)) = true
  rw [Bool.and_eq_true]
  refine ⟨by unfold tps; simp only [PyData.canLay0]; exact h1, decide_eq_true ?_⟩
  unfold tps
  simp only [PyData.depth]
  omega
theorem anyT {l : List (List V)} {xs : List V} (h : ∀ ys ∈ l, ys.all plV = true) (k : xs.all plV = true) : ((l.map fun ys => PyData.tuple (ys.map fp)).any fun z => PyData.eqv z (.tuple (xs.map fp))) = decide (xs ∈ l) := by
  induction l with
  | nil => simp
  | cons ys r ih =>
    rw [List.map_cons, List.any_cons, ih fun zs hz => h zs (List.mem_cons_of_mem _ hz), eqvT (h ys List.mem_cons_self) k]
    by_cases e : ys = xs
    · subst e; simp
    · rw [decide_eq_false e, Bool.false_or]
      have e2 : ¬ xs = ys := fun z => e z.symm
      simp [e2]
/-- the tuples of a list, by their addresses -/
inductive Tups (H : Hp) : List V → List (List V) → Prop
  | nil : Tups H [] []
  | cons {a : Addr} {xs : List V} {vs : List V} {l : List (List V)} (h : H a = some (.tup xs)) (r : Tups H vs l) : Tups H (.ref a :: vs) (xs :: l)
theorem Tups.mono {H H' : Hp} (S : ∀ a xs, H a = some (.tup xs) → H' a = some (.tup xs)) {vs : List V} {l : List (List V)} (h : Tups H vs l) : Tups H' vs l := by
  induction h with
  | nil => exact .nil
  | cons h _ ih => exact .cons (S _ _ h) ih
theorem Tups.same {H H' : Hp} (S : Same H H') {vs : List V} {l : List (List V)} (h : Tups H vs l) : Tups H' vs l := h.mono fun a xs => S a _
theorem Tups.snoc {H : Hp} {a : Addr} {xs : List V} {vs : List V} {l : List (List V)} (h : Tups H vs l) (e : H a = some (.tup xs)) : Tups H (vs ++ [.ref a]) (l ++ [xs]) := by
  induction h with
  | nil => exact .cons e .nil
  | cons h _ ih => exact .cons h ih
theorem Tups.app {H : Hp} {vs ws : List V} {l m : List (List V)} (h : Tups H vs l) (k : Tups H ws m) : Tups H (vs ++ ws) (l ++ m) := by
  induction h with
  | nil => exact k
  | cons h _ ih => exact .cons h ih
theorem Tups.len {H : Hp} {vs : List V} {l : List (List V)} (h : Tups H vs l) : vs.length = l.length := by
  induction h with
  | nil => rfl
  | cons _ _ ih => rw [List.length_cons, List.length_cons, ih]
theorem Tups.get {H : Hp} {vs : List V} {l : List (List V)} (h : Tups H vs l) : ∀ {i : Nat} {xs : List V}, l[i]? = some xs → ∃ a, vs[i]? = some (.ref a) ∧ H a = some (.tup xs) := by
  induction h with
  | nil => intro i xs e; simp at e
  | cons h _ ih =>
    intro i xs e
    cases i with
    | zero =>
      cases (show some _ = some xs from e)
      exact ⟨_, rfl, h⟩
    | succ i => exact ih (i := i) e
theorem Tups.at_ {H : Hp} {vs : List V} {l : List (List V)} (h : Tups H vs l) {i : Nat} {v : V} (e : vs[i]? = some v) : ∃ a xs, v = .ref a ∧ l[i]? = some xs ∧ H a = some (.tup xs) := by
  have hi : i < l.length := by
    rw [← h.len]
    exact (List.getElem?_eq_some_iff.mp e).1
  obtain ⟨a, e1, e2⟩ := h.get (List.getElem?_eq_getElem hi)
  rw [e] at e1
  exact ⟨a, _, Option.some.inj e1, List.getElem?_eq_getElem hi, e2⟩
theorem Tups.dp {K : PySem.W.Frag} {H : Hp} {vs : List V} {l : List (List V)} (h : Tups H vs l) (p : ∀ xs ∈ l, xs.all plV = true) : DpAll K H vs (l.map fun xs => .tuple (xs.map fp)) := by
  induction h with
  | nil => exact .nil
  | cons h _ ih => exact .cons (dp_tup h (dpf (p _ List.mem_cons_self))) (ih fun xs hx => p xs (List.mem_cons_of_mem _ hx))

theorem Rows.tups {R : Nat → Option V → Hp → Prop} {H : Hp} {n : Nat} {acc : List V} (h : Rows R H n acc) (f : Nat → List V) (hf : ∀ i o, R i o H → ∃ a, o = some (.ref a) ∧ H a = some (.tup (f i))) : Tups H acc ((List.range n).map f) := by
  induction h with
  | nil => exact .nil
  | yes _ r ih =>
    rw [List.range_succ, List.map_append]
    obtain ⟨a, e, h2⟩ := hf _ _ r
    cases e
    exact ih.snoc h2
  | no _ r _ =>
    obtain ⟨a, e, _⟩ := hf _ _ r
    cases e
/-- a comprehension whose items are new tuples -/
theorem lc_tups {K : PySem.W.Frag} {σ : L2.St} {H : Hp} {Q : VK} {a : Addr} {xs : List V} {g : TG} {tt : TT} {te : TE} {vs : List Nat} (f : Nat → List V) (hx : SqL K H a xs) (hl : xs.length ≤ 60000)
    (ht : ∀ i x, xs[i]? = some x → ∀ (H2 : Hp) (N : Option V → Hp → Prop), Same H H2 → (∀ b H3, Same H2 H3 → H3 b = some (.tup (f i)) → N (some (.ref b)) H3) →
      g x (wipe σ vs) H2 fun σ2 H3 => wipe σ2 vs = wipe σ vs ∧ tt σ2 H3 fun b H4 => if b = true then te σ2 H4 fun y H5 => N (some y) H5 else N none H4)
    (q : ∀ D ys H', H D = none → Same H H' → H' D = some (.lst ys) → Tups H' ys ((List.range xs.length).map f) → Q (.ref D) H') : kLc (Itl K a) g tt te vs σ H Q := by
  refine lc_rows (fun i o H' => ∃ b, o = some (.ref b) ∧ H' b = some (.tup (f i))) hx hl (fun _ _ _ _ _ S ⟨b, e, h⟩ => ⟨b, e, S _ _ h⟩) (fun _ _ H' D v ⟨l, hD⟩ _ _ ⟨b, e, h⟩ => ⟨b, e, ?_⟩) (fun i x hi H2 N S hN => ht i x hi H2 N S fun b H3 S3 h3 => hN _ _ S3 ⟨b, rfl, h3⟩) (fun D ys H' n S e rows => q D ys H' n S e (Rows.tups rows f fun i o r => r))
  rw [upd_ne (ne_of h hD (by intro z; cases z))]
  exact h
theorem range_mapD (l : List (List V)) {β : Type} (g : List V → β) : (List.range l.length).map (fun i => g (l.getD i [])) = l.map g := range_getDm l [] g
theorem Tups.take {H : Hp} {vs : List V} {l : List (List V)} (h : Tups H vs l) (i : Nat) : Tups H (vs.take i) (l.take i) := by
  induction h generalizing i with
  | nil => simpa using Tups.nil
  | cons h _ ih =>
    cases i with
    | zero => exact .nil
    | succ i => exact .cons h (ih i)
theorem Tups.drop1 {H : Hp} {vs : List V} {l : List (List V)} (h : Tups H vs l) : Tups H (vs.drop 1) (l.drop 1) := by
  cases h with
  | nil => exact .nil
  | cons _ r => exact r
section
variable {K : PySem.W.Frag} {σ : L2.St} {H : Hp} {Q : VK} {a : Addr} {xs : List V} {g : TG} {tt : TT} {te : TE} {vs : List Nat} {α : Type}
theorem Tups.got {H : Hp} {vs : List V} {L : List α} {f : α → List V} (h : Tups H vs (L.map f)) {i : Nat} {v : V} (e : vs[i]? = some v) : ∃ b x, v = .ref b ∧ L[i]? = some x ∧ H b = some (.tup (f x)) := by
  obtain ⟨b, ys, e1, e2, e3⟩ := h.at_ e
  rw [List.getElem?_map] at e2
  cases ex : L[i]? with
  | none => rw [ex] at e2; cases e2
  | some x =>
    rw [ex] at e2
    cases (show some (f x) = some ys from e2)
    exact ⟨b, x, e1, rfl, e3⟩
theorem Tups.give {H : Hp} {vs : List V} {L : List α} {f : α → List V} (h : Tups H vs (L.map f)) {i : Nat} {x : α} (e : L[i]? = some x) : ∃ b, vs[i]? = some (.ref b) ∧ H b = some (.tup (f x)) := h.get (by rw [List.getElem?_map, e]; rfl)
/-- over a list of tuples, what stands in each told by x: scalars -/
theorem lc_fmT (L : List α) (f : α → List V) (k : α → Option V) (hx : H a = some (.lst xs)) (t : Tups H xs (L.map f)) (hl : L.length ≤ 60000)
    (ht : ∀ x b, x ∈ L → H b = some (.tup (f x)) → ∀ (H2 : Hp) (N : Option V → Hp → Prop), Same H H2 → (∀ H3, Same H2 H3 → N (k x) H3) →
      g (.ref b) (wipe σ vs) H2 fun σ2 H3 => wipe σ2 vs = wipe σ vs ∧ tt σ2 H3 fun b H4 => if b = true then te σ2 H4 fun y H5 => N (some y) H5 else N none H4)
    (q : ∀ D H', H D = none → Same H H' → H' D = some (.lst (L.filterMap k)) → Q (.ref D) H') : kLc (Itl K a) g tt te vs σ H Q := by
  have hz : xs.length = L.length := by rw [t.len, List.length_map]
  refine lc_rows (fun i o _ => ∃ x, L[i]? = some x ∧ o = k x) (sql hx) (by omega) (fun _ _ _ _ _ _ r => r) (fun _ _ _ _ _ _ _ _ r => r) (fun i x hi H2 N S hN => ?_) (fun D ys H' n S e rows => ?_)
  · obtain ⟨b, y, rfl, e1, e2⟩ := t.got hi
    exact ht y b (List.mem_of_getElem? e1) e2 H2 N S fun H3 S3 => hN _ _ S3 ⟨y, e1, rfl⟩
  · have key : ∀ n acc, Rows (fun i o _ => ∃ x, L[i]? = some x ∧ o = k x) H' n acc → acc = (L.take n).filterMap k := fun n acc r => by
      induction r with
      | nil => rfl
      | yes _ r ih =>
        obtain ⟨x, ex, eo⟩ := r
        rw [List.take_add_one, ex, List.filterMap_append, ih]
        show _ = _ ++ [x].filterMap k
        rw [List.filterMap_cons, ← eo]
        rfl
      | no _ r ih =>
        obtain ⟨x, ex, eo⟩ := r
        rw [List.take_add_one, ex, List.filterMap_append, ih]
        show _ = _ ++ [x].filterMap k
        rw [List.filterMap_cons, ← eo]
        simp
    have e2 := key _ _ rows
    rw [hz, List.take_length] at e2
    rw [e2] at e
    exact q D H' n S e
/-- .. those that p takes, themselves -/
theorem lc_filT (L : List α) (f : α → List V) (k : α → Bool) (hx : H a = some (.lst xs)) (t : Tups H xs (L.map f)) (hl : L.length ≤ 60000)
    (ht : ∀ x b, x ∈ L → H b = some (.tup (f x)) → ∀ (H2 : Hp) (N : Option V → Hp → Prop), Same H H2 → (∀ H3, Same H2 H3 → N (if k x = true then some (.ref b) else none) H3) →
      g (.ref b) (wipe σ vs) H2 fun σ2 H3 => wipe σ2 vs = wipe σ vs ∧ tt σ2 H3 fun b H4 => if b = true then te σ2 H4 fun y H5 => N (some y) H5 else N none H4)
    (q : ∀ D ys H', H D = none → Same H H' → H' D = some (.lst ys) → Tups H' ys ((L.filter k).map f) → Q (.ref D) H') : kLc (Itl K a) g tt te vs σ H Q := by
  have hz : xs.length = L.length := by rw [t.len, List.length_map]
  refine lc_rows (fun i o H' => ∃ x b, L[i]? = some x ∧ H b = some (.tup (f x)) ∧ o = if k x = true then some (.ref b) else none) (sql hx) (by omega) (fun _ _ _ _ _ _ r => r) (fun _ _ _ _ _ _ _ _ r => r) (fun i x hi H2 N S hN => ?_) (fun D ys H' n S e rows => ?_)
  · obtain ⟨b, y, rfl, e1, e2⟩ := t.got hi
    exact ht y b (List.mem_of_getElem? e1) e2 H2 N S fun H3 S3 => hN _ _ S3 ⟨y, b, e1, e2, rfl⟩
  · have key : ∀ n acc, Rows (fun i o H' => ∃ x b, L[i]? = some x ∧ H b = some (.tup (f x)) ∧ o = if k x = true then some (.ref b) else none) H' n acc → Tups H' acc (((L.take n).filter k).map f) := fun n acc r => by
      induction r with
      | nil => exact .nil
      | yes _ r ih =>
        obtain ⟨x, b, ex, eb, eo⟩ := r
        by_cases c : k x = true
        · rw [if_pos c] at eo
          cases eo
          rw [List.take_add_one, ex, List.filter_append, List.map_append]
          show Tups H' _ (_ ++ ([x].filter k).map f)
          rw [List.filter_cons, if_pos c]
          exact ih.snoc (S _ _ eb)
        · rw [if_neg c] at eo
          cases eo
      | no _ r ih =>
        obtain ⟨x, b, ex, eb, eo⟩ := r
        by_cases c : k x = true
        · rw [if_pos c] at eo
          cases eo
        · rw [List.take_add_one, ex, List.filter_append, List.map_append]
          show Tups H' _ (_ ++ ([x].filter k).map f)
          rw [List.filter_cons, if_neg c]
          simpa using ih
    have e2 := key _ _ rows
    rw [hz, List.take_length] at e2
    exact q D ys H' n S e e2
/-- .. each made anew -/
theorem lc_newT (L : List α) (f : α → List V) (k : α → List V) (hx : H a = some (.lst xs)) (t : Tups H xs (L.map f)) (hl : L.length ≤ 60000)
    (ht : ∀ x b, x ∈ L → H b = some (.tup (f x)) → ∀ (H2 : Hp) (N : Option V → Hp → Prop), Same H H2 → (∀ c H3, Same H2 H3 → H3 c = some (.tup (k x)) → N (some (.ref c)) H3) →
      g (.ref b) (wipe σ vs) H2 fun σ2 H3 => wipe σ2 vs = wipe σ vs ∧ tt σ2 H3 fun b H4 => if b = true then te σ2 H4 fun y H5 => N (some y) H5 else N none H4)
    (q : ∀ D ys H', H D = none → Same H H' → H' D = some (.lst ys) → Tups H' ys (L.map k) → Q (.ref D) H') : kLc (Itl K a) g tt te vs σ H Q := by
  have hz : xs.length = L.length := by rw [t.len, List.length_map]
  cases hL : L with
  | nil =>
    subst hL
    have hn : xs = [] := List.eq_nil_of_length_eq_zero hz
    subst hn
    refine lc_tups (fun _ => []) (sql hx) (by simp) (fun i x hi => by simp at hi) (fun D ys H' n S e tt => q D ys H' n S e tt)
  | cons x0 r =>
    rw [← hL] at *
    refine lc_tups (fun i => k (L.getD i x0)) (sql hx) (by omega) (fun i x hi H2 N S hN => ?_) (fun D ys H' n S e tt => ?_)
    · obtain ⟨b, y, rfl, e1, e2⟩ := t.got hi
      have ey : L.getD i x0 = y := by
        rw [List.getD_eq_getElem?_getD, e1]
        rfl
      exact ht y b (List.mem_of_getElem? e1) e2 H2 N S fun c H3 S3 h3 => hN c H3 S3 (by rw [ey]; exact h3)
    · rw [hz, range_getDm L x0 k] at tt
      exact q D ys H' n S e tt
end
theorem cut1 (xs : List V) : cutV xs (some 1) none = xs.drop 1 := by
  unfold cutV
  rw [show HT.sIx xs.length 0 (some 1) = min 1 xs.length from HT.sIx_nat xs.length 0 1, HT.sIx_none]
  cases xs with
  | nil => rfl
  | cons x r =>
    rw [show min 1 (x :: r).length = 1 by
      rw [List.length_cons]
      omega]
    show (List.take ((x :: r).length - 1) r) = r
    rw [List.length_cons, Nat.add_sub_cancel]
    exact List.take_length
section
variable {K : PySem.W.Frag} {H : Hp} {Q : VK} {a b : Addr} {xs ys vs : List V} {l : List (List V)}
theorem rd_eqT (h : H a = some (.tup xs)) (k : H b = some (.tup ys)) (p1 : xs.all plV = true) (p2 : ys.all plV = true) (q : Q (.bl (decide (xs = ys))) H) : rEqD K (.ref a) (.ref b) H Q :=
  rd_eqD (dp_tup h (dpf p1)) (dp_tup k (dpf p2)) (shf p1) (shf p2) (by rw [eqvT p1 p2]; exact q)
theorem rd_neT (h : H a = some (.tup xs)) (k : H b = some (.tup ys)) (p1 : xs.all plV = true) (p2 : ys.all plV = true) (q : Q (.bl (!decide (xs = ys))) H) : rNeD K (.ref a) (.ref b) H Q :=
  rd_neD (dp_tup h (dpf p1)) (dp_tup k (dpf p2)) (shf p1) (shf p2) (by rw [eqvT p1 p2]; exact q)
theorem rd_eqL (h : H a = some (.lst xs)) (k : H b = some (.lst ys)) (p1 : xs.all plV = true) (p2 : ys.all plV = true) (q : Q (.bl (decide (xs = ys))) H) : rEqD K (.ref a) (.ref b) H Q :=
  rd_eqD (dp_lst h (dpf p1)) (dp_lst k (dpf p2)) (shfl p1) (shfl p2) (by rw [eqvL p1 p2]; exact q)
theorem rd_neL (h : H a = some (.lst xs)) (k : H b = some (.lst ys)) (p1 : xs.all plV = true) (p2 : ys.all plV = true) (q : Q (.bl (!decide (xs = ys))) H) : rNeD K (.ref a) (.ref b) H Q :=
  rd_neD (dp_lst h (dpf p1)) (dp_lst k (dpf p2)) (shfl p1) (shfl p2) (by rw [eqvL p1 p2]; exact q)
theorem rd_inT (h : H a = some (.tup xs)) (k : H b = some (.lst vs)) (t : Tups H vs l) (p1 : xs.all plV = true) (p2 : ∀ ys ∈ l, ys.all plV = true) (q : Q (.bl (decide (xs ∈ l))) H) : rInD K (.ref a) (.ref b) H Q :=
  rd_inD (dp_tup h (dpf p1)) (dp_lst k (t.dp p2)) (shf p1) (shtl p2) (by rw [anyT p2 p1]; exact q)
theorem rd_ninT (h : H a = some (.tup xs)) (k : H b = some (.lst vs)) (t : Tups H vs l) (p1 : xs.all plV = true) (p2 : ∀ ys ∈ l, ys.all plV = true) (q : Q (.bl (!decide (xs ∈ l))) H) : rNotInD K (.ref a) (.ref b) H Q :=
  rd_ninD (dp_tup h (dpf p1)) (dp_lst k (t.dp p2)) (shf p1) (shtl p2) (by rw [anyT p2 p1]; exact q)
/-- a list of tuples against a written list (its length tells) -/
theorem rd_eqTL0 (k : H b = some (.lst [])) (h : H a = some (.lst vs)) (t : Tups H vs l) (p2 : ∀ ys ∈ l, ys.all plV = true) (q : Q (.bl (decide (vs = []))) H) : rEqD K (.ref a) (.ref b) H Q :=
  rd_eqD (dp_lst h (t.dp p2)) (dp_lst k .nil) (shtl p2) (shtl (l := []) fun _ z => nomatch z) (by
    cases t with
    | nil => simpa [PyData.eqv, PyData.eqvAll] using q
    | cons _ _ => simpa [PyData.eqv, PyData.eqvAll] using q)
theorem rd_neTL0 (k : H b = some (.lst [])) (h : H a = some (.lst vs)) (t : Tups H vs l) (p2 : ∀ ys ∈ l, ys.all plV = true) (q : Q (.bl (!decide (vs = []))) H) : rNeD K (.ref a) (.ref b) H Q :=
  rd_neD (dp_lst h (t.dp p2)) (dp_lst k .nil) (shtl p2) (shtl (l := []) fun _ z => nomatch z) (by
    cases t with
    | nil => simpa [PyData.eqv, PyData.eqvAll] using q
    | cons _ _ => simpa [PyData.eqv, PyData.eqvAll] using q)
end

/-! ### what stays: the kinds that are never changed once made -/
def skKeys : List Str := ["own_nodes", "own_word", "own_pairs", "own_parts", "way"]
def SK : HO → Bool
  | .tup _ => true
  | .lst xs => match xs with
    | [.int _, .int _] => false
    | _ => true
  | .ins _ _ fs => match fs with
    | (k, _) :: _ => skKeys.contains k
    | [] => false
  | _ => false
def Kp (H H' : Hp) : Prop := ∀ b o, SK o = true → H b = some o → H' b = some o
theorem Kp.of {H H' : Hp} (S : Same H H') : Kp H H' := fun b o _ h => S b o h
theorem Kp.refl {H : Hp} : Kp H H := fun _ _ _ h => h
theorem Kp.trans {H H1 H2 : Hp} (a : Kp H H1) (b : Kp H1 H2) : Kp H H2 := fun c o s h => b c o s (a c o s h)
theorem Kp.ex {H H' : Hp} {l : Addr} {o : HO} (X : Ex l H H') (hl : H l = some o) (ho : SK o = false) : Kp H H' := fun b o' s h => X b o' (fun z => by
  subst z
  rw [hl] at h
  cases h
  rw [ho] at s
  cases s) h
theorem Kp.tups {H H' : Hp} (S : Kp H H') {vs : List V} {l : List (List V)} (h : Tups H vs l) : Tups H' vs l := h.mono fun a xs e => S a _ rfl e
theorem sk_refs {vs : List V} (h : ∀ v ∈ vs, ∃ a, v = V.ref a) : SK (.lst vs) = true := by
  match vs, h with
  | [], _ => rfl
  | [x], _ => cases x <;> rfl
  | [x, y], h =>
    obtain ⟨a, e⟩ := h x List.mem_cons_self
    subst e
    rfl
  | x :: y :: z :: r, _ => cases x <;> cases y <;> rfl
theorem Tups.refs {H : Hp} {vs : List V} {l : List (List V)} (h : Tups H vs l) : ∀ v ∈ vs, ∃ a, v = V.ref a := fun v hv => by
  obtain ⟨i, hi, e⟩ := List.getElem_of_mem hv
  obtain ⟨a, _, e1, _⟩ := h.at_ (by rw [List.getElem?_eq_getElem hi, e])
  exact ⟨a, e1⟩
theorem Tups.sk {H : Hp} {vs : List V} {l : List (List V)} (h : Tups H vs l) : SK (.lst vs) = true := sk_refs h.refs

/-! ### what is reckoned with -/
def mk : Mark → Str
  | .read => "read"
  | .written => "written"
  | .changed => "changed"
def dv : Deed → List V
  | .make => [.str "make"]
  | .read => [.str "read"]
  | .write => [.str "write"]
  | .rename => [.str "rename"]
  | .touch => [.str "touch"]
  | .unpack b => [.str "unpack", .int b]
  | .setback b => [.str "setback", .int b]
def wz : Word → Str
  | .plain => ""
  | .held => "held"
  | .anew => "anew"
abbrev av (r : Arr) : List V := [.int r.s, .int r.g, .int r.l, .int r.m, .str (wz r.w)]
def mv (m : Mark) : V := .str (mk m)
def lv (l : List Mark) : List V := l.map mv
def bk (l : List (Mark × Int)) : List (Key × V) := l.map fun p => (Sum.inr (mk p.1), .int p.2)
def agV : Age → V
  | none => .non
  | some i => .int i
theorem mk_inj {a b : Mark} (h : mk a = mk b) : a = b := by
  cases a <;> cases b <;> first | rfl | (exact absurd h (by decide))
theorem wz_inj {a b : Word} (h : wz a = wz b) : a = b := by
  cases a <;> cases b <;> first | rfl | (exact absurd h (by decide))
theorem dv_pl (d : Deed) : (dv d).all plV = true := by cases d with
  | unpack b => exact (show (plV (.str "unpack") && true) = true by decide +kernel)
  | setback b => exact (show (plV (.str "setback") && true) = true by decide +kernel)
  | _ => decide +kernel
theorem mv_pl (m : Mark) : plV (mv m) = true := by cases m <;> decide +kernel
theorem lv_pl (l : List Mark) : (lv l).all plV = true := by
  unfold lv
  rw [List.all_map, List.all_eq_true]
  exact fun m _ => mv_pl m
theorem lv_flat (l : List Mark) : (lv l).all flatV = true := by
  unfold lv
  rw [List.all_map, List.all_eq_true]
  exact fun m _ => rfl
theorem lv_inj {a b : List Mark} (h : lv a = lv b) : a = b := by
  induction a generalizing b with
  | nil =>
    cases b with
    | nil => rfl
    | cons _ _ => cases h
  | cons x r ih =>
    cases b with
    | nil => cases h
    | cons y t =>
      have h1 := (List.cons.inj h).1
      have h2 := ih (List.cons.inj h).2
      rw [mk_inj (V.str.inj h1), h2]
theorem valBk (l : List (Mark × Int)) (m : Mark) : valV (bk l) (Sum.inr (mk m)) = (l.lookup m).map V.int := by
  induction l with
  | nil => rfl
  | cons p r ih =>
    obtain ⟨k, b⟩ := p
    rw [List.lookup_cons]
    by_cases e : m = k
    · subst e
      rw [show bk ((m, b) :: r) = (Sum.inr (mk m), V.int b) :: bk r from rfl, valV_pos rfl]
      simp
    · have ne : ¬ ((Sum.inr (mk k) : Key) = Sum.inr (mk m)) := fun z => e (mk_inj (Sum.inr.inj z)).symm
      have e2 : (m == k) = false := by simpa using e
      rw [show bk ((k, b) :: r) = (Sum.inr (mk k), V.int b) :: bk r from rfl, valV_neg ne, ih, e2]
def dz : Deed → Str
  | .make => "make"
  | .read => "read"
  | .write => "write"
  | .rename => "rename"
  | .touch => "touch"
  | .unpack _ => "unpack"
  | .setback _ => "setback"
theorem at0 (d : Deed) : atI (dv d) 0 = some (.str (dz d)) := by cases d <;> rfl
theorem dz_makes (d : Deed) : inV (.str (dz d)) [.str "make", .str "unpack"] = d.makes := by
  cases d with
  | unpack b => exact (by decide +kernel : inV (.str "unpack") [.str "make", .str "unpack"] = true)
  | setback b => exact (by decide +kernel : inV (.str "setback") [.str "make", .str "unpack"] = false)
  | _ => decide +kernel
theorem dz_read (d : Deed) : decide (dz d = "read") = decide (d = .read) := by
  cases d with
  | unpack b => rw [decide_eq_false (show ¬ Deed.unpack b = .read from fun z => by cases z)]; exact (by decide +kernel : decide (("unpack" : Str) = "read") = false)
  | setback b => rw [decide_eq_false (show ¬ Deed.setback b = .read from fun z => by cases z)]; exact (by decide +kernel : decide (("setback" : Str) = "read") = false)
  | _ => decide +kernel
def rz : Rl → Str
  | .always => "always"
  | .never => "never"
  | .seldom _ => "seldom"
def rn : Rl → V
  | .seldom n => .int n
  | _ => .non
def rfs (r : Rl) : List (Str × V) := [("own_word", .str (rz r)), ("own_after", rn r)]
/-- the table of a file -/
def tbk (t : Tb) : List (Key × V) := [(Sum.inr "read", .int t.r), (Sum.inr "written", .int t.w), (Sum.inr "changed", .int t.c)]
theorem tbk_get (t : Tb) (m : Mark) : valV (tbk t) (Sum.inr (mk m)) = some (.int (t.get m)) := by cases m <;> rfl
def marksV : List V := [mv .read, mv .written, mv .changed]
def stepL (l : List (List V)) (m : V) : List (List V) := l ++ l.map (· ++ [m])
def subsV (i : Nat) : List (List V) := (marksV.take i).foldl stepL [[]]
def looksV : List (List V) := (subsV 3).drop 1
def looksAll : List (List Mark) := [[.read], [.written], [.read, .written], [.changed], [.read, .changed], [.written, .changed], [.read, .written, .changed]]
theorem looksV_eq : looksV = looksAll.map lv := rfl
theorem subsV_succ {i : Nat} {m : V} (h : marksV[i]? = some m) : subsV (i + 1) = stepL (subsV i) m := by
  unfold subsV
  rw [List.take_add_one, h, List.foldl_append]
  rfl
end AgV
end
section
set_option maxHeartbeats 4000000
/-! AgE: enumerate over a tuple (the layer has it over a list). -/
namespace AgE
open PySem PySem.Spec PyProof.Rows L2 AgR AgT AgC AgI AgJ
abbrev itO (t : Addr) : Obj := { cls := .type "tuple_iterator", data := .fields #[.ref t, .int 0 0] }
abbrev enO (i : Addr) : Obj := { cls := .type "enumerate", data := .fields #[.none, .bool false, .ref i, rawInt 0, .none, .none] }
set_option maxHeartbeats 1000000 in
theorem meets_enT (t : Addr) (items : Array Value) :
    Meets (Builtin.«enumerate.__new__» ⟨[.type "enumerate", .ref t], []⟩) (fun _ R s => s.heap.IsTuple t items ∧
      R (.ok (.ret (.ref (s.heap.push (itO t)).objs.size))) { s with heap := (s.heap.push (itO t)).push (enO s.heap.objs.size) }) :=
  .of_wp fun prog w A R s hh => by
    obtain ⟨hp, g, d, tk, os⟩ := s
    obtain ⟨ht, h⟩ := hh
    have hs := sub_enumerate
    have hi : ∀ {A2 : Around} {E2 : Value → Shared → Prop} {Q2 : Value → Shared → Prop}, Q2 (.ref hp.objs.size) ⟨hp.push (itO t), g, d, tk, os⟩ → wpAny (model prog w) A2 (pyIter (.ref t)) Q2 E2 ⟨hp, g, d, tk, os⟩ :=
      fun q2 => (begins_tuple t items).iter prog w _ _ ⟨hp, g, d, tk, os⟩ _ ht q2
    wp_walk using hi
    refine wpAny_stack_any fun _ => wpAny_pure ?_
    split
    · rename_i c _ _ _ _ _
      cases (c == Value.type "enumerate") <;> (wp_walk using hi; exact ⟨_, rfl, h⟩)
    · wp_walk using hi
      exact ⟨_, rfl, h⟩
theorem call_enT {prog : Program} {w : World} {A : Around} {E : Value → Shared → Prop} {s : Shared} {t : Addr} {items : Array Value} {Q : Value → Shared → Prop} (ht : s.heap.IsTuple t items)
    (h : ∀ g, IsEnum g (s.heap.objs.size + 1) s.heap.objs.size 0 .none → g.IsTupleIter s.heap.objs.size t 0 → g.objs.size = s.heap.objs.size + 2 →
      (∀ b o, s.heap.get? b = some o → g.get? b = some o) → Q (.ref (s.heap.objs.size + 1)) { s with heap := g }) : wpAny (model prog w) A (call (.type "enumerate") [.ref t]) Q E s := by
  refine callType_new F.called_enumerate (by decide) (F.typeCall_enumerate_1 _) (F.newCall_enumerate_1 _) (fun obj => F.args_object_init_2 obj _) F.entry_enumerate_new (meets_enT t items) ⟨ht, ?_⟩
  have z1 : (s.heap.push (itO t)).objs.size = s.heap.objs.size + 1 := Heap.size_push ..
  show _ ∧ _
  rw [z1]
  have he : IsEnum ((s.heap.push (itO t)).push (enO s.heap.objs.size)) (s.heap.objs.size + 1) s.heap.objs.size 0 .none := by
    have q := Heap.get?_push_size (s.heap.push (itO t)) (o := enO s.heap.objs.size) rfl
    rw [z1] at q
    exact q
  exact ⟨⟨_, he, rfl⟩, h _ he ⟨_, Heap.get?_push_of_some _ (Heap.get?_push_size _ rfl), rfl, rfl⟩ (by rw [Heap.size_push, z1]) fun b o x => Heap.get?_push_of_some _ (Heap.get?_push_of_some _ x)⟩
/-- the tuple at a, each item in a new pair -/
def ItE (K : PySem.W.Frag) (a : Addr) : It :=
  ⟨fun i H => ∃ (xs : List V) (x : V), SqT K H a xs ∧ xs[i]? = some x, fun i H v H' => ∃ b x, v = .ref b ∧ H b = none ∧ H' = upd H b (.tup [.int (i : Nat), x]) ∧ ∀ xs, SqT K H a xs → xs[i]? = some x,
    fun i H => ∃ xs : List V, SqT K H a xs ∧ xs.length ≤ i⟩
theorem turn_enT {P : Program} {w : World} {K : PySem.W.Frag} {elts : List Expr} {kk : Nat} {tpos : Pos} (a e it : Addr) :
    Turn P w K (.Tuple elts kk tpos) (ItE K a) [e, it] e (fun i h => (∃ old, IsEnum h e it ((i : Nat) : Int) old) ∧ h.IsTupleIter it a i ∧ e ≠ it ∧ e ≠ a ∧ a ≠ it) where
  mem := List.mem_cons_self
  obj := fun i h st b hb => by
    obtain ⟨⟨old, he⟩, ⟨o, ho, _, hd⟩, _⟩ := st
    rcases (by simpa using hb : b = e ∨ b = it) with z | z
    · subst z; exact ⟨_, he, fun v q => nomatch q⟩
    · subst z; exact ⟨o, ho, fun v q => by rw [hd] at q; cases q⟩
  keep := fun i h h' ⟨⟨old, he⟩, hi, hne⟩ k => ⟨⟨old, k e (by simp) _ he⟩, hi.at fun o q => k it (by simp) o q, hne⟩
  item := by
    intro X hP hw hK hc i pins s σ H E I hf st hg
    subst hP hw hK
    obtain ⟨⟨old, he⟩, hit, hne, hea, hai⟩ := st
    obtain ⟨xs, x, hq, hx⟩ := hg
    obtain ⟨its, rv, p, hz⟩ := I.tuple hq
    obtain ⟨u, hu, ru⟩ := rv.get hx
    have hel : e < s.heap.objs.size := Heap.lt_size he
    have hil : it < s.heap.objs.size := by obtain ⟨_, q, _⟩ := hit; exact Heap.lt_size q
    have hlt : i < its.toArray.size := by
      have := (List.getElem?_eq_some_iff.mp hu).1
      simpa using this
    have DD : Draws X.prog X.w X.A.in1 it [it, a] its.toArray.size (fun i v => its.toArray[i]? = some v) (fun i h => h.IsTupleIter it a i ∧ h.IsTuple a its.toArray) := Draws.tuple (show X.A.in1.handled = none from I.ok.hd hc) it a hai its.toArray
    refine wpAny_pyNext_enum_itemD DD he ⟨hit, p⟩ hlt hne (by simp [hne, hea]) fun x2 h' tk hP ho hst hT hsz hk => ?_
    have ex : x2 = u := by
      have e1 : its[i]? = some x2 := by simpa using hP
      exact Option.some.inj (e1.symm.trans hu)
    subst ex
    refine ⟨_, rfl, wpAny_letOwnedTupleGo_enum (s := { s with heap := h', toks := tk + 1 }) ho fun h'' he' sb => ?_⟩
    have hT2 : h''.get? s.heap.objs.size = some { cls := .type "tuple", data := .seq #[.int i tk, x2] } := (sb.2 _ (Nat.ne_of_gt hel)).trans hT
    have newT : ObjOk X.prog X.w (upd H s.heap.objs.size (.tup [.int (i : Nat), x])) h'' s.heap.objs.size (.tup [.int (i : Nat), x]) :=
      ⟨by show 2 ≤ sizeLine; decide, [.int i tk, x2], .cons ⟨_, rfl⟩ (.cons ru .nil), ⟨_, hT2, rfl, _, rfl⟩⟩
    have I1 := I.turnedNew (t' := tk + 1) (ch := [e, it]) (fun b ob hb q => (sb.2 b (fun z => hb (by simp [z]))).trans (hk b ob (fun z => hb (by simp [z])) (fun z => hb (by simp [z])) q)) hf (Nat.le_refl _) newT
    refine ⟨.ref s.heap.objs.size, _, I1, rfl, ⟨_, x, rfl, I.hok.fresh (Nat.le_refl _), rfl, fun ys hy => by rw [I.tuple_inj hy hq]; exact hx⟩, ⟨⟨x2, ?_⟩, hst.1.at fun o q => (sb.2 it (Ne.symm hne)).trans q, hne, hea, hai⟩, fun b hb => ?_⟩
    · rw [show ((i + 1 : Nat) : Int) = (i : Int) + 1 by omega]
      exact he'
    · have hb2 : b < s.heap.objs.size := by
        rcases (by simpa using hb : b = e ∨ b = it) with z | z
        · rw [z]; exact hel
        · rw [z]; exact hil
      exact (upd_ne (Nat.ne_of_lt hb2)).trans (hf b hb).1
  done := by
    intro X hP hw hK hc i pins s σ H E I hf st hg
    subst hP hw hK
    obtain ⟨⟨old, he⟩, hit, hne, hea, hai⟩ := st
    obtain ⟨xs, hq, hx⟩ := hg
    obtain ⟨its, rv, p, hz⟩ := I.tuple hq
    obtain ⟨f0, f1, f2, f3, f4, f5⟩ := hf it (by simp)
    have hl := rv.length
    have hT : s.TypeIs (.ref e) "enumerate" := ⟨_, he, rfl⟩
    unfold pyNext
    refine wpAny_bind (wpAny_attempt (wpAny_callSpecial?_slot (name := Str.ofString "__next__") hT F.slot_enumerate_next (wpAny_call_entry F.slot_enumerate_next hT F.entry_enumerate_next ?_ (F.args_enumerate_next_1 _))))
    show wpAny _ _ (field (.ref e) 2 >>= _) _ _ _
    refine wpAny_bind (wpAny_field he rfl (x := .ref it) rfl (wpAny_bind (wpAny_nextOf_tuple_end (I.ok.hd hc) hit (show s.heap.IsTuple a its.toArray from p) (by simp; omega) fun h' x he' hx' => ?_)))
    obtain ⟨o, ho, hc2⟩ := hx'
    exact wpAny_bind (wpAny_isInstance (T := "StopIteration") (b := true) ⟨o, ho, hc2⟩ isSubtype_stop (wpAny_pure ⟨rfl, I.turned (t' := s.toks) (fun b o hb q => he' b o hb q) f0 f1 f3 f4 f5⟩))
  self := fun A i s Q E st h => let ⟨⟨_, he⟩, _⟩ := st; wpAny_pyIter_enum he h
def iEnT (K : PySem.W.Frag) (ta : TA) : TI := fun σ H R => ta σ H fun vs H1 => ∃ a xs, vs = [.ref a] ∧ SqT K H1 a xs ∧ R (ItE K a) H1
theorem pi_enT {X : Cx} {K : PySem.W.Frag} {e : Expr} {ta : TA} {p pos tpos : Pos} {elts : List Expr} {kk : Nat} (hg : Gl X "enumerate") (hm : X.mg "enumerate" = none) (ha : PA X [e] ta) (hs : starEach [e] X.env = [(false, eval e X.env)] := by rfl) (hK : X.K = K := by rfl) :
    PI X (.Tuple elts kk tpos) (.Call (.Name "enumerate" p) [e] [] pos) (iEnT K ta) := by
  subst hK
  refine ⟨fun pins s σ H R I h => Call_ (ld_blt I hg hm boot_enumerate (PyProof.Rows.callWith_type1 (thn (ha.run pos pins s σ H _ I h) fun us s1 ⟨vs, H1, I1, r1, q1⟩ => ?_) hs rfl))⟩
  obtain ⟨a, xs, ex, hq, q⟩ := q1
  subst ex
  obtain ⟨u, rfl, ru⟩ := vals1 r1
  cases (show u = Value.ref a from ru)
  obtain ⟨its, rv, p', hz⟩ := I1.tuple hq
  have hal : a < s1.heap.objs.size := by obtain ⟨_, q, _⟩ := p'; exact Heap.lt_size q
  refine call_enT (show s1.heap.IsTuple a its.toArray from p') fun h' he hit hsz hk => wpAny_pyIter_enum he ?_
  have I2 : Inv X pins σ H1 { s1 with heap := h' } := I1.kept (t' := s1.toks) hk
  refine ⟨s1.heap.objs.size + 1, [s1.heap.objs.size + 1, s1.heap.objs.size], _, _, H1, rfl, I2, turn_enT a (s1.heap.objs.size + 1) s1.heap.objs.size, ⟨⟨.none, he⟩, hit, Nat.succ_ne_self _, Nat.ne_of_gt (Nat.lt_succ_of_lt hal), Nat.ne_of_lt hal⟩, fun b hb => ?_, q⟩
  have hle : s1.heap.objs.size ≤ b := by
    rcases (by simpa using hb : b = s1.heap.objs.size + 1 ∨ b = s1.heap.objs.size) with z | z
    · rw [z]; exact Nat.le_succ _
    · rw [z]; exact Nat.le_refl _
  exact I1.fpOk hle (I1.hok.fresh hle)
/-- its loop -/
theorem rd_iET {K : PySem.W.Frag} {tr : TA} {σ : L2.St} {H : Hp} {R : It → Hp → Prop} (h : tr σ H fun vs H1 => ∃ a xs, vs = [.ref a] ∧ SqT K H1 a xs ∧ R (ItE K a) H1) : iEnT K tr σ H R := h
theorem fo_enumT {K : PySem.W.Frag} {σ : L2.St} {H : Hp} {a : Addr} {xs : List V} {g : TG} {t : TS} {nx : L2.St → Hp → Prop} {rt : VK} (Pv : Nat → L2.St → Hp → Prop) (hx : SqT K H a xs) (h0 : Pv 0 σ H) (hl : ∀ i σ H, i ≤ xs.length → Pv i σ H → SqT K H a xs)
    (hs : ∀ i x σ H p H1, xs[i]? = some x → Pv i σ H → H p = none → Same H H1 → H1 p = some (.tup [.int (i : Nat), x]) → g (.ref p) σ H1 fun σ2 H2 => t ⟨Pv (i + 1), rt, nx, Pv (i + 1)⟩ σ2 H2) (hd : ∀ σ H, Pv xs.length σ H → nx σ H) :
    ∃ b ys, [V.ref a] = [.ref b] ∧ SqT K H b ys ∧ kFor g t nx rt σ (ItE K b) H := by
  refine ⟨a, xs, rfl, hx, fun i m σ H => m = xs.length - i ∧ i ≤ xs.length ∧ Pv i σ H, ⟨xs.length, by simp, Nat.zero_le _, h0⟩, ?_⟩
  rintro i m σ H ⟨rfl, hi, p⟩
  have q := hl i σ H hi p
  by_cases hlt : i < xs.length
  · refine .inr ⟨⟨xs, xs[i], q, by simp [hlt]⟩, Pv (i + 1), fun σ' H' p' => ⟨xs.length - (i + 1), by omega, rfl, hlt, p'⟩, fun v H' y => ?_⟩
    obtain ⟨b, x, rfl, nb, rfl, hx2⟩ := y
    exact hs i x σ H b _ (hx2 xs q) p nb (same_upd nb) upd_same
  · have e : i = xs.length := by omega
    subst e
    exact .inl ⟨⟨xs, q, Nat.le_refl _⟩, hd σ H p⟩
theorem ji_enum {X : Cx} {K : PySem.W.Frag} {e : Expr} {ta : TA} {p pos tpos : Pos} {elts : List Expr} {kk : Nat} (hg : Gl X "enumerate") (hm : X.mg "enumerate" = none) (ha : PA X [e] ta) (hs : starEach [e] X.env = [(false, eval e X.env)] := by rfl) (hK : X.K = K := by rfl) :
    PI X (.Tuple elts kk tpos) (.Call (.Name "enumerate" p) [e] [] pos) (iEnum K ta) := hK ▸ pi_enum hg hm ha hs
/-! ### a def with a star parameter -/
def spStar (n : Nat) (sp : Sp) : Sp := fun vs H Q E => ∃ ws rest, vs = ws ++ rest ∧ ws.length = n ∧ rest.length ≤ sizeLine ∧ ∀ p, H p = Option.none → sp (ws ++ [V.ref p]) (upd H p (.tup rest)) Q E
theorem mkS {P : Program} {w : World} {K : PySem.W.Frag} {mg : Str → Option Value} {base : Heap} {d : He5.DefA} {N ps : List Str} {pv : Str} {k : Nat} {sp : Sp} (T : Tx K mg) (i : Nat) (hd : fn[i]? = some d) (hdf : d.dfl = []) (S : FnScope N (ps ++ [pv]) d.scope)
    (hb : ∀ (kV doc pm : Value) (an : Option Addr) (cdv ct : Value) (us rest : List Value), us.length = ps.length → bindArgs (PySem.W.fnOf d.name d.qual d.params d.body d.scope .none kV doc pm an cdv ct) ⟨us ++ rest, []⟩ = (newTuple rest >>= fun t => pure (ps.zip us ++ [(pv, t)])))
    (hbody : ∀ (cdv : Value) (A : Around) (outer : List Env) (s : Shared) (H : Hp) (vs : List V) (Q : VK) (E : XK), Room k (A.deeper (envOfC d.qual d.scope s.heap.objs.size (d.at_ K) cdv)) → sp vs H Q E →
      ∃ t, PSs (cxOf CX0 P w K mg base N d.qual d.scope (d.at_ K) cdv A outer s H E).nox d.body t ∧ t { nx := fun _ H' => Q .non H', rt := Q } (start N vs) H) :
    FnR P w K mg base CX0 (k + 1) (d.at_ K) (spStar ps.length sp) ∧ PySem.W.keepIn K (.ref (d.at_ K)) = true := by
  obtain ⟨fd, F⟩ := T.def_ i d hd
  have e : d.dvs K = [] := by
    show d.dfl.map _ = []
    rw [hdf]
    rfl
  rw [e] at F
  obtain ⟨oc, od, dV, kV, doc, pm, an, cdv, ct, osl, rfl, lk, hcd, hD, _⟩ := F.ex
  rcases hD with ⟨_, rfl⟩ | ⟨z, _⟩
  · exact ⟨StX.fn_star lk hcd S StX.cxUp_none (hb kV doc pm an cdv ct) fun A outer s H vs Q E hr h => by
      obtain ⟨t, h1, h2⟩ := hbody cdv A outer s H vs Q E hr h
      exact ⟨t, h1.nox, h2⟩, F.kp⟩
  · exact absurd rfl z
end AgE
end
section
set_option maxHeartbeats 4000000
open PySem PySem.Spec PyProof.Rows L2 AgR AgT AgC AgI AgJ AgV AgE
open AgM hiding T sets passed b2i
local macro_rules | `(tactic| walk_at "hp") => `(tactic| first | assumption | exact upd_same | (apply same_at; (· assumption); (· walk_at "hp")))
local macro_rules | `(tactic| walk_at "sq") => `(tactic| first | assumption | (apply sql; walk_at "hp") | (apply sqt; walk_at "hp") | (apply Or.inl; (first | assumption | (apply sql; walk_at "hp"))) | (apply Or.inr; (first | assumption | (apply sqt; walk_at "hp"))))
local macro_rules | `(tactic| walk_at "sm") => `(tactic| first | assumption | exact same_refl | (apply same_trans; (· assumption); (· walk_at "sm")))
local macro_rules | `(tactic| walk_at "rd1") => `(tactic| first
  | ((with_reducible apply rd_var); · rfl)
  | (with_reducible apply rd_C)
  | (with_reducible apply rd_op)
  | (with_reducible apply rd_cons)
  | (with_reducible apply rd_nil)
  | (with_reducible apply rd_I0)
  | (with_reducible apply rd_CB)
  | (with_reducible apply rd_CR)
  | (with_reducible apply rd_seq)
  | (with_reducible apply rd_ifS)
  | (with_reducible apply rd_asg)
  | (with_reducible apply rd_gname)
  | (with_reducible apply rd_ret)
  | (with_reducible apply rd_drop)
  | (with_reducible apply rd_next)
  | (with_reducible apply rd_test)
  | (with_reducible apply rd_B)
  | (with_reducible apply rd_ex)
  | (with_reducible apply rd_exi)
  | (with_reducible apply rd_and)
  | (with_reducible apply rd_or)
  | (with_reducible apply rd_not)
  | (with_reducible apply rd_yes)
  | (with_reducible apply rd_andV)
  | (with_reducible apply rd_orV)
  | (with_reducible apply rd_notV)
  | (with_reducible apply rd_if)
  | (with_reducible apply iteT)
  | (with_reducible apply iteF)
  | (with_reducible apply iteNT)
  | with_reducible apply iteNF)
local macro_rules | `(tactic| walk_at "rd2") => `(tactic| first
  | (with_reducible apply rd_F)
  | ((with_reducible apply rd_kF); (· walk_at "hp"); (· rfl))
  | (with_reducible apply rd_chain)
  | (with_reducible apply rd_un)
  | (with_reducible apply rd_U)
  | (with_reducible apply rd_eqi)
  | (with_reducible apply rd_nei)
  | (with_reducible apply rd_eqs)
  | (with_reducible apply rd_nes)
  | (with_reducible apply rd_eqb)
  | (with_reducible apply rd_eqin)
  | (with_reducible apply rd_eqni)
  | (with_reducible apply rd_eqnn)
  | (with_reducible apply rd_isn_i)
  | (with_reducible apply rd_notn_i)
  | (with_reducible apply rd_isn_r)
  | (with_reducible apply rd_notn_r)
  | (with_reducible apply rd_isn_n)
  | (with_reducible apply rd_notn_n)
  | (with_reducible apply rd_isn)
  | (with_reducible apply rd_notn)
  | (with_reducible apply rd_isi_ii)
  | (with_reducible apply rd_isi_ib)
  | (with_reducible apply rd_isi_bb)
  | (with_reducible apply rd_isi_ss)
  | ((with_reducible apply rd_isi_tt); · walk_at "hp")
  | ((with_reducible apply rd_isi_own); (· assumption); (· walk_at "hp"))
  | ((with_reducible apply rd_isi_int); · assumption)
  | ((with_reducible apply rd_ixT); (· walk_at "sq"); (· first | assumption | rfl))
  | ((with_reducible apply rd_ixL); (· walk_at "sq"); (· first | assumption | rfl))
  | ((with_reducible apply rd_ln); · walk_at "sq")
  | ((with_reducible apply rd_in); (· walk_at "sq"); (· rfl); (· rfl))
  | ((with_reducible apply rd_nin); (· walk_at "sq"); (· rfl); (· rfl)))
local macro_rules | `(tactic| walk_at "rd3") => `(tactic| first
  | (with_reducible apply rd_MR)
  | ((with_reducible apply rd_kM); (· walk_at "hp"); (· rfl))
  | (with_reducible apply rd_PR)
  | ((with_reducible apply rd_kPR); · walk_at "hp")
  | (with_reducible apply rd_KR)
  | (with_reducible apply rd_kKR)
  | (with_reducible apply rd_KS)
  | (with_reducible apply rd_SR)
  | (with_reducible apply rd_SubO)
  | ((with_reducible apply rd_kSubO); · walk_at "hp")
  | ((with_reducible apply rd_LenO); · walk_at "hp")
  | (with_reducible apply rd_tup)
  | (with_reducible apply rd_lst)
  | ((with_reducible apply rd_kTup); · exact Nat.le_of_ble_eq_true rfl)
  | ((with_reducible apply rd_kLst); · exact Nat.le_of_ble_eq_true rfl)
  | (with_reducible apply rd_BM)
  | ((with_reducible apply rd_kTyL); · walk_at "hp")
  | (with_reducible apply rd_sl)
  | (with_reducible apply rd_noPart)
  | (with_reducible apply rd_part)
  | (with_reducible apply rd_star)
  | ((with_reducible apply rd_kStar); · walk_at "sq")
  | (with_reducible apply rd_sF)
  | ((with_reducible apply rd_kSF); (· walk_at "hp"); (· exact Nat.le_of_ble_eq_true rfl))
  | (with_reducible apply rd_gsub)
  | (with_reducible apply rd_par)
  | (with_reducible apply rd_disp)
  | (with_reducible apply rd_pair)
  | (with_reducible apply rd_pair0)
  | ((with_reducible apply rd_kDisp); (· walk_at "hp"); (· rfl); (· exact Nat.le_of_ble_eq_true rfl))
  | (with_reducible apply rd_dnew)
  | (with_reducible apply rd_dnewT)
  | (with_reducible apply rd_dget)
  | (with_reducible apply rd_din)
  | (with_reducible apply rd_dnin)
  | (with_reducible apply rd_dput)
  | ((with_reducible apply rd_getS); (· walk_at "hp"); (· first | assumption | rfl))
  | ((with_reducible apply rd_inS); (· walk_at "hp"))
  | ((with_reducible apply rd_ninS); (· walk_at "hp"))
  | ((with_reducible apply rd_getI); (· walk_at "hp"); (· first | assumption | rfl))
  | ((with_reducible apply rd_ninI); (· walk_at "hp"))
  | (with_reducible apply rd_int)
  | (with_reducible apply rd_intb)
  | (with_reducible apply rd_abs)
  | (with_reducible apply rd_max2)
  | (with_reducible apply rd_min2)
  | ((with_reducible apply rd_lof); (· walk_at "sq"))
  | ((with_reducible apply rd_tof); (· walk_at "sq"))
  | ((with_reducible apply rd_gtup); (· walk_at "sq"); (· rfl))
  | (with_reducible apply rd_gcons)
  | (with_reducible apply rd_gnil)
  | (with_reducible apply rd_lc)
  | (with_reducible apply rd_for)
  | (with_reducible apply rd_iL)
  | (with_reducible apply rd_iT)
  | (with_reducible apply rd_iR1)
  | (with_reducible apply rd_iR2)
  | (with_reducible apply rd_iE)
  | (with_reducible apply rd_iET)
  | (with_reducible apply rd_iKeys)
  | (refine ⟨rfl, ?_⟩))
local macro_rules | `(tactic| walk_at "rd") => `(tactic| first | walk_at "rd1" | walk_at "rd2" | walk_at "rd3" | walk_at "call" | ((with_reducible apply iteBT); · decide +kernel) | ((with_reducible apply iteBF); · decide +kernel) | ((with_reducible apply iteDT); · rfl) | ((with_reducible apply iteNDF); · rfl) | ((with_reducible apply iteBF); · rfl) | ((with_reducible apply iteBT); · rfl))
local macro_rules | `(tactic| walk_at "go") => `(tactic| repeat walk_at "rd")
namespace AgW
section
variable {P : Program} {w : World} {K : PySem.W.Frag} {mg : Str → Option Value} {base : Heap}
def sp_is_whole : Sp := sp1 fun value H Q => ∃ i, value = .int i ∧ Q (.bl true) H
theorem sc_is_whole : FnScope n_is_whole p_is_whole d_is_whole.scope := ⟨rfl, rfl, rfl, by decide +kernel, rfl, by decide +kernel, by decide +kernel⟩
theorem ok_is_whole (T : Tx K mg) : GF P w K mg base "is_whole" 1 sp_is_whole := by
  have F := mkR (P := P) (w := w) (base := base) T 0 (d := d_is_whole) rfl rfl sc_is_whole (fun _ _ _ _ _ _ us hl => match us, hl with | [_], _ => rfl) len1 (k := 0) (sp := sp_is_whole) fun cdv A outer s H vs Q E hr h => by
    obtain ⟨value, rfl, h⟩ := h
    refine ⟨_, (pss_one (ps_ret (pe_and (pe_cb (jc_isi (K := K)) (T.free 70) (pa_cons (pv 0) (pa_cons (pe_gty (T := "int") (T.free 73)) pa_nil))) (pe_one (pe_not (pe_cb (jc_isi (K := K)) (T.free 70) (pa_cons (pv 0) (pa_cons (pe_gty (T := "bool") (T.free 82)) pa_nil)))))))), ?_⟩
    obtain ⟨i, rfl, h⟩ := h
    walk_at "go"
    exact h
  exact ⟨_, T.glo 0, F.2, F.1⟩
theorem c_is_whole {H : Hp} {Q : VK} {E : XK} {i : Int} (q : Q (.bl true) H) : sp_is_whole [.int i] H Q E := ⟨_, rfl, i, rfl, q⟩
local macro_rules | `(tactic| walk_at "call") => `(tactic| ((with_reducible apply c_is_whole)))
def sp_is_between : Sp := sp3 fun value low high H Q => ∃ i j k, value = .int i ∧ low = .int j ∧ high = .int k ∧ Q (.bl (decide (j ≤ i) && decide (i ≤ k))) H
theorem sc_is_between : FnScope n_is_between p_is_between d_is_between.scope := ⟨rfl, rfl, rfl, by decide +kernel, rfl, by decide +kernel, by decide +kernel⟩
theorem ok_is_between (T : Tx K mg) : GF P w K mg base "is_between" 2 sp_is_between := by
  have F := mkR (P := P) (w := w) (base := base) T 1 (d := d_is_between) rfl rfl sc_is_between (fun _ _ _ _ _ _ us hl => match us, hl with | [_, _, _], _ => rfl) len3 (k := 1) (sp := sp_is_between) fun cdv A outer s H vs Q E hr h => by
    obtain ⟨value, low, high, rfl, h⟩ := h
    refine ⟨_, (pss_one (ps_ret (pe_and (pe_gf (ok_is_whole (K := K) T) hr (pa_cons (pv 0) pa_nil)) (pe_one (pe_chain op_le op_le (pv 1) (pv 0) (pv 2)))))), ?_⟩
    obtain ⟨i, j, k, rfl, rfl, rfl, h⟩ := h
    walk_at "go"
    refine ited (fun c => ?_) (fun c => ?_)
    · walk_at "go"
      rw [decide_eq_true c] at h
      exact h
    · rw [decide_eq_false c] at h
      exact h
  exact ⟨_, T.glo 1, F.2, F.1⟩
theorem c_is_between {H : Hp} {Q : VK} {E : XK} {i j k : Int} (q : Q (.bl (decide (j ≤ i) && decide (i ≤ k))) H) : sp_is_between [.int i, .int j, .int k] H Q E := ⟨_, _, _, rfl, i, j, k, rfl, rfl, rfl, q⟩
local macro_rules | `(tactic| walk_at "call") => `(tactic| ((with_reducible apply c_is_between)))
def sp_is_count : Sp := sp1 fun value H Q => ∃ i, value = .int i ∧ Q (.bl (decide (0 ≤ i))) H
theorem sc_is_count : FnScope n_is_count p_is_count d_is_count.scope := ⟨rfl, rfl, rfl, by decide +kernel, rfl, by decide +kernel, by decide +kernel⟩
theorem ok_is_count (T : Tx K mg) : GF P w K mg base "is_count" 2 sp_is_count := by
  have F := mkR (P := P) (w := w) (base := base) T 2 (d := d_is_count) rfl rfl sc_is_count (fun _ _ _ _ _ _ us hl => match us, hl with | [_], _ => rfl) len1 (k := 1) (sp := sp_is_count) fun cdv A outer s H vs Q E hr h => by
    obtain ⟨value, rfl, h⟩ := h
    refine ⟨_, (pss_one (ps_ret (pe_and (pe_gf (ok_is_whole (K := K) T) hr (pa_cons (pv 0) pa_nil)) (pe_one (pe_cmpR op_ge (pv 0) pe_int (nomark _)))))), ?_⟩
    obtain ⟨i, rfl, h⟩ := h
    walk_at "go"
    exact h
  exact ⟨_, T.glo 2, F.2, F.1⟩
theorem c_is_count {H : Hp} {Q : VK} {E : XK} {i : Int} (q : Q (.bl (decide (0 ≤ i))) H) : sp_is_count [.int i] H Q E := ⟨_, rfl, i, rfl, q⟩
local macro_rules | `(tactic| walk_at "call") => `(tactic| ((with_reducible apply c_is_count)))
def sp_is_listed : Sp := sp1 fun value H Q => ∃ a xs, value = .ref a ∧ H a = some (.lst xs) ∧ ∀ H', Same H H' → Q (.bl true) H'
theorem sc_is_listed : FnScope n_is_listed p_is_listed d_is_listed.scope := ⟨rfl, rfl, rfl, by decide +kernel, rfl, by decide +kernel, by decide +kernel⟩
theorem ok_is_listed (T : Tx K mg) : GF P w K mg base "is_listed" 1 sp_is_listed := by
  have F := mkR (P := P) (w := w) (base := base) T 3 (d := d_is_listed) rfl rfl sc_is_listed (fun _ _ _ _ _ _ us hl => match us, hl with | [_], _ => rfl) len1 (k := 0) (sp := sp_is_listed) fun cdv A outer s H vs Q E hr h => by
    obtain ⟨value, rfl, h⟩ := h
    refine ⟨_, (pss_one (ps_ret (pe_cb (jc_isiT (K := K)) (T.free 70) (pa_cons (pv 0) (pa_cons (pe_tup (pa_cons (pe_gty (T := "list") (T.free 79)) (pa_cons (pe_gty (T := "tuple") (T.free 78)) pa_nil))) pa_nil))))), ?_⟩
    obtain ⟨a, xs, rfl, ha, h⟩ := h
    walk_at "go"
    intro p H1 n1 S1 h1
    walk_at "go"
    refine ⟨_, _, _, .type "list", _, true, rfl, h1, .cons (.ty _) (.cons (.ty _) .nil), .base (.lst (S1 _ _ ha)), kitAny_cons (b := true) (kit_ty (by decide +kernel)) (fun e => nomatch e) (fun _ => rfl), h _ S1⟩
  exact ⟨_, T.glo 3, F.2, F.1⟩
theorem c_is_listed {H : Hp} {Q : VK} {E : XK} {a : Addr} {xs : List V} (ha : H a = some (.lst xs)) (q : ∀ H', Same H H' → Q (.bl true) H') : sp_is_listed [.ref a] H Q E := ⟨_, rfl, a, xs, rfl, ha, q⟩
local macro_rules | `(tactic| walk_at "call") => `(tactic| ((with_reducible apply c_is_listed); (· walk_at "hp")))
def sp_is_part_of (K : PySem.W.Frag) : Sp := sp2 fun value words H Q => ∃ (z : Str) (a : Addr) (zs : List Str), value = .str z ∧ words = .ref a ∧ SqT K H a (zs.map V.str) ∧ Q (.bl (inV (.str z) (zs.map V.str))) H
theorem sc_is_part_of : FnScope n_is_part_of p_is_part_of d_is_part_of.scope := ⟨rfl, rfl, rfl, by decide +kernel, rfl, by decide +kernel, by decide +kernel⟩
theorem ok_is_part_of (T : Tx K mg) : GF P w K mg base "is_part_of" 1 (sp_is_part_of K) := by
  have F := mkR (P := P) (w := w) (base := base) T 4 (d := d_is_part_of) rfl rfl sc_is_part_of (fun _ _ _ _ _ _ us hl => match us, hl with | [_, _], _ => rfl) len2 (k := 0) (sp := (sp_is_part_of K)) fun cdv A outer s H vs Q E hr h => by
    obtain ⟨value, words, rfl, h⟩ := h
    refine ⟨_, (pss_one (ps_ret (pe_and (pe_cb (jc_isi (K := K)) (T.free 70) (pa_cons (pv 0) (pa_cons (pe_gty (T := "str") (T.free 83)) pa_nil))) (pe_one (pe_cmpR (jo_in (K := K)) (pv 0) (pv 1) (by with_unfolding_all rfl)))))), ?_⟩
    obtain ⟨z, a, zs, rfl, rfl, ha, h⟩ := h
    walk_at "go"
    refine rd_in (.inr ha) rfl ?_ h
    simp [flatV]
  exact ⟨_, T.glo 4, F.2, F.1⟩
def sp_is_time : Sp := sp1 fun value H Q => ∃ i, value = .int i ∧ Q (.bl (decide (1 ≤ i) && decide (i ≤ 1000000000))) H
theorem sc_is_time : FnScope n_is_time p_is_time d_is_time.scope := ⟨rfl, rfl, rfl, by decide +kernel, rfl, by decide +kernel, by decide +kernel⟩
theorem ok_is_time (T : Tx K mg) : GF P w K mg base "is_time" 3 sp_is_time := by
  have F := mkR (P := P) (w := w) (base := base) T 5 (d := d_is_time) rfl rfl sc_is_time (fun _ _ _ _ _ _ us hl => match us, hl with | [_], _ => rfl) len1 (k := 2) (sp := sp_is_time) fun cdv A outer s H vs Q E hr h => by
    obtain ⟨value, rfl, h⟩ := h
    refine ⟨_, (pss_one (ps_ret (pe_gf (ok_is_between (K := K) T) hr (pa_cons (pv 0) (pa_cons pe_int (pa_cons (pe_gint (T.int 84)) pa_nil)))))), ?_⟩
    obtain ⟨i, rfl, h⟩ := h
    walk_at "go"
    exact h
  exact ⟨_, T.glo 5, F.2, F.1⟩
theorem c_is_time {H : Hp} {Q : VK} {E : XK} {i : Int} (q : Q (.bl (decide (1 ≤ i) && decide (i ≤ 1000000000))) H) : sp_is_time [.int i] H Q E := ⟨_, rfl, i, rfl, q⟩
local macro_rules | `(tactic| walk_at "call") => `(tactic| ((with_reducible apply c_is_time)))
def sp_is_deed : Sp := sp1 fun value H Q => ∃ a d, value = .ref a ∧ H a = some (.tup (dv d)) ∧ d.ok ∧ ∀ H', Same H H' → Q (.bl true) H'
theorem sc_is_deed : FnScope n_is_deed p_is_deed d_is_deed.scope := ⟨rfl, rfl, rfl, by decide +kernel, rfl, by decide +kernel, by decide +kernel⟩
theorem ok_is_deed (T : Tx K mg) : GF P w K mg base "is_deed" 4 sp_is_deed := by
  have F := mkR (P := P) (w := w) (base := base) T 6 (d := d_is_deed) rfl rfl sc_is_deed (fun _ _ _ _ _ _ us hl => match us, hl with | [_], _ => rfl) len1 (k := 3) (sp := sp_is_deed) fun cdv A outer s H vs Q E hr h => by
    obtain ⟨value, rfl, h⟩ := h
    refine ⟨_, (pss_cons (ps_if (PW.pt (pw_or (pt_not (pt_val (pe_cb (jc_isi (K := K)) (T.free 70) (pa_cons (pv 0) (pa_cons (pe_gty (T := "tuple") (T.free 78)) pa_nil))))) (pw_or (pt_cmpR (jo_eqD (K := K) hr.units) (pv 0) (pe_tup pa_nil) (nomark _)) (pw_or1 (pt_not (pt_val (pe_cb (jc_isi (K := K)) (T.free 70) (pa_cons (pe_ix (jx_tup (K := K)) (pv 0) pe_int (fun _ _ => rfl)) (pa_cons (pe_gty (T := "str") (T.free 83)) pa_nil))))))))) (pss_one (ps_ret pe_bl)) pss_nil)
      (pss_cons (ps_if (pt_cmpR (jo_in (K := K)) (pe_ix (jx_tup (K := K)) (pv 0) pe_int (fun _ _ => rfl)) (pe_gref (T.glo 94)) (by with_unfolding_all rfl)) (pss_one (ps_ret (pe_cmpR op_eq (pe_cb (jc_ln (K := K)) (T.free 69) (pa_cons (pv 0) pa_nil)) pe_int (nomark _)))) pss_nil)
      (pss_one (ps_ret (pe_and (pe_cmpR (jo_in (K := K)) (pe_ix (jx_tup (K := K)) (pv 0) pe_int (fun _ _ => rfl)) (pe_tup (pa_cons pe_str (pa_cons pe_str pa_nil))) (by with_unfolding_all rfl)) (pe_and (pe_cmpR op_eq (pe_cb (jc_ln (K := K)) (T.free 69) (pa_cons (pv 0) pa_nil)) pe_int (nomark _)) (pe_one (pe_gf (ok_is_time (K := K) T) hr (pa_cons (pe_ix (jx_tup (K := K)) (pv 0) pe_int (fun _ _ => rfl)) pa_nil))))))))), ?_⟩
    obtain ⟨a, d, rfl, ha, hd, h⟩ := h
    walk_at "go"
    intro p H1 n1 S1 h1
    refine rd_eqT (S1 _ _ ha) h1 (dv_pl d) rfl ?_
    walk_at "go"
    refine iteDF (fun z => by cases d <;> cases z) ?_
    walk_at "go"
    have hp : SqT K H1 (He.ga K "PLAIN") [.str "make", .str "read", .str "write", .str "rename", .str "touch"] := T.tup 95 H1
    cases d with
    | unpack b =>
      walk_at "go"
      intro p2 H2 n2 S2 h2
      walk_at "go"
      rw [decide_eq_true hd.1, decide_eq_true hd.2]
      exact h _ (S1.trans S2)
    | setback b =>
      walk_at "go"
      intro p2 H2 n2 S2 h2
      walk_at "go"
      rw [decide_eq_true hd.1, decide_eq_true hd.2]
      exact h _ (S1.trans S2)
    | _ =>
      walk_at "go"
      exact h _ S1
  exact ⟨_, T.glo 6, F.2, F.1⟩
theorem c_is_deed {H : Hp} {Q : VK} {E : XK} {a : Addr} {d : Deed} (ha : H a = some (.tup (dv d))) (hd : d.ok) (q : ∀ H', Same H H' → Q (.bl true) H') : sp_is_deed [.ref a] H Q E := ⟨_, rfl, a, d, rfl, ha, hd, q⟩
local macro_rules | `(tactic| walk_at "call") => `(tactic| ((with_reducible apply c_is_deed); (· walk_at "hp"); (· assumption)))
def sp_makes : Sp := sp1 fun value H Q => ∃ a d, value = .ref a ∧ H a = some (.tup (dv d)) ∧ d.ok ∧ ∀ H', Same H H' → Q (.bl d.makes) H'
theorem sc_makes : FnScope n_makes p_makes d_makes.scope := ⟨rfl, rfl, rfl, by decide +kernel, rfl, by decide +kernel, by decide +kernel⟩
theorem ok_makes (T : Tx K mg) : GF P w K mg base "makes" 5 sp_makes := by
  have F := mkR (P := P) (w := w) (base := base) T 7 (d := d_makes) rfl rfl sc_makes (fun _ _ _ _ _ _ us hl => match us, hl with | [_], _ => rfl) len1 (k := 4) (sp := sp_makes) fun cdv A outer s H vs Q E hr h => by
    obtain ⟨value, rfl, h⟩ := h
    refine ⟨_, (pss_one (ps_ret (pe_and (pe_gf (ok_is_deed (K := K) T) hr (pa_cons (pv 0) pa_nil)) (pe_one (pe_cmpR (jo_in (K := K)) (pe_ix (jx_tup (K := K)) (pv 0) pe_int (fun _ _ => rfl)) (pe_tup (pa_cons pe_str (pa_cons pe_str pa_nil))) (by with_unfolding_all rfl)))))), ?_⟩
    obtain ⟨a, d, rfl, ha, hd, h⟩ := h
    have e0 := at0 d
    walk_at "go"
    intro H1 S1
    walk_at "go"
    intro p2 H2 n2 S2 h2
    walk_at "go"
    rw [dz_makes]
    exact h _ (S1.trans S2)
  exact ⟨_, T.glo 7, F.2, F.1⟩
theorem c_makes {H : Hp} {Q : VK} {E : XK} {a : Addr} {d : Deed} (ha : H a = some (.tup (dv d))) (hd : d.ok) (q : ∀ H', Same H H' → Q (.bl d.makes) H') : sp_makes [.ref a] H Q E := ⟨_, rfl, a, d, rfl, ha, hd, q⟩
local macro_rules | `(tactic| walk_at "call") => `(tactic| ((with_reducible apply c_makes); (· walk_at "hp"); (· assumption)))
def sp_all_looks : Sp := sp0 fun H Q => ∀ p ws H', Same H H' → H' p = some (.lst ws) → Tups H' ws looksV → Q (.ref p) H'
theorem sc_all_looks : FnScope n_all_looks p_all_looks d_all_looks.scope := ⟨rfl, rfl, rfl, by decide +kernel, rfl, by decide +kernel, by decide +kernel⟩
theorem ok_all_looks (T : Tx K mg) : GF P w K mg base "all_looks" 1 sp_all_looks := by
  have F := mkR (P := P) (w := w) (base := base) T 9 (d := d_all_looks) rfl rfl sc_all_looks (fun _ _ _ _ _ _ us hl => match us, hl with | [], _ => rfl) len0 (k := 0) (sp := sp_all_looks) fun cdv A outer s H vs Q E hr h => by
    obtain ⟨rfl, h⟩ := h
    refine ⟨_, (pss_cons (ps_set (i := 0) sc_all_looks.nd rfl (Or.inl rfl) (pe_lst (pa_cons (pe_tup pa_nil) pa_nil)))
      (pss_cons (ps_for PassesOwn.never rfl (ji_tup (K := K) (pe_gref (T.glo 92))) (pg_name (i := 1) sc_all_looks.nd rfl (Or.inr rfl)) (pss_one (ps_set (i := 0) sc_all_looks.nd rfl (Or.inl rfl) (pe_op op_cat (pv 0) (pe_lc (own := [("looks", 2)]) (g := gName 2) (tt := tYes) rfl sc_all_looks.nd (ji_list (K := K) (pv 0)) (blkOk_by (own := [("looks", 2)]) (N := n_all_looks) (sc := d_all_looks.scope) (by decide +kernel)) (fun _ _ _ _ _ => pg_name (i := 2) sc_all_looks.nd rfl (Or.inl rfl)) (fun _ _ _ _ _ => pts_nil) (fun _ _ _ _ _ => (pe_tup (ja_star (K := K) (pv 2) (pa_cons (pv 1) pa_nil)))))))))
      (pss_one (ps_ret (pe_slice (js_list (K := K)) (pv 0) (po_some pe_int) po_none))))), ?_⟩
    walk_at "go"
    intro p H1 n1 S1 h1
    walk_at "go"
    intro f H2 n2 S2 h2
    walk_at "go"
    refine fo_tup (xs := marksV) (fun i σ H3 => ∃ f vs x y, σ = [some (.ref f), x, y] ∧ Same H H3 ∧ H3 f = some (.lst vs) ∧ Tups H3 vs (subsV i)) (T.tup 93 H2) ⟨f, _, _, _, rfl, S1.trans S2, h2, .cons (S2 _ _ h1) .nil⟩ (fun i σ H3 _ _ => T.tup 93 H3) (fun i x σ H3 hi hP => ?_) (fun σ H3 hP => ?_)
    · obtain ⟨f, vs, x1, y1, rfl, S3, h3, t3⟩ := hP
      walk_at "go"
      have hi3 : i < 3 := (List.getElem?_eq_some_iff.mp hi).1
      have hl : vs.length ≤ 60000 := by
        rw [t3.len]
        rcases i with _ | _ | _ | i <;> first | decide | omega
      have hz : ∀ ys ∈ subsV i, ys.length ≤ 3 := by
        rcases i with _ | _ | _ | i <;> first | decide +kernel | omega
      refine ⟨_, rfl, ⟨_, sql h3⟩, lc_tups (fun j => (subsV i).getD j [] ++ [x]) (sql h3) hl (fun j y hj H4 N S4 hN => ?_) (fun D ys H4 n4 S4 h4 t4 => ?_)⟩
      · obtain ⟨b, ys, rfl, e1, e2⟩ := t3.at_ hj
        walk_at "go"
        have e3 : (subsV i).getD j [] = ys := by
          rw [List.getD_eq_getElem?_getD, e1]
          rfl
        refine rd_kTup ?_ (fun c H5 n5 S5 h5 => hN c H5 S5 ?_)
        · rw [List.length_append]
          have := hz ys (List.mem_of_getElem? e1)
          simp only [List.length_cons, List.length_nil]
          omega
        · rw [e3]
          exact h5
      · rw [t3.len, range_mapD (subsV i) (fun ys => ys ++ [x])] at t4
        refine rd_cat (S4 _ _ h3) h4 ?_ (fun l H5 n5 S5 h5 => ?_)
        · rw [t4.len, List.length_map, t3.len]
          rcases i with _ | _ | _ | i <;> first | decide | omega
        walk_at "go"
        refine ⟨l, _, _, _, rfl, S3.trans (S4.trans S5), h5, ?_⟩
        rw [subsV_succ hi]
        exact (t3.same (S4.trans S5)).app (t4.same S5)
    · obtain ⟨f, vs, x1, y1, rfl, S3, h3, t3⟩ := hP
      walk_at "go"
      refine rd_slL (sql h3) (fun q H4 n4 S4 h4 => ?_)
      rw [cut1] at h4
      exact h q _ H4 (S3.trans S4) h4 (t3.drop1.same S4)
  exact ⟨_, T.glo 9, F.2, F.1⟩
def sp_is_looks : Sp := sp1 fun value H Q => ∃ a l, value = .ref a ∧ H a = some (.tup (lv l)) ∧ l ∈ looksAll ∧ ∀ H', Same H H' → Q (.bl true) H'
theorem sc_is_looks : FnScope n_is_looks p_is_looks d_is_looks.scope := ⟨rfl, rfl, rfl, by decide +kernel, rfl, by decide +kernel, by decide +kernel⟩
theorem ok_is_looks (T : Tx K mg) : GF P w K mg base "is_looks" 2 sp_is_looks := by
  have F := mkR (P := P) (w := w) (base := base) T 8 (d := d_is_looks) rfl rfl sc_is_looks (fun _ _ _ _ _ _ us hl => match us, hl with | [_], _ => rfl) len1 (k := 1) (sp := sp_is_looks) fun cdv A outer s H vs Q E hr h => by
    obtain ⟨value, rfl, h⟩ := h
    refine ⟨_, (pss_cons (ps_if (PW.pt (pw_or (pt_not (pt_val (pe_cb (jc_isi (K := K)) (T.free 70) (pa_cons (pv 0) (pa_cons (pe_gty (T := "tuple") (T.free 78)) pa_nil))))) (pw_or1 (pt_cmpR (jo_eqD (K := K) hr.units) (pv 0) (pe_tup pa_nil) (nomark _))))) (pss_one (ps_ret pe_bl)) pss_nil)
      (pss_one (ps_ret (pe_cmpR (jo_inD (K := K) (hu65 hr)) (pv 0) (pe_gf0 (ok_all_looks (K := K) T) hr) (by with_unfolding_all rfl))))), ?_⟩
    obtain ⟨a, l, rfl, ha, hl, h⟩ := h
    walk_at "go"
    intro p1 H1 n1 S1 h1
    refine rd_eqT (S1 _ _ ha) h1 (lv_pl l) rfl ?_
    walk_at "go"
    refine iteDF (fun z => ?_) ?_
    · simp only [looksAll, List.mem_cons, List.not_mem_nil, or_false] at hl
      rcases hl with rfl | rfl | rfl | rfl | rfl | rfl | rfl <;> cases z
    walk_at "go"
    intro p2 ws H2 S2 h2 t2
    refine rd_inT (S2 _ _ (S1 _ _ ha)) h2 t2 (lv_pl l) (fun ys hy => ?_) ?_
    · rw [looksV_eq] at hy
      obtain ⟨m, _, rfl⟩ := List.mem_map.mp hy
      exact lv_pl m
    rw [decide_eq_true (show lv l ∈ looksV by rw [looksV_eq]; exact List.mem_map_of_mem hl)]
    exact h _ (S1.trans S2)
  exact ⟨_, T.glo 8, F.2, F.1⟩
def sp_backs : Sp := sp1 fun value H Q => ∃ a d, value = .ref a ∧ H a = some (.tup (dv d)) ∧ d.ok ∧ ∀ p H', H p = none → Same H H' → H' p = some (.dK (bk d.backs)) → Q (.ref p) H'
theorem sc_backs : FnScope n_backs p_backs d_backs.scope := ⟨rfl, rfl, rfl, by decide +kernel, rfl, by decide +kernel, by decide +kernel⟩
theorem ok_backs (T : Tx K mg) : GF P w K mg base "backs" 5 sp_backs := by
  have F := mkR (P := P) (w := w) (base := base) T 10 (d := d_backs) rfl rfl sc_backs (fun _ _ _ _ _ _ us hl => match us, hl with | [_], _ => rfl) len1 (k := 4) (sp := sp_backs) fun cdv A outer s H vs Q E hr h => by
    obtain ⟨deed, rfl, h⟩ := h
    refine ⟨_, (pss_cons (ps_if (pt_not (pt_val (pe_gf (ok_is_deed (K := K) T) hr (pa_cons (pv 0) pa_nil)))) (pss_one ps_never) pss_nil)
      (pss_cons (ps_set (i := 1) sc_backs.nd rfl (Or.inl rfl) (pe_ix (jx_tup (K := K)) (pv 0) pe_int (fun _ _ => rfl)))
      (pss_cons (ps_if (pt_cmpR (jo_in (K := K)) (pv 1) (pe_tup (pa_cons pe_str (pa_cons pe_str pa_nil))) (by with_unfolding_all rfl)) (pss_one (ps_ret (pe_disp (pps_cons pe_str pe_int (pps_cons pe_str pe_int (pps_cons pe_str pe_int pps_nil))) (by rfl) (by rfl) (fun z => by cases z) (by decide)))) pss_nil)
      (pss_cons (ps_if (pt_cmpR op_eq (pv 1) pe_str (nomark _)) (pss_one (ps_ret (pe_disp (pps_cons pe_str pe_int (pps_cons pe_str (pe_ix (jx_tup (K := K)) (pv 0) pe_int (fun _ _ => rfl)) (pps_cons pe_str pe_int pps_nil))) (by rfl) (by rfl) (fun z => by cases z) (by decide)))) pss_nil)
      (pss_cons (ps_if (pt_cmpR op_eq (pv 1) pe_str (nomark _)) (pss_one (ps_ret (pe_disp (pps_cons pe_str (pe_ix (jx_tup (K := K)) (pv 0) pe_int (fun _ _ => rfl)) (pps_cons pe_str (pe_ix (jx_tup (K := K)) (pv 0) pe_int (fun _ _ => rfl)) (pps_cons pe_str pe_int pps_nil))) (by rfl) (by rfl) (fun z => by cases z) (by decide)))) pss_nil)
      (pss_cons (ps_if (pt_cmpR op_eq (pv 1) pe_str (nomark _)) (pss_one (ps_ret (pe_disp (pps_cons pe_str pe_int (pps_cons pe_str pe_int pps_nil)) (by rfl) (by rfl) (fun z => by cases z) (by decide)))) pss_nil)
      (pss_one (ps_ret (pe_ifExp (pt_cmpR op_eq (pv 1) pe_str (nomark _)) (pe_disp (pps_cons pe_str pe_int pps_nil) (by rfl) (by rfl) (fun z => by cases z) (by decide)) pe_dnewK))))))))), ?_⟩
    obtain ⟨a, d, rfl, ha, hd, h⟩ := h
    have e0 := at0 d
    walk_at "go"
    intro H1 S1
    walk_at "go"
    intro p2 H2 n2 S2 h2
    cases d with
    | read =>
      simp only [dz]
      walk_at "go"
      intro p3 H3 n3 S3 h3
      exact h _ _ ((S1.trans S2).free n3) ((S1.trans S2).trans S3) h3
    | _ =>
      simp only [dz]
      walk_at "go"
      intro p3 H3 n3 S3 h3
      walk_at "go"
      intro H4 X4 h4
      exact h _ _ ((S1.trans S2).free n3) (Ex.same ((S1.trans S2).free n3) ((S1.trans S2).trans S3) X4) h4
  exact ⟨_, T.glo 10, F.2, F.1⟩
theorem c_backs {H : Hp} {Q : VK} {E : XK} {a : Addr} {d : Deed} (ha : H a = some (.tup (dv d))) (hd : d.ok) (q : ∀ p H', H p = none → Same H H' → H' p = some (.dK (bk d.backs)) → Q (.ref p) H') : sp_backs [.ref a] H Q E := ⟨_, rfl, a, d, rfl, ha, hd, q⟩
local macro_rules | `(tactic| walk_at "call") => `(tactic| ((with_reducible apply c_backs); (· walk_at "hp"); (· assumption)))
def sp_seconds_of : Sp := sp1 fun value H Q => ∃ i, value = .int i ∧ (-1000000000000000000000000000000 ≤ i ∧ i ≤ 1000000000000000000000000000000) ∧ Q (.int i) H
theorem sc_seconds_of : FnScope n_seconds_of p_seconds_of d_seconds_of.scope := ⟨rfl, rfl, rfl, by decide +kernel, rfl, by decide +kernel, by decide +kernel⟩
theorem ok_seconds_of (T : Tx K mg) : GF P w K mg base "seconds_of" 3 sp_seconds_of := by
  have F := mkR (P := P) (w := w) (base := base) T 11 (d := d_seconds_of) rfl rfl sc_seconds_of (fun _ _ _ _ _ _ us hl => match us, hl with | [_], _ => rfl) len1 (k := 2) (sp := sp_seconds_of) fun cdv A outer s H vs Q E hr h => by
    obtain ⟨value, rfl, h⟩ := h
    refine ⟨_, (pss_cons (ps_if (pt_val (pe_cb (jc_isi (K := K)) (T.free 70) (pa_cons (pv 0) (pa_cons (pe_gref (T.glo 68)) pa_nil)))) (pss_one ps_never) pss_nil)
      (pss_one (ps_ret (pe_ifExp (pt_val (pe_gf (ok_is_between (K := K) T) hr (pa_cons (pv 0) (pa_cons (pe_un un_neg (pe_gint (T.int 85))) (pa_cons (pe_gint (T.int 85)) pa_nil))))) (pv 0) pe_non)))), ?_⟩
    obtain ⟨i, rfl, ⟨h1, h2⟩, h⟩ := h
    have kM : PySem.W.kitOne K (.type "int") (.ref (He.ga K "Moment")) = some false := T.kit 170
    walk_at "go"
    refine iteBT (by rw [decide_eq_true h1, decide_eq_true h2]; rfl) ?_
    walk_at "go"
    exact h
  exact ⟨_, T.glo 11, F.2, F.1⟩
theorem c_seconds_of {H : Hp} {Q : VK} {E : XK} {i : Int} (hi : -1000000000000000000000000000000 ≤ i ∧ i ≤ 1000000000000000000000000000000) (q : Q (.int i) H) : sp_seconds_of [.int i] H Q E := ⟨_, rfl, i, rfl, hi, q⟩
local macro_rules | `(tactic| walk_at "call") => `(tactic| ((with_reducible apply c_seconds_of); (· assumption)))
def sp_Rule_init (K : PySem.W.Frag) : Sp := sp3 fun self word after H Q => ∃ a dx, self = .ref a ∧ H a = some (.ins (He.ga K "Rule") dx []) ∧ ∀ H', Ex a H H' → H' a = some (.ins (He.ga K "Rule") dx [("own_word", word), ("own_after", after)]) → Q .non H'
theorem sc_Rule_init : FnScope n_Rule_init p_Rule_init d_Rule_init.scope := ⟨rfl, rfl, rfl, by decide +kernel, rfl, by decide +kernel, by decide +kernel⟩
theorem ok_Rule_init (T : Tx K mg) : GC P w K mg base "Rule" (He.ga K "Rule") 1 (sp_Rule_init K) := by
  have F := mkR (P := P) (w := w) (base := base) T 12 (d := d_Rule_init) rfl rfl sc_Rule_init (fun _ _ _ _ _ _ us hl => match us, hl with | [_, _, _], _ => rfl) len3 (k := 0) (sp := (sp_Rule_init K)) fun cdv A outer s H vs Q E hr h => by
    obtain ⟨self, word, after, rfl, h⟩ := h
    refine ⟨_, (pss_cons (ps_f (pv 0) (pv 1) (T.cls 100) (T.noat 103))
      (pss_one (ps_f (pv 0) (pv 2) (T.cls 100) (T.noat 104)))), ?_⟩
    obtain ⟨a, dx, rfl, ha, h⟩ := h
    walk_at "go"
    intro H1 X1 h1
    walk_at "go"
    intro H2 X2 h2
    walk_at "go"
    exact h _ (X1.trans X2) h2
  exact ⟨_, T.glo 62, T.mkr 101, F.1⟩
def sp_Rule_always (K : PySem.W.Frag) : Sp := sp0 fun H Q => ∀ p dx H', H p = none → Same H H' → H' p = some (.ins (He.ga K "Rule") dx (rfs .always)) → Q (.ref p) H'
theorem sc_Rule_always : FnScope n_Rule_always p_Rule_always d_Rule_always.scope := ⟨rfl, rfl, rfl, by decide +kernel, rfl, by decide +kernel, by decide +kernel⟩
theorem ok_Rule_always (T : Tx K mg) : GS P w K mg base (He.ga K "Rule") "always" 3 (sp_Rule_always K) := by
  have F := mkR (P := P) (w := w) (base := base) T 13 (d := d_Rule_always) rfl rfl sc_Rule_always (fun _ _ _ _ _ _ us hl => match us, hl with | [], _ => rfl) len0 (k := 2) (sp := (sp_Rule_always K)) fun cdv A outer s H vs Q E hr h => by
    obtain ⟨rfl, h⟩ := h
    refine ⟨_, (pss_one (ps_ret (pe_gc (ok_Rule_init (K := K) T) hr (pa_cons pe_str (pa_cons pe_non pa_nil))))), ?_⟩
    walk_at "go"
    intro x dx H1 n1 S1 h1
    refine ⟨_, _, _, rfl, x, dx, rfl, h1, fun H2 X2 h2 => ⟨rfl, h x dx H2 n1 (Ex.same n1 S1 X2) h2⟩⟩
  exact ⟨_, _, T.stm 105, F.1⟩
def sp_Rule_never (K : PySem.W.Frag) : Sp := sp0 fun H Q => ∀ p dx H', H p = none → Same H H' → H' p = some (.ins (He.ga K "Rule") dx (rfs .never)) → Q (.ref p) H'
theorem sc_Rule_never : FnScope n_Rule_never p_Rule_never d_Rule_never.scope := ⟨rfl, rfl, rfl, by decide +kernel, rfl, by decide +kernel, by decide +kernel⟩
theorem ok_Rule_never (T : Tx K mg) : GS P w K mg base (He.ga K "Rule") "never" 3 (sp_Rule_never K) := by
  have F := mkR (P := P) (w := w) (base := base) T 14 (d := d_Rule_never) rfl rfl sc_Rule_never (fun _ _ _ _ _ _ us hl => match us, hl with | [], _ => rfl) len0 (k := 2) (sp := (sp_Rule_never K)) fun cdv A outer s H vs Q E hr h => by
    obtain ⟨rfl, h⟩ := h
    refine ⟨_, (pss_one (ps_ret (pe_gc (ok_Rule_init (K := K) T) hr (pa_cons pe_str (pa_cons pe_non pa_nil))))), ?_⟩
    walk_at "go"
    intro x dx H1 n1 S1 h1
    refine ⟨_, _, _, rfl, x, dx, rfl, h1, fun H2 X2 h2 => ⟨rfl, h x dx H2 n1 (Ex.same n1 S1 X2) h2⟩⟩
  exact ⟨_, _, T.stm 106, F.1⟩
def sp_Rule_seldom (K : PySem.W.Frag) : Sp := sp1 fun after H Q => ∃ n : Nat, after = .int n ∧ 1 ≤ n ∧ n ≤ 2000 ∧ ∀ p dx H', H p = none → Same H H' → H' p = some (.ins (He.ga K "Rule") dx (rfs (.seldom n))) → Q (.ref p) H'
theorem sc_Rule_seldom : FnScope n_Rule_seldom p_Rule_seldom d_Rule_seldom.scope := ⟨rfl, rfl, rfl, by decide +kernel, rfl, by decide +kernel, by decide +kernel⟩
theorem ok_Rule_seldom (T : Tx K mg) : GS P w K mg base (He.ga K "Rule") "seldom" 3 (sp_Rule_seldom K) := by
  have F := mkR (P := P) (w := w) (base := base) T 15 (d := d_Rule_seldom) rfl rfl sc_Rule_seldom (fun _ _ _ _ _ _ us hl => match us, hl with | [_], _ => rfl) len1 (k := 2) (sp := (sp_Rule_seldom K)) fun cdv A outer s H vs Q E hr h => by
    obtain ⟨after, rfl, h⟩ := h
    refine ⟨_, (pss_cons (ps_if (pt_not (pt_val (pe_gf (ok_is_between (K := K) T) hr (pa_cons (pv 0) (pa_cons pe_int (pa_cons (pe_gint (T.int 87)) pa_nil)))))) (pss_one ps_never) pss_nil)
      (pss_one (ps_ret (pe_gc (ok_Rule_init (K := K) T) hr (pa_cons pe_str (pa_cons (pv 0) pa_nil)))))), ?_⟩
    obtain ⟨n, rfl, h1, h2, h⟩ := h
    walk_at "go"
    refine iteBF (by rw [decide_eq_true (show (1 : Int) ≤ n by omega), decide_eq_true (show (n : Int) ≤ 2000 by omega)]; rfl) ?_
    walk_at "go"
    intro x dx H1 n1 S1 h1
    refine ⟨_, _, _, rfl, x, dx, rfl, h1, fun H2 X2 h2 => ⟨rfl, h x dx H2 n1 (Ex.same n1 S1 X2) h2⟩⟩
  exact ⟨_, _, T.stm 107, F.1⟩
def sp_Rule_word_g (K : PySem.W.Frag) : Sp := sp1 fun self H Q => ∃ a dx r, self = .ref a ∧ H a = some (.ins (He.ga K "Rule") dx (rfs r)) ∧ Q (.str (rz r)) H
theorem sc_Rule_word_g : FnScope n_Rule_word_g p_Rule_word_g d_Rule_word_g.scope := ⟨rfl, rfl, rfl, by decide +kernel, rfl, by decide +kernel, by decide +kernel⟩
theorem ok_Rule_word_g (T : Tx K mg) : GP P w K mg base (He.ga K "Rule") "word" 1 (sp_Rule_word_g K) := by
  have F := mkR (P := P) (w := w) (base := base) T 16 (d := d_Rule_word_g) rfl rfl sc_Rule_word_g (fun _ _ _ _ _ _ us hl => match us, hl with | [_], _ => rfl) len1 (k := 0) (sp := (sp_Rule_word_g K)) fun cdv A outer s H vs Q E hr h => by
    obtain ⟨self, rfl, h⟩ := h
    refine ⟨_, (pss_one (ps_ret (pe_f (pv 0) (T.cls 100) (T.noat 103)))), ?_⟩
    obtain ⟨a, dx, r, rfl, ha, h⟩ := h
    walk_at "go"
    exact h
  exact ⟨_, _, T.prop 108, F.1⟩
theorem c_word {K : PySem.W.Frag} {H : Hp} {Q : VK} {E : XK} {a dx : Addr} {r : Rl} (ha : H a = some (.ins (He.ga K "Rule") dx (rfs r))) (q : Q (.str (rz r)) H) : sp_Rule_word_g K [.ref a] H Q E := ⟨_, rfl, a, dx, r, rfl, ha, q⟩
local macro_rules | `(tactic| walk_at "call") => `(tactic| ((with_reducible apply c_word); (· walk_at "hp")))
def sp_Rule_after_g (K : PySem.W.Frag) : Sp := sp1 fun self H Q => ∃ a dx r, self = .ref a ∧ H a = some (.ins (He.ga K "Rule") dx (rfs r)) ∧ Q (rn r) H
theorem sc_Rule_after_g : FnScope n_Rule_after_g p_Rule_after_g d_Rule_after_g.scope := ⟨rfl, rfl, rfl, by decide +kernel, rfl, by decide +kernel, by decide +kernel⟩
theorem ok_Rule_after_g (T : Tx K mg) : GP P w K mg base (He.ga K "Rule") "after" 1 (sp_Rule_after_g K) := by
  have F := mkR (P := P) (w := w) (base := base) T 17 (d := d_Rule_after_g) rfl rfl sc_Rule_after_g (fun _ _ _ _ _ _ us hl => match us, hl with | [_], _ => rfl) len1 (k := 0) (sp := (sp_Rule_after_g K)) fun cdv A outer s H vs Q E hr h => by
    obtain ⟨self, rfl, h⟩ := h
    refine ⟨_, (pss_one (ps_ret (pe_f (pv 0) (T.cls 100) (T.noat 104)))), ?_⟩
    obtain ⟨a, dx, r, rfl, ha, h⟩ := h
    walk_at "go"
    exact h
  exact ⟨_, _, T.prop 109, F.1⟩
theorem c_after {K : PySem.W.Frag} {H : Hp} {Q : VK} {E : XK} {a dx : Addr} {r : Rl} (ha : H a = some (.ins (He.ga K "Rule") dx (rfs r))) (q : Q (rn r) H) : sp_Rule_after_g K [.ref a] H Q E := ⟨_, rfl, a, dx, r, rfl, ha, q⟩
local macro_rules | `(tactic| walk_at "call") => `(tactic| ((with_reducible apply c_after); (· walk_at "hp")))
def sp_Rule_sets (K : PySem.W.Frag) : Sp := sp3 fun self marks at_ H Q => ∃ a dx r m t i, self = .ref a ∧ marks = .ref m ∧ at_ = .int i ∧ H a = some (.ins (He.ga K "Rule") dx (rfs r)) ∧ H m = some (.dK (tbk t)) ∧ Q (.bl (AgM.sets r t i)) H
theorem sc_Rule_sets : FnScope n_Rule_sets p_Rule_sets d_Rule_sets.scope := ⟨rfl, rfl, rfl, by decide +kernel, rfl, by decide +kernel, by decide +kernel⟩
theorem ok_Rule_sets (T : Tx K mg) : GM P w K mg base (He.ga K "Rule") "sets" 1 (sp_Rule_sets K) := by
  have F := mkR (P := P) (w := w) (base := base) T 18 (d := d_Rule_sets) rfl rfl sc_Rule_sets (fun _ _ _ _ _ _ us hl => match us, hl with | [_, _, _], _ => rfl) len3 (k := 0) (sp := (sp_Rule_sets K)) fun cdv A outer s H vs Q E hr h => by
    obtain ⟨self, marks, at_, rfl, h⟩ := h
    refine ⟨_, (pss_cons (ps_if (pt_cmpR op_ne (pe_f (pv 0) (T.cls 100) (T.noat 103)) pe_str (nomark _)) (pss_one (ps_ret (pe_cmpR op_eq (pe_f (pv 0) (T.cls 100) (T.noat 103)) pe_str (nomark _)))) pss_nil)
      (pss_cons (ps_set (i := 3) sc_Rule_sets.nd rfl (Or.inl rfl) (pe_dget (hu_of hr) (pv 1) pe_str (fun _ _ => rfl)))
      (pss_cons (ps_if (PW.pt (pw_or (pt_cmpR op_le (pv 3) (pe_dget (hu_of hr) (pv 1) pe_str (fun _ _ => rfl)) (nomark _)) (pw_or1 (pt_cmpR op_le (pv 3) (pe_dget (hu_of hr) (pv 1) pe_str (fun _ _ => rfl)) (nomark _))))) (pss_one (ps_ret pe_bl)) pss_nil)
      (pss_one (ps_ret (pe_cmpR op_ge (pe_op op_sub (pv 2) (pv 3)) (pe_f (pv 0) (T.cls 100) (T.noat 104)) (nomark _))))))), ?_⟩
    obtain ⟨a, dx, r, m, t, i, rfl, rfl, rfl, ha, hm, h⟩ := h
    have g1 : valV (tbk t) (Sum.inr "read") = some (.int t.r) := rfl
    have g2 : valV (tbk t) (Sum.inr "written") = some (.int t.w) := rfl
    have g3 : valV (tbk t) (Sum.inr "changed") = some (.int t.c) := rfl
    cases r with
    | seldom n =>
      walk_at "go"
      simp only [rz]
      walk_at "go"
      refine ited (fun c1 => ?_) (fun c1 => ?_)
      · walk_at "go"
        rw [show AgM.sets (.seldom n) t i = true by simp [AgM.sets, c1]] at h
        exact h
      · walk_at "go"
        refine ited (fun c2 => ?_) (fun c2 => ?_)
        · walk_at "go"
          rw [show AgM.sets (.seldom n) t i = true by simp [AgM.sets, c2]] at h
          exact h
        · walk_at "go"
          simp only [rn]
          walk_at "go"
          rw [show AgM.sets (.seldom n) t i = decide ((n : Int) ≤ i - t.r) by simp [AgM.sets, c1, c2]] at h
          exact h
    | _ =>
      walk_at "go"
      simp only [rz]
      walk_at "go"
      exact h
  exact ⟨_, T.meth 110, F.1⟩
theorem c_sets {K : PySem.W.Frag} {H : Hp} {Q : VK} {E : XK} {a dx m : Addr} {r : Rl} {t : Tb} {i : Int} (ha : H a = some (.ins (He.ga K "Rule") dx (rfs r))) (hm : H m = some (.dK (tbk t))) (q : Q (.bl (AgM.sets r t i)) H) : sp_Rule_sets K [.ref a, .ref m, .int i] H Q E := ⟨_, _, _, rfl, a, dx, r, m, t, i, rfl, rfl, rfl, ha, hm, q⟩
local macro_rules | `(tactic| walk_at "call") => `(tactic| ((with_reducible apply c_sets); (· walk_at "hp"); (· walk_at "hp")))
def sp_check_rule (K : PySem.W.Frag) : Sp := sp1 fun value H Q => ∃ a dx fs, value = .ref a ∧ H a = some (.ins (He.ga K "Rule") dx fs) ∧ Q .non H
theorem sc_check_rule : FnScope n_check_rule p_check_rule d_check_rule.scope := ⟨rfl, rfl, rfl, by decide +kernel, rfl, by decide +kernel, by decide +kernel⟩
theorem ok_check_rule (T : Tx K mg) : GF P w K mg base "check_rule" 1 (sp_check_rule K) := by
  have F := mkR (P := P) (w := w) (base := base) T 19 (d := d_check_rule) rfl rfl sc_check_rule (fun _ _ _ _ _ _ us hl => match us, hl with | [_], _ => rfl) len1 (k := 0) (sp := (sp_check_rule K)) fun cdv A outer s H vs Q E hr h => by
    obtain ⟨value, rfl, h⟩ := h
    refine ⟨_, (pss_one (ps_if (pt_not (pt_val (pe_cb (jc_isi (K := K)) (T.free 70) (pa_cons (pv 0) (pa_cons (pe_gref (T.glo 62)) pa_nil))))) (pss_one ps_never) pss_nil)), ?_⟩
    obtain ⟨a, dx, fs, rfl, ha, h⟩ := h
    have kI : C8.InsC K (He.ga K "Rule") := (T.isi 102 100)
    walk_at "go"
    exact h
  exact ⟨_, T.glo 12, F.2, F.1⟩
theorem c_check_rule {K : PySem.W.Frag} {H : Hp} {Q : VK} {E : XK} {a dx : Addr} {fs : List (Str × V)} (ha : H a = some (.ins (He.ga K "Rule") dx fs)) (q : Q .non H) : sp_check_rule K [.ref a] H Q E := ⟨_, rfl, a, dx, fs, rfl, ha, q⟩
local macro_rules | `(tactic| walk_at "call") => `(tactic| ((with_reducible apply c_check_rule); (· walk_at "hp")))
def sp_is_pair : Sp := sp1 fun value H Q => ∃ a i, value = .ref a ∧ H a = some (.tup [.int i, .int i]) ∧ 0 ≤ i ∧ Q (.bl true) H
theorem sc_is_pair : FnScope n_is_pair p_is_pair d_is_pair.scope := ⟨rfl, rfl, rfl, by decide +kernel, rfl, by decide +kernel, by decide +kernel⟩
theorem ok_is_pair (T : Tx K mg) : GF P w K mg base "is_pair" 3 sp_is_pair := by
  have F := mkR (P := P) (w := w) (base := base) T 20 (d := d_is_pair) rfl rfl sc_is_pair (fun _ _ _ _ _ _ us hl => match us, hl with | [_], _ => rfl) len1 (k := 2) (sp := sp_is_pair) fun cdv A outer s H vs Q E hr h => by
    obtain ⟨value, rfl, h⟩ := h
    refine ⟨_, (pss_cons (ps_if (PW.pt (pw_or (pt_not (pt_val (pe_cb (jc_isi (K := K)) (T.free 70) (pa_cons (pv 0) (pa_cons (pe_gty (T := "tuple") (T.free 78)) pa_nil))))) (pw_or (pt_cmpR op_ne (pe_cb (jc_ln (K := K)) (T.free 69) (pa_cons (pv 0) pa_nil)) pe_int (nomark _)) (pw_or1 (pt_not (pt_val (pe_gf (ok_is_count (K := K) T) hr (pa_cons (pe_ix (jx_tup (K := K)) (pv 0) pe_int (fun _ _ => rfl)) pa_nil)))))))) (pss_one (ps_ret pe_bl)) pss_nil)
      (pss_one (ps_ret (pe_or (pe_cmpR op_isN' (pe_ix (jx_tup (K := K)) (pv 0) pe_int (fun _ _ => rfl)) pe_non (nomark _)) (pe_one (pe_and (pe_gf (ok_is_count (K := K) T) hr (pa_cons (pe_ix (jx_tup (K := K)) (pv 0) pe_int (fun _ _ => rfl)) pa_nil)) (pe_one (pe_cmpR op_ge (pe_ix (jx_tup (K := K)) (pv 0) pe_int (fun _ _ => rfl)) (pe_ix (jx_tup (K := K)) (pv 0) pe_int (fun _ _ => rfl)) (nomark _))))))))), ?_⟩
    obtain ⟨a, i, rfl, ha, h0, h⟩ := h
    walk_at "go"
    refine iteBF (by rw [decide_eq_true h0]; rfl) ?_
    walk_at "go"
    refine iteDT h0 ?_
    walk_at "go"
    rw [decide_eq_true (Int.le_refl i)]
    exact h
  exact ⟨_, T.glo 13, F.2, F.1⟩
theorem c_is_pair {H : Hp} {Q : VK} {E : XK} {a : Addr} {i : Int} (ha : H a = some (.tup [.int i, .int i])) (h0 : 0 ≤ i) (q : Q (.bl true) H) : sp_is_pair [.ref a] H Q E := ⟨_, rfl, a, i, rfl, ha, h0, q⟩
local macro_rules | `(tactic| walk_at "call") => `(tactic| ((with_reducible apply c_is_pair); (· walk_at "hp"); (· assumption)))
def prV (p : Int × Int) : List V := [.int p.1, .int p.2]
def ksV (ks : List Nat) : List (List V) := ks.map fun (k : Nat) => [V.int (k : Int), V.int (k : Int)]
theorem ksV_get {ks : List Nat} {i : Nat} {xs : List V} (h : (ksV ks)[i]? = some xs) : ∃ k, ks[i]? = some k ∧ xs = [.int (k : Int), .int (k : Int)] := by
  unfold ksV at h
  rw [List.getElem?_map] at h
  cases e : ks[i]? with
  | none => rw [e] at h; cases h
  | some k =>
    rw [e] at h
    exact ⟨k, rfl, (Option.some.inj h).symm⟩
theorem below {ks : List Nat} (h : ks.Pairwise (· < ·)) {i k : Nat} (e : ks[i]? = some k) : ∀ x ∈ ks.take i, x < k := fun x hx => by
  obtain ⟨j, hj, ej⟩ := List.getElem_of_mem hx
  obtain ⟨hi, ei⟩ := List.getElem?_eq_some_iff.mp e
  rw [List.length_take] at hj
  have q := List.pairwise_iff_getElem.mp h j i (by omega) hi (by omega)
  rw [List.getElem_take] at ej
  rw [← ej, ← ei]
  exact q
def ends (ks : List Nat) : List (Key × V) := ks.map fun (k : Nat) => (Sum.inl (k : Int), V.int (k : Int))
theorem ends_no {k : Nat} : ∀ {l : List Nat}, k ∉ l → valV (ends l) (Sum.inl (k : Int)) = none
  | [], _ => rfl
  | x :: r, h => by
    have h1 : ¬ ((Sum.inl (x : Int) : Key) = Sum.inl (k : Int)) := fun z => h (by
      have e : (x : Int) = k := Sum.inl.inj z
      have e2 : x = k := by omega
      rw [e2]
      exact List.mem_cons_self)
    rw [show ends (x :: r) = (Sum.inl (x : Int), V.int (x : Int)) :: ends r from rfl, valV_neg h1]
    exact ends_no fun z => h (List.mem_cons_of_mem _ z)
theorem ends_get {k : Nat} : ∀ {l : List Nat}, k ∈ l → valV (ends l) (Sum.inl (k : Int)) = some (.int (k : Int))
  | [], h => by cases h
  | x :: r, h => by
    by_cases e : x = k
    · subst e
      exact valV_pos rfl
    · have h1 : ¬ ((Sum.inl (x : Int) : Key) = Sum.inl (k : Int)) := fun z => e (by
        have e2 : (x : Int) = k := Sum.inl.inj z
        omega)
      rw [show ends (x :: r) = (Sum.inl (x : Int), V.int (x : Int)) :: ends r from rfl, valV_neg h1]
      refine ends_get ?_
      rcases List.mem_cons.mp h with z | z
      · exact absurd z.symm e
      · exact z
theorem ends_put {k : Nat} {l : List Nat} (h : k ∉ l) : putK (ends l) (Sum.inl (k : Int)) (.int (k : Int)) = ends (l ++ [k]) := by
  have e : (ends l).any (fun kv => decide (kv.1 = (Sum.inl (k : Int) : Key))) = false := by
    rw [valV_any, ends_no h]
    rfl
  unfold putK
  rw [e]
  show ends l ++ [(Sum.inl (k : Int), V.int (k : Int))] = ends (l ++ [k])
  unfold ends
  rw [List.map_append]
  rfl
theorem kint_get {ks : List Nat} {i : Nat} {x : V} (h : ((ks.map fun (k : Nat) => (k : Int)).map V.int)[i]? = some x) : ∃ k, ks[i]? = some k ∧ x = .int (k : Int) := by
  rw [List.map_map, List.getElem?_map] at h
  cases e : ks[i]? with
  | none => rw [e] at h; cases h
  | some k =>
    rw [e] at h
    exact ⟨k, rfl, (Option.some.inj h).symm⟩
theorem last_take {ks : List Nat} {i k : Nat} (e : ks[i]? = some k) : (ks.take (i + 1)).getLast?.map (fun (k : Nat) => (k : Int)) = some (k : Int) := by
  rw [List.take_add_one, e]
  simp
theorem Tups.end_ {H : Hp} {x : List V} : ∀ {l : List (List V)} {vs : List V}, Tups H vs (l ++ [x]) → ∃ ws b, vs = ws ++ [.ref b] ∧ Tups H ws l ∧ H b = some (.tup x)
  | [], _, .cons h .nil => ⟨[], _, rfl, .nil, h⟩
  | _ :: _, _, .cons h r => by
    obtain ⟨ws, b, rfl, t, e⟩ := Tups.end_ r
    exact ⟨_ :: ws, b, rfl, .cons h t, e⟩
theorem prV_pl (L : List (Int × Int)) : ∀ xs ∈ L.map prV, xs.all plV = true := fun xs h => by
  obtain ⟨p, _, rfl⟩ := List.mem_map.mp h
  rfl
theorem ixN_last {n : Nat} : ixN (n + 1) (-1) = some n := by
  unfold ixN
  rw [if_neg (by omega), if_pos (by omega)]
  congr 1
  omega
def sp_joined : Sp := sp1 fun pairs H Q => ∃ a ps ks, pairs = .ref a ∧ H a = some (.tup ps) ∧ Tups H ps (ksV ks) ∧ ks.Pairwise (· < ·) ∧ ks.length ≤ 3000 ∧ ∀ p ws (L : List (Int × Int)) H', H p = none → Same H H' → H' p = some (.lst ws) → Tups H' ws (L.map prV) → L.getLast?.map (·.2) = ks.getLast?.map (fun (k : Nat) => (k : Int)) → Q (.ref p) H'
theorem sc_joined : FnScope n_joined p_joined d_joined.scope := ⟨rfl, rfl, rfl, by decide +kernel, rfl, by decide +kernel, by decide +kernel⟩
theorem ok_joined (T : Tx K mg) : GF P w K mg base "joined" 1 sp_joined := by
  have F := mkR (P := P) (w := w) (base := base) T 21 (d := d_joined) rfl rfl sc_joined (fun _ _ _ _ _ _ us hl => match us, hl with | [_], _ => rfl) len1 (k := 0) (sp := sp_joined) fun cdv A outer s H vs Q E hr h => by
    obtain ⟨pairs, rfl, h⟩ := h
    refine ⟨_, (pss_cons (ps_set (i := 1) sc_joined.nd rfl (Or.inl rfl) pe_dnewK)
      (pss_cons (ps_for PassesOwn.never rfl (ji_tup (K := K) (pv 0)) (jg_tup (K := K) (n := 2) rfl (pgs_cons (pg_name (i := 2) sc_joined.nd rfl (Or.inl rfl)) (pgs_cons (pg_name (i := 3) sc_joined.nd rfl (Or.inl rfl)) pgs_nil))) (pss_one (ps_if (PW.pt (pw_or (pt_cmp (pc_dnotin (hu_of hr) (pv 2) (pv 1)) (by with_unfolding_all rfl)) (pw_or1 (PW.pt (pw_and (pt_cmpR op_notN' (pe_dget (hu_of hr) (pv 1) (pv 2) (fun _ _ => rfl)) pe_non (nomark _)) (pw_and1 (PW.pt (pw_or (pt_cmpR op_isN' (pv 3) pe_non (nomark _)) (pw_or1 (pt_cmpR op_gt (pv 3) (pe_dget (hu_of hr) (pv 1) (pv 2) (fun _ _ => rfl)) (nomark _))))))))))) (pss_one (ps_dput (hu_of hr) (pv 1) (pv 2) (pv 3) (by rfl))) pss_nil)))
      (pss_cons (ps_set (i := 4) sc_joined.nd rfl (Or.inl rfl) (pe_lst pa_nil))
      (pss_cons (ps_for PassesOwn.never rfl (ji_list (K := K) (pe_cb (jc_sorted (K := K)) (T.free 80) (pa_cons (pe_lock (pe_lc (own := [("low", 2)]) (g := gName 2) (tt := tYes) rfl sc_joined.nd (pi_keys (pv 1)) (blkOk_by (own := [("low", 2)]) (N := n_joined) (sc := d_joined.scope) (by decide +kernel)) (fun _ _ _ _ _ => pg_name (i := 2) sc_joined.nd rfl (Or.inl rfl)) (fun _ _ _ _ _ => pts_nil) (fun _ _ _ _ _ => (pe_ct jc_int (T.free 73) (pa_cons (pv 2) pa_nil))))) pa_nil))) (pg_name (i := 2) sc_joined.nd rfl (Or.inl rfl)) (pss_cons (ps_set (i := 3) sc_joined.nd rfl (Or.inl rfl) (pe_dget (hu_of hr) (pv 1) (pv 2) (fun _ _ => rfl)))
      (pss_one (ps_if (PW.pt (pw_or (pt_cmpR (jo_eqD (K := K) hr.units) (pv 4) (pe_lst pa_nil) (nomark _)) (pw_or1 (PW.pt (pw_and (pt_cmpR op_notN' (pe_ix (jx_tup (K := K)) (pe_ix (jx_list (K := K)) (pv 4) (pe_un un_neg pe_int) (fun _ _ => rfl)) pe_int (fun _ _ => rfl)) pe_non (nomark _)) (pw_and1 (pt_cmpR op_lt (pe_op op_add (pe_ix (jx_tup (K := K)) (pe_ix (jx_list (K := K)) (pv 4) (pe_un un_neg pe_int) (fun _ _ => rfl)) pe_int (fun _ _ => rfl)) pe_int) (pv 2) (nomark _)))))))) (pss_one (ps_expr (je_app (K := K) (pv 4) (pa_cons (pe_tup (pa_cons (pv 2) (pa_cons (pv 3) pa_nil))) pa_nil)))) (pss_one (ps_if (PW.pt (pw_and (pt_cmpR op_notN' (pe_ix (jx_tup (K := K)) (pe_ix (jx_list (K := K)) (pv 4) (pe_un un_neg pe_int) (fun _ _ => rfl)) pe_int (fun _ _ => rfl)) pe_non (nomark _)) (pw_and1 (PW.pt (pw_or (pt_cmpR op_isN' (pv 3) pe_non (nomark _)) (pw_or1 (pt_cmpR op_gt (pv 3) (pe_ix (jx_tup (K := K)) (pe_ix (jx_list (K := K)) (pv 4) (pe_un un_neg pe_int) (fun _ _ => rfl)) pe_int (fun _ _ => rfl)) (nomark _)))))))) (pss_one (ps_asg (pe_tup (pa_cons (pe_ix (jx_tup (K := K)) (pe_ix (jx_list (K := K)) (pv 4) (pe_un un_neg pe_int) (fun _ _ => rfl)) pe_int (fun _ _ => rfl)) (pa_cons (pv 3) pa_nil))) (pg_sub (pv 4) (pe_un un_neg pe_int) set_list (by intro _; rfl)))) pss_nil))))))
      (pss_one (ps_ret (pv 4))))))), ?_⟩
    obtain ⟨a, ps, ks, rfl, ha, tp, hk, hl, h⟩ := h
    walk_at "go"
    intro e H1 n1 S1 h1
    walk_at "go"
    refine fo_tup (xs := ps) (fun i σ H2 => ∃ x y z, σ = [some (.ref a), some (.ref e), x, y, z] ∧ Same H H2 ∧ H2 e = some (.dK (ends (ks.take i)))) (sqt (S1 _ _ ha)) ⟨_, _, _, rfl, S1, h1⟩ (fun i σ H2 _ hP => ?_) (fun i x σ H2 hi hP => ?_) (fun σ H2 hP => ?_)
    · obtain ⟨_, _, _, _, S2, _⟩ := hP
      exact sqt (S2 _ _ ha)
    · obtain ⟨x1, y1, z1, rfl, S2, h2⟩ := hP
      obtain ⟨b, xs, rfl, e1, e2⟩ := (tp.same S2).at_ hi
      obtain ⟨k, ek, rfl⟩ := ksV_get e1
      have hno : k ∉ ks.take i := fun z => Nat.lt_irrefl _ (below hk ek k z)
      walk_at "go"
      refine iteBT (by rw [ends_no hno]; rfl) ?_
      walk_at "go"
      refine rd_putI h2 ?_ (fun H3 X3 h3 => ⟨_, _, _, rfl, Ex.same n1 S2 X3, ?_⟩)
      · unfold ends
        rw [List.length_map, List.length_take]
        omega
      · rw [ends_put hno] at h3
        rw [List.take_add_one, ek]
        exact h3
    · obtain ⟨x1, y1, z1, rfl, S2, h2⟩ := hP
      have hpl : ps.length = ks.length := by
        rw [tp.len]
        unfold ksV
        rw [List.length_map]
      rw [hpl, List.take_length] at h2
      walk_at "go"
      intro f H3 n3 S3 h3
      walk_at "go"
      have h3e : H3 e = some (.dK (ends ks)) := S3 _ _ h2
      have nef : f ≠ e := ne_of h3 h3e (by intro z; cases z)
      refine rd_lockE h3e (fun od H4 X4 h4 => ?_)
      walk_at "go"
      refine ⟨e, od, rfl, .inl ⟨_, h4, lc_keys (fun p => some p.2) h4 ?_ (fun p hp H5 N S5 hN => ?_) (fun D H5 n5 S5 h5 => ?_)⟩⟩
      · unfold ends
        rw [List.length_map]
        omega
      · obtain ⟨k, hk2, rfl⟩ := List.mem_map.mp hp
        dsimp only [kV]
        walk_at "go"
        exact hN _ (Same.refl _)
      · have e5 : (ends ks).filterMap (fun p => some p.2) = (ks.map fun (k : Nat) => (k : Int)).map V.int := by
          unfold ends
          rw [List.filterMap_map, List.map_map, ← List.filterMap_eq_map]
          rfl
        rw [e5] at h5
        refine rd_kUnl (S5 _ _ h4) (fun H6 X6 h6 => ?_)
        have neD : D ≠ e := ne_of h5 (S5 _ _ h4) (by intro z; cases z)
        walk_at "go"
        refine rd_sorted (sql (X6 _ _ neD h5)) ?_ (fun s7 H7 n7 S7 h7 => ?_)
        · exact List.pairwise_map.mpr (hk.imp fun h => by omega)
        have S07 : Same H H7 := (Ex.same n1 ((S2.trans S3)) (X4.trans ((Ex.of S5).trans X6))).trans S7
        have h7f : H7 f = some (.lst []) := S7 _ _ (X6 _ _ nef (S5 _ _ (X4 _ _ nef h3)))
        have n1f : H f = none := (S2.free n3)
        refine fo_list (fun i σ H8 => ∃ x y ws L, σ = [some (.ref a), some (.ref e), x, y, some (.ref f)] ∧ Same H H8 ∧ H8 e = some (.dK (ends ks)) ∧ H8 s7 = some (.lst ((ks.map fun (k : Nat) => (k : Int)).map V.int)) ∧ H8 f = some (.lst ws) ∧ Tups H8 ws (List.map prV L) ∧ ws.length ≤ i ∧ L.getLast?.map (·.2) = (ks.take i).getLast?.map (fun (k : Nat) => (k : Int)))
          (sql h7) ⟨_, _, [], [], rfl, S07, S7 _ _ h6, h7, h7f, .nil, Nat.zero_le _, rfl⟩ (fun i σ H8 _ hP => ?_) (fun i x σ H8 hi hP => ?_) (fun σ H8 hP => ?_)
        · obtain ⟨_, _, _, _, _, _, _, q, _⟩ := hP
          exact sql q
        · obtain ⟨x2, y2, ws, L, rfl, S8, h8e, h8s, h8f, t8, l8, g8⟩ := hP
          obtain ⟨k, ek, rfl⟩ := kint_get hi
          have hkm : k ∈ ks := List.mem_of_getElem? ek
          have gk := ends_get hkm
          have hi3 : i < ks.length := (List.getElem?_eq_some_iff.mp ek).1
          walk_at "go"
          intro z9 H9 n9 S9 h9
          have h9f := S9 _ _ h8f
          have hsf : s7 ≠ f := fun z => by
            rw [z] at n7
            rw [X6 _ _ nef (S5 _ _ (X4 _ _ nef h3))] at n7
            cases n7
          have fin : ∀ (H10 H11 : Hp) (ws2 : List V) (L2 : List (Int × Int)), Same H9 H10 → Ex f H10 H11 → H11 f = some (.lst ws2) → Tups H11 ws2 (L2.map prV) → ws2.length ≤ i + 1 → L2.getLast?.map (·.2) = some (k : Int) →
              ∃ x y ws L, [some (V.ref a), some (V.ref e), some (V.int k), some (V.int k), some (V.ref f)] = [some (V.ref a), some (V.ref e), x, y, some (V.ref f)] ∧ Same H H11 ∧ H11 e = some (.dK (ends ks)) ∧ H11 s7 = some (.lst ((ks.map fun (k : Nat) => (k : Int)).map V.int)) ∧ H11 f = some (.lst ws) ∧ Tups H11 ws (List.map prV L) ∧ ws.length ≤ i + 1 ∧ L.getLast?.map (·.2) = (ks.take (i + 1)).getLast?.map (fun (k : Nat) => (k : Int)) := fun H10 H11 ws2 L2 S10 X11 h11 t11 l11 g11 =>
            ⟨_, _, ws2, L2, rfl, Ex.same n1f (S8.trans (S9.trans S10)) X11, X11 _ _ (Ne.symm nef) (S10 _ _ (S9 _ _ h8e)), X11 _ _ hsf (S10 _ _ (S9 _ _ h8s)), h11, t11, l11, by rw [last_take ek]; exact g11⟩
          have app : ∀ {H10 H11 : Hp} {c : Addr} {x : List V}, Same H9 H10 → Ex f H10 H11 → H10 c = some (.tup x) → ∀ {l : List (List V)} {vs : List V}, Tups H8 vs l → Tups H11 (vs ++ [.ref c]) (l ++ [x]) := fun {H10 H11 c x} S10 X11 hc {l vs} t => by
            have mo : ∀ b xs, H10 b = some (.tup xs) → H11 b = some (.tup xs) := fun b xs hb => X11 _ _ (ne_of hb (S10 _ _ h9f) (by intro z; cases z)) hb
            exact ((t.same (S9.trans S10)).mono mo).snoc (mo _ _ hc)
          refine rd_eqTL0 h9 h9f (t8.same S9) (prV_pl L) ?_
          walk_at "go"
          rcases List.eq_nil_or_concat L with rfl | ⟨L', pq, eL⟩
          · cases t8
            refine iteDT rfl ?_
            walk_at "go"
            intro c H10 n10 S10 h10
            walk_at "go"
            refine rd_kApp (S10 _ _ h9f) (Nat.zero_le _) (fun H11 X11 h11 => ?_)
            refine fin H10 H11 _ [((k : Int), (k : Int))] S10 X11 h11 (app S10 X11 h10 .nil) ?_ rfl
            show 1 ≤ i + 1
            omega
          · rw [List.concat_eq_append] at eL
            subst eL
            obtain ⟨lo, hi⟩ := pq
            rw [List.map_append] at t8
            obtain ⟨vs, b, rfl, t8b, hb⟩ := Tups.end_ (l := L'.map prV) t8
            rw [List.length_append] at l8
            have l8' : vs.length + 1 ≤ i := l8
            have ei : atI (vs ++ [V.ref b]) (-1) = some (.ref b) := atI_last _ _
            have h9b : H9 b = some (.tup [.int lo, .int hi]) := S9 _ _ hb
            have hlt : hi < (k : Int) := by
              rw [List.getLast?_concat] at g8
              cases eg : (ks.take i).getLast? with
              | none => rw [eg] at g8; cases g8
              | some m =>
                rw [eg] at g8
                have e1 : hi = (m : Int) := Option.some.inj g8
                have := below hk ek m (List.mem_of_getLast? eg)
                omega
            refine iteDF (fun z => by simp at z) ?_
            walk_at "go"
            refine ited (fun c1 => ?_) (fun c1 => ?_)
            · walk_at "go"
              intro c H10 n10 S10 h10
              walk_at "go"
              refine rd_kApp (S10 _ _ h9f) ?_ (fun H11 X11 h11 => ?_)
              · rw [List.length_append]
                simp only [List.length_cons, List.length_nil]
                omega
              refine fin H10 H11 _ ((L' ++ [(lo, hi)]) ++ [((k : Int), (k : Int))]) S10 X11 h11 ?_ ?_ ?_
              · rw [List.map_append, List.map_append]
                exact app S10 X11 h10 t8
              · rw [List.length_append, List.length_append]
                simp only [List.length_cons, List.length_nil]
                omega
              · rw [List.getLast?_concat]
                rfl
            · walk_at "go"
              refine iteDT hlt ?_
              walk_at "go"
              intro c H10 n10 S10 h10
              walk_at "go"
              refine rd_setL (S10 _ _ h9f) (j := vs.length) ?_ (fun H11 X11 h11 => ?_)
              · rw [List.length_append]
                exact ixN_last
              refine fin H10 H11 (vs ++ [.ref c]) (L' ++ [(lo, (k : Int))]) S10 X11 ?_ ?_ ?_ ?_
              · rw [h11]
                simp
              · rw [List.map_append]
                exact app S10 X11 h10 t8b
              · rw [List.length_append]
                simp only [List.length_cons, List.length_nil]
                omega
              · rw [List.getLast?_concat]
                rfl
        · obtain ⟨x2, y2, ws, L, rfl, S8, h8e, h8s, h8f, t8, l8, g8⟩ := hP
          walk_at "go"
          rw [List.length_map, List.length_map, List.take_length] at g8
          exact h f ws L H8 n1f S8 h8f t8 g8
  exact ⟨_, T.glo 14, F.2, F.1⟩
theorem c_joined {H : Hp} {Q : VK} {E : XK} {a : Addr} {ps : List V} {ks : List Nat} (ha : H a = some (.tup ps)) (tp : Tups H ps (ksV ks)) (hk : ks.Pairwise (· < ·)) (hl : ks.length ≤ 3000)
    (q : ∀ p ws (L : List (Int × Int)) H', H p = none → Same H H' → H' p = some (.lst ws) → Tups H' ws (L.map prV) → L.getLast?.map (·.2) = ks.getLast?.map (fun (k : Nat) => (k : Int)) → Q (.ref p) H') : sp_joined [.ref a] H Q E := ⟨_, rfl, a, ps, ks, rfl, ha, tp, hk, hl, q⟩
/-- a Stretches whose last end is that of ks, its own list at p -/
def IsSt (K : PySem.W.Frag) (H : Hp) (v : V) (p : Addr) (top : Age) : Prop := ∃ a dx ws L, v = .ref a ∧ H a = some (.ins (He.ga K "Stretches") dx [("own_pairs", .ref p)]) ∧ H p = some (.lst ws) ∧ Tups H ws (List.map prV L) ∧ L.getLast?.map (·.2) = top
theorem IsSt.same {K : PySem.W.Frag} {H H' : Hp} {v : V} {p : Addr} {top : Age} (S : Same H H') (h : IsSt K H v p top) : IsSt K H' v p top := by
  obtain ⟨a, dx, ws, L, e, h1, h2, h3, h4⟩ := h
  exact ⟨a, dx, ws, L, e, S _ _ h1, S _ _ h2, h3.same S, h4⟩
theorem IsSt.upd {K : PySem.W.Frag} {H : Hp} {v : V} {p D : Addr} {top : Age} {o : HO} (hD : ∃ l, H D = some (.lst l)) (n : p ≠ D) (h : IsSt K H v p top) : IsSt K (upd H D o) v p top := by
  obtain ⟨l, hD⟩ := hD
  obtain ⟨a, dx, ws, L, e, h1, h2, h3, h4⟩ := h
  refine ⟨a, dx, ws, L, e, ?_, ?_, h3.mono fun b xs hb => ?_, h4⟩
  · rw [upd_ne (ne_of h1 hD (by intro z; cases z))]
    exact h1
  · rw [upd_ne n]
    exact h2
  · rw [upd_ne (ne_of hb hD (by intro z; cases z))]
    exact hb
def sp_Stretches_init (K : PySem.W.Frag) : Sp := sp2 fun self pairs H Q => ∃ a dx b ps ks, self = .ref a ∧ pairs = .ref b ∧ H a = some (.ins (He.ga K "Stretches") dx []) ∧ H b = some (.tup ps) ∧ Tups H ps (ksV ks) ∧ ks.Pairwise (· < ·) ∧ ks.length ≤ 3000 ∧ ∀ p H', H p = none → Ex a H H' → IsSt K H' (.ref a) p (ks.getLast?.map (fun (k : Nat) => (k : Int))) → Q .non H'
theorem sc_Stretches_init : FnScope n_Stretches_init p_Stretches_init d_Stretches_init.scope := ⟨rfl, rfl, rfl, by decide +kernel, rfl, by decide +kernel, by decide +kernel⟩
theorem ok_Stretches_init (T : Tx K mg) : GC P w K mg base "Stretches" (He.ga K "Stretches") 4 (spStar 1 (sp_Stretches_init K)) := by
  have F := mkS (P := P) (w := w) (base := base) T 22 (d := d_Stretches_init) (N := n_Stretches_init) (ps := ["self"]) (pv := "pairs") rfl rfl sc_Stretches_init (fun _ _ _ _ _ _ us rest hl => StX.bind_star1 (B := fun us => bindArgs _ ⟨us, []⟩) (fun _ => rfl) (fun _ _ _ => rfl) us rest hl) (k := 3) (sp := (sp_Stretches_init K)) fun cdv A outer s H vs Q E hr h => by
    obtain ⟨self, pairs, rfl, h⟩ := h
    refine ⟨_, (pss_cons (ps_for PassesOwn.never rfl (pi_enT (K := K) (by rfl) (T.free 72) (pa_cons (pv 1) pa_nil)) (jg_tup (K := K) (n := 2) rfl (pgs_cons (pg_name (i := 2) sc_Stretches_init.nd rfl (Or.inl rfl)) (pgs_cons (pg_name (i := 3) sc_Stretches_init.nd rfl (Or.inl rfl)) pgs_nil))) (pss_one (ps_if (pt_not (pt_val (pe_gf (ok_is_pair (K := K) T) hr (pa_cons (pv 3) pa_nil)))) (pss_one ps_never) pss_nil)))
      (pss_one (ps_f (pv 0) (pe_gf (ok_joined (K := K) T) hr (pa_cons (pv 1) pa_nil)) (T.cls 111) (T.noat 114)))), ?_⟩
    obtain ⟨a, dx, b, ps, ks, rfl, rfl, ha, hb, tp, hk, hl, h⟩ := h
    walk_at "go"
    refine fo_enumT (xs := ps) (fun i σ H2 => ∃ x y, σ = [some (.ref a), some (.ref b), x, y] ∧ Same H H2) (sqt hb) ⟨_, _, rfl, Same.refl _⟩ (fun i σ H2 _ hP => ?_) (fun i x σ H2 p H3 hi hP n3 S3 h3 => ?_) (fun σ H2 hP => ?_)
    · obtain ⟨_, _, _, S2⟩ := hP
      exact sqt (S2 _ _ hb)
    · obtain ⟨x1, y1, rfl, S2⟩ := hP
      obtain ⟨c, xs, rfl, e1, e2⟩ := (tp.same (S2.trans S3)).at_ hi
      obtain ⟨k, ek, rfl⟩ := ksV_get e1
      have k0 : (0 : Int) ≤ k := by omega
      walk_at "go"
      exact ⟨_, _, rfl, S2.trans S3⟩
    · obtain ⟨x1, y1, rfl, S2⟩ := hP
      walk_at "go"
      refine c_joined (S2 _ _ hb) (tp.same S2) hk hl (fun p ws L H3 n3 S3 h3 t3 g3 => ?_)
      walk_at "go"
      intro H4 X4 h4
      refine h p _ (S2.free n3) ((Ex.of (S2.trans S3)).trans X4) ⟨a, dx, ws, L, rfl, h4, X4 _ _ (ne_of h3 (S3 _ _ (S2 _ _ ha)) (by intro z; cases z)) h3, ?_, g3⟩
      exact t3.mono fun c xs hc => X4 _ _ (ne_of hc (S3 _ _ (S2 _ _ ha)) (by intro z; cases z)) hc
  exact ⟨_, T.glo 63, T.mkr 112, F.1⟩
theorem c_Stretches {K : PySem.W.Frag} {H : Hp} {Q : VK} {x dx : Addr} {ps : List V} {ks : List Nat} (h : H x = some (.ins (He.ga K "Stretches") dx [])) (tp : Tups H ps (ksV ks)) (hk : ks.Pairwise (· < ·)) (hl : ks.length ≤ 3000)
    (q : ∀ p H', H p = none → Ex x H H' → IsSt K H' (.ref x) p (ks.getLast?.map (fun (k : Nat) => (k : Int))) → Q .non H') : spStar 1 (sp_Stretches_init K) (V.ref x :: ps) H Q E0 := by
  have hz : ps.length = ks.length := by
    rw [tp.len]
    unfold ksV
    rw [List.length_map]
  refine ⟨[.ref x], ps, rfl, rfl, Nat.le_of_lt (smallB (by omega)), fun p np => ⟨_, _, rfl, x, dx, p, ps, ks, rfl, rfl, ?_, upd_same, tp.same (same_upd np), hk, hl, fun p2 H' n2 X' s' => q p2 H' ((same_upd np).free n2) (fun b o hb e => X' _ _ hb (same_upd np _ _ e)) s'⟩⟩
  rw [upd_ne (ne_of_none h np)]
  exact h
def sp_Stretches_none (K : PySem.W.Frag) : Sp := sp0 fun H Q => ∀ v p H', H p = none → Same H H' → IsSt K H' v p none → Q v H'
theorem sc_Stretches_none : FnScope n_Stretches_none p_Stretches_none d_Stretches_none.scope := ⟨rfl, rfl, rfl, by decide +kernel, rfl, by decide +kernel, by decide +kernel⟩
theorem ok_Stretches_none (T : Tx K mg) : GS P w K mg base (He.ga K "Stretches") "none" 6 (sp_Stretches_none K) := by
  have F := mkR (P := P) (w := w) (base := base) T 24 (d := d_Stretches_none) rfl rfl sc_Stretches_none (fun _ _ _ _ _ _ us hl => match us, hl with | [], _ => rfl) len0 (k := 5) (sp := (sp_Stretches_none K)) fun cdv A outer s H vs Q E hr h => by
    obtain ⟨rfl, h⟩ := h
    refine ⟨_, (pss_one (ps_ret (pe_gc0 (ok_Stretches_init (K := K) T) hr))), ?_⟩
    walk_at "go"
    intro x dx H1 n1 S1 h1
    refine c_Stretches (ks := []) h1 .nil .nil (Nat.zero_le _) (fun p H2 np X2 s2 => ⟨rfl, h _ p H2 (S1.free np) (Ex.same n1 S1 X2) s2⟩)
  exact ⟨_, _, T.stm 116, F.1⟩
theorem c_none {K : PySem.W.Frag} {H : Hp} {Q : VK} {E : XK} (q : ∀ v p H', H p = none → Same H H' → IsSt K H' v p none → Q v H') : sp_Stretches_none K [] H Q E := ⟨rfl, q⟩
local macro_rules | `(tactic| walk_at "call") => `(tactic| ((with_reducible apply c_none)))
def sp_Stretches_greatest (K : PySem.W.Frag) : Sp := sp1 fun self H Q => ∃ top p, IsSt K H self p top ∧ ∀ H', Same H H' → Q (agV top) H'
theorem sc_Stretches_greatest : FnScope n_Stretches_greatest p_Stretches_greatest d_Stretches_greatest.scope := ⟨rfl, rfl, rfl, by decide +kernel, rfl, by decide +kernel, by decide +kernel⟩
theorem ok_Stretches_greatest (T : Tx K mg) : GM P w K mg base (He.ga K "Stretches") "greatest" 1 (sp_Stretches_greatest K) := by
  have F := mkR (P := P) (w := w) (base := base) T 23 (d := d_Stretches_greatest) rfl rfl sc_Stretches_greatest (fun _ _ _ _ _ _ us hl => match us, hl with | [_], _ => rfl) len1 (k := 0) (sp := (sp_Stretches_greatest K)) fun cdv A outer s H vs Q E hr h => by
    obtain ⟨self, rfl, h⟩ := h
    refine ⟨_, (pss_one (ps_ret (pe_ifExp (pt_cmpR (jo_eqD (K := K) hr.units) (pe_f (pv 0) (T.cls 111) (T.noat 114)) (pe_lst pa_nil) (nomark _)) pe_non (pe_ix (jx_tup (K := K)) (pe_ix (jx_list (K := K)) (pe_f (pv 0) (T.cls 111) (T.noat 114)) (pe_un un_neg pe_int) (fun _ _ => rfl)) pe_int (fun _ _ => rfl))))), ?_⟩
    obtain ⟨top, p, ⟨a, dx, ws, L, rfl, h1, h2, t2, g2⟩, h⟩ := h
    walk_at "go"
    intro z H1 n1 S1 hz
    refine rd_eqTL0 hz (S1 _ _ h2) (t2.same S1) (prV_pl L) ?_
    walk_at "go"
    rcases List.eq_nil_or_concat L with rfl | ⟨L', pq, eL⟩
    · cases t2
      refine iteDT rfl ?_
      walk_at "go"
      cases g2
      exact h _ S1
    · rw [List.concat_eq_append] at eL
      subst eL
      obtain ⟨lo, hi⟩ := pq
      rw [List.map_append] at t2
      obtain ⟨vs, b, rfl, t2b, hb⟩ := Tups.end_ (l := L'.map prV) t2
      refine iteDF (fun z => by simp at z) ?_
      have ei : atI (vs ++ [V.ref b]) (-1) = some (.ref b) := atI_last _ _
      have hb1 : H1 b = some (.tup [.int lo, .int hi]) := S1 _ _ hb
      walk_at "go"
      rw [List.getLast?_concat] at g2
      rw [← g2] at h
      exact h _ S1
  exact ⟨_, T.meth 115, F.1⟩
theorem c_greatest {K : PySem.W.Frag} {H : Hp} {Q : VK} {E : XK} {v : V} {p : Addr} {top : Age} (hv : IsSt K H v p top) (q : ∀ H', Same H H' → Q (agV top) H') : sp_Stretches_greatest K [v] H Q E := ⟨_, rfl, top, p, hv, q⟩
def AOk (N : List Deed) (r : Arr) : Prop := r.s < N.length ∧ r.g < N.length ∧ 1 ≤ r.l ∧ r.l ≤ r.m ∧ r.m ≤ 1000000000 ∧ (r.w = .anew ↔ (N.getD r.g .read).makes = true)
theorem wz_in (x : Word) : inV (.str (wz x)) [.str "", .str "held", .str "anew"] = true := by cases x <;> decide +kernel
theorem wz_anew (x : Word) : decide (wz x = "anew") = decide (x = .anew) := by cases x <;> decide +kernel
theorem av4 (r : Arr) : atI (av r) 4 = some (.str (wz r.w)) := rfl
theorem getD_at {N : List Deed} {i : Nat} (h : i < N.length) : ∃ d, N[i]? = some d ∧ N.getD i .read = d := ⟨N[i], List.getElem?_eq_getElem h, by rw [List.getD_eq_getElem?_getD, List.getElem?_eq_getElem h]; rfl⟩
theorem atI_of {xs : List V} {k : Nat} {v : V} (h : xs[k]? = some v) : atI xs (k : Int) = some v := atI_nat h
def sp_is_arrow (K : PySem.W.Frag) : Sp := sp2 fun value nodes H Q => ∃ a p ns N r, value = .ref a ∧ nodes = .ref p ∧ H a = some (.tup (av r)) ∧ H p = some (.lst ns) ∧ Tups H ns (N.map dv) ∧ (∀ d ∈ N, d.ok) ∧ AOk N r ∧ ∀ H', Same H H' → Q (.bl true) H'
theorem sc_is_arrow : FnScope n_is_arrow p_is_arrow d_is_arrow.scope := ⟨rfl, rfl, rfl, by decide +kernel, rfl, by decide +kernel, by decide +kernel⟩
theorem ok_is_arrow (T : Tx K mg) : GF P w K mg base "is_arrow" 6 (sp_is_arrow K) := by
  have F := mkR (P := P) (w := w) (base := base) T 25 (d := d_is_arrow) rfl rfl sc_is_arrow (fun _ _ _ _ _ _ us hl => match us, hl with | [_, _], _ => rfl) len2 (k := 5) (sp := (sp_is_arrow K)) fun cdv A outer s H vs Q E hr h => by
    obtain ⟨value, nodes, rfl, h⟩ := h
    refine ⟨_, (pss_cons (ps_if (PW.pt (pw_or (pt_not (pt_val (pe_cb (jc_isi (K := K)) (T.free 70) (pa_cons (pv 0) (pa_cons (pe_gty (T := "tuple") (T.free 78)) pa_nil))))) (pw_or1 (pt_cmpR (jo_nin (K := K)) (pe_cb (jc_ln (K := K)) (T.free 69) (pa_cons (pv 0) pa_nil)) (pe_tup (pa_cons pe_int (pa_cons pe_int pa_nil))) (by with_unfolding_all rfl))))) (pss_one (ps_ret pe_bl)) pss_nil)
      (pss_cons (ps_if (PW.pt (pw_or (pt_not (pt_val (pe_gf (ok_is_between (K := K) T) hr (pa_cons (pe_ix (jx_tup (K := K)) (pv 0) pe_int (fun _ _ => rfl)) (pa_cons pe_int (pa_cons (pe_op op_sub (pe_cb (jc_ln (K := K)) (T.free 69) (pa_cons (pv 1) pa_nil)) pe_int) pa_nil)))))) (pw_or1 (pt_not (pt_val (pe_gf (ok_is_between (K := K) T) hr (pa_cons (pe_ix (jx_tup (K := K)) (pv 0) pe_int (fun _ _ => rfl)) (pa_cons pe_int (pa_cons (pe_op op_sub (pe_cb (jc_ln (K := K)) (T.free 69) (pa_cons (pv 1) pa_nil)) pe_int) pa_nil))))))))) (pss_one (ps_ret pe_bl)) pss_nil)
      (pss_cons (ps_if (PW.pt (pw_or (pt_not (pt_val (pe_gf (ok_is_time (K := K) T) hr (pa_cons (pe_ix (jx_tup (K := K)) (pv 0) pe_int (fun _ _ => rfl)) pa_nil)))) (pw_or1 (PW.pt (pw_and (pt_cmpR op_notN' (pe_ix (jx_tup (K := K)) (pv 0) pe_int (fun _ _ => rfl)) pe_non (nomark _)) (pw_and1 (PW.pt (pw_or (pt_not (pt_val (pe_gf (ok_is_time (K := K) T) hr (pa_cons (pe_ix (jx_tup (K := K)) (pv 0) pe_int (fun _ _ => rfl)) pa_nil)))) (pw_or1 (pt_cmpR op_lt (pe_ix (jx_tup (K := K)) (pv 0) pe_int (fun _ _ => rfl)) (pe_ix (jx_tup (K := K)) (pv 0) pe_int (fun _ _ => rfl)) (nomark _))))))))))) (pss_one (ps_ret pe_bl)) pss_nil)
      (pss_cons (ps_set (i := 2) sc_is_arrow.nd rfl (Or.inl rfl) (pe_ifExp (pt_cmpR op_eq (pe_cb (jc_ln (K := K)) (T.free 69) (pa_cons (pv 0) pa_nil)) pe_int (nomark _)) (pe_ix (jx_tup (K := K)) (pv 0) pe_int (fun _ _ => rfl)) pe_str))
      (pss_one (ps_ret (pe_and (pe_gf (ok_is_part_of (K := K) T) hr (pa_cons (pv 2) (pa_cons (pe_gref (T.glo 96)) pa_nil))) (pe_one (pe_cmpR op_eq (pe_cmpR op_eq (pv 2) pe_str (nomark _)) (pe_gf (ok_makes (K := K) T) hr (pa_cons (pe_ix (jx_list (K := K)) (pv 1) (pe_ix (jx_tup (K := K)) (pv 0) pe_int (fun _ _ => rfl)) (fun _ _ => rfl)) pa_nil)) (nomark _)))))))))), ?_⟩
    obtain ⟨a, p, ns, N, r, rfl, rfl, ha, hp, tn, hN, ⟨o1, o2, o3, o4, o5, o6⟩, h⟩ := h
    have hz : ns.length = N.length := by rw [tn.len, List.length_map]
    have hW : ∀ H, SqT K H (He.ga K "WORDS") [.str "", .str "held", .str "anew"] := fun H => T.tup 97 H
    walk_at "go"
    intro p1 H1 n1 S1 h1
    walk_at "go"
    refine iteBF (by rw [hz, decide_eq_true (show (0 : Int) ≤ r.s by omega), decide_eq_true (show (r.s : Int) ≤ N.length - 1 by omega)]; rfl) ?_
    walk_at "go"
    refine iteBF (by rw [hz, decide_eq_true (show (0 : Int) ≤ r.g by omega), decide_eq_true (show (r.g : Int) ≤ N.length - 1 by omega)]; rfl) ?_
    walk_at "go"
    refine iteBF (by rw [decide_eq_true (show (1 : Int) ≤ r.l by omega), decide_eq_true (show (r.l : Int) ≤ 1000000000 by omega)]; rfl) ?_
    walk_at "go"
    refine iteBF (by rw [decide_eq_true (show (1 : Int) ≤ r.m by omega), decide_eq_true (show (r.m : Int) ≤ 1000000000 by omega)]; rfl) ?_
    walk_at "go"
    refine iteDF (by omega) ?_
    obtain ⟨d, ed, gd⟩ := getD_at o2
    obtain ⟨b, eb, hb⟩ := tn.give ed
    have eb' := atI_of eb
    have hdo := hN d (List.mem_of_getElem? ed)
    walk_at "go"
    refine ⟨_, _, rfl, _, _, ["", "held", "anew"], rfl, rfl, hW H1, ?_⟩
    rw [show inV (V.str (wz r.w)) (([("" : Str), "held", "anew"]).map V.str) = true from wz_in r.w]
    walk_at "go"
    intro H2 S2
    walk_at "go"
    rw [gd] at o6
    have e9 : decide (decide (wz r.w = "anew") = d.makes) = true := by
      rw [wz_anew]
      by_cases c : r.w = .anew
      · rw [decide_eq_true c, o6.mp c]
        rfl
      · have c2 : d.makes = false := by
          cases hm : d.makes with
          | true => exact absurd (o6.mpr hm) c
          | false => rfl
        rw [decide_eq_false c, c2]
        rfl
    rw [e9]
    exact h _ (S1.trans S2)
  exact ⟨_, T.glo 15, F.2, F.1⟩
theorem c_is_arrow {K : PySem.W.Frag} {H : Hp} {Q : VK} {E : XK} {a p : Addr} {ns : List V} {N : List Deed} {r : Arr} (ha : H a = some (.tup (av r))) (hp : H p = some (.lst ns)) (tn : Tups H ns (N.map dv)) (hN : ∀ d ∈ N, d.ok) (o : AOk N r) (q : ∀ H', Same H H' → Q (.bl true) H') : sp_is_arrow K [.ref a, .ref p] H Q E :=
  ⟨_, _, rfl, a, p, ns, N, r, rfl, rfl, ha, hp, tn, hN, o, q⟩
def fromV (N : List Deed) (R : List Arr) : Prop := ∀ n, n < N.length → (N.getD n .read).makes = true ∨ ∃ r : Arr, r ∈ R ∧ r.g = n ∧ r.w ≠ .anew ∧ r.s < n
def sp_reached_from (K : PySem.W.Frag) : Sp := sp2 fun nodes arrows H Q => ∃ (p q : Addr) (ns rs : List V) (N : List Deed) (R : List Arr), nodes = .ref p ∧ arrows = .ref q ∧ H p = some (.lst ns) ∧ H q = some (.lst rs) ∧ Tups H ns (N.map dv) ∧ Tups H rs (R.map av) ∧ (∀ d ∈ N, d.ok) ∧ (∀ r ∈ R, AOk N r) ∧ N.length ≤ 1000 ∧ fromV N R ∧ ∀ b H', Same H H' → H' b = some (.lst (List.replicate N.length (.bl true))) → Q (.ref b) H'
theorem sc_reached_from : FnScope n_reached_from p_reached_from d_reached_from.scope := ⟨rfl, rfl, rfl, by decide +kernel, rfl, by decide +kernel, by decide +kernel⟩
theorem ok_reached_from (T : Tx K mg) : GF P w K mg base "reached_from" 6 (sp_reached_from K) := by
  have F := mkR (P := P) (w := w) (base := base) T 26 (d := d_reached_from) rfl rfl sc_reached_from (fun _ _ _ _ _ _ us hl => match us, hl with | [_, _], _ => rfl) len2 (k := 5) (sp := (sp_reached_from K)) fun cdv A outer s H vs Q E hr h => by
    obtain ⟨nodes, arrows, rfl, h⟩ := h
    refine ⟨_, (pss_cons (ps_setLc (i := 2) (own := [("node", 9)]) (g := gName 9) (tt := tYes) rfl sc_reached_from.nd rfl rfl (sw_true rfl rfl rfl (by decide +kernel)) (ji_list (K := K) (pv 0)) (blkOk_by (own := [("node", 9)]) (N := n_reached_from) (sc := d_reached_from.scope) (by decide +kernel)) (fun _ _ _ _ _ => pg_name (i := 9) sc_reached_from.nd rfl (Or.inl rfl)) (fun _ _ _ _ _ => pts_nil) (fun _ _ _ _ _ => (pe_gf (ok_makes (K := K) T) hr (pa_cons (pv 9) pa_nil))))
      (pss_cons (ps_for PassesOwn.never rfl (pi_range1 (by rfl) (T.free 71) (pa_cons (pe_cb (jc_ln (K := K)) (T.free 69) (pa_cons (pv 0) pa_nil)) pa_nil)) (pg_name (i := 3) sc_reached_from.nd rfl (Or.inl rfl)) (pss_one (ps_for PassesOwn.never rfl (ji_list (K := K) (pv 1)) (jg_tup (K := K) (n := 5) rfl (pgs_cons (pg_name (i := 4) sc_reached_from.nd rfl (Or.inl rfl)) (pgs_cons (pg_name (i := 5) sc_reached_from.nd rfl (Or.inl rfl)) (pgs_cons (pg_name (i := 6) sc_reached_from.nd rfl (Or.inl rfl)) (pgs_cons (pg_name (i := 7) sc_reached_from.nd rfl (Or.inl rfl)) (pgs_cons (pg_name (i := 8) sc_reached_from.nd rfl (Or.inl rfl)) pgs_nil)))))) (pss_one (ps_if (PW.pt (pw_and (pt_val (pe_ix (jx_list (K := K)) (pv 2) (pv 4) (fun _ _ => rfl))) (pw_and1 (pt_cmpR op_ne (pv 8) pe_str (nomark _))))) (pss_one (ps_asg pe_bl (pg_sub (pv 2) (pv 5) set_list (by intro _; rfl)))) pss_nil)))))
      (pss_one (ps_ret (pv 2))))), ?_⟩
    obtain ⟨p, q, ns, rs, N, R, rfl, rfl, hp, hq, tn, tr, hN, hR, hl, hm, h⟩ := h
    have hnz : ns.length = N.length := by rw [tn.len, List.length_map]
    have hrz : rs.length = R.length := by rw [tr.len, List.length_map]
    walk_at "go"
    refine ⟨_, rfl, ⟨_, sql hp⟩, lc_fmT N dv (fun d => some (.bl d.makes)) hp tn (by omega) (fun d b hd hb H2 Nx S hNx => ?_) (fun f H1 n1 S1 h1 => ?_)⟩
    · have hdo := hN d hd
      walk_at "go"
      intro H3 S3
      exact hNx _ S3
    have e1 : N.filterMap (fun d => some (V.bl d.makes)) = (N.map Deed.makes).map V.bl := by
      rw [List.map_map, ← List.filterMap_eq_map]
      rfl
    rw [e1] at h1
    walk_at "go"
    have G0 : ∀ n, n < N.length → ((N.getD n .read).makes = true ∨ n ≤ 0) → (N.map Deed.makes)[n]? = some true := fun n hn c => by
      have mk : (N.getD n .read).makes = true := by
        rcases c with c | c
        · exact c
        · rcases hm n hn with z | ⟨r, _, _, _, z⟩
          · exact z
          · omega
      obtain ⟨d, ed, gd⟩ := getD_at hn
      rw [List.getElem?_map, ed]
      rw [gd] at mk
      exact congrArg some mk
    refine fo_range (n := N.length) (by rw [hnz]) (by omega) (fun t σ H2 => ∃ b c d e g i j bs, σ = [some (.ref p), some (.ref q), some (.ref f), b, c, d, e, g, i, j] ∧ Same H H2 ∧ H2 f = some (.lst (List.map V.bl bs)) ∧ bs.length = N.length ∧ ∀ n, n < N.length → ((N.getD n .read).makes = true ∨ n ≤ t) → bs[n]? = some true)
      ⟨_, _, _, _, _, _, _, _, rfl, S1, h1, List.length_map .., G0⟩ (fun t σ H2 ht hP => ?_) (fun σ H2 hP => ?_)
    · obtain ⟨b, c, d, e, g, i, j, bs, rfl, S2, h2, l2, G2⟩ := hP
      walk_at "go"
      refine fo_list (xs := rs) (fun k σ H3 => ∃ c d e g i j bs, σ = [some (.ref p), some (.ref q), some (.ref f), some (.int t), c, d, e, g, i, j] ∧ Same H H3 ∧ H3 f = some (.lst (List.map V.bl bs)) ∧ bs.length = N.length ∧ (∀ n, n < N.length → ((N.getD n .read).makes = true ∨ n ≤ t) → bs[n]? = some true) ∧ ∀ m r, m < k → R[m]? = some r → r.w ≠ .anew → r.s ≤ t → bs[r.g]? = some true)
        (sql (S2 _ _ hq)) ⟨_, _, _, _, _, _, _, rfl, S2, h2, l2, G2, fun m r z => by omega⟩ (fun k σ H3 _ hP => ?_) (fun k x σ H3 hk hP => ?_) (fun σ H3 hP => ?_)
      · obtain ⟨_, _, _, _, _, _, _, _, S3, _⟩ := hP
        exact sql (S3 _ _ hq)
      · obtain ⟨c, d, e, g, i, j, bs, rfl, S3, h3, l3, G3, A3⟩ := hP
        obtain ⟨x, r, rfl, er, hx⟩ := (tr.same S3).got hk
        obtain ⟨o1, o2, _, _, _, _⟩ := hR r (List.mem_of_getElem? er)
        obtain ⟨v, ev⟩ : ∃ v, bs[r.s]? = some v := ⟨bs[r.s], List.getElem?_eq_getElem (by omega)⟩
        have ev2 : atI (List.map V.bl bs) (r.s : Int) = some (.bl v) := atI_nat (by rw [List.getElem?_map, ev]; rfl)
        have step : ∀ bs' : List Bool, (∀ n : Nat, bs[n]? = some true → bs'[n]? = some true) → (r.w ≠ .anew → r.s ≤ t → bs'[r.g]? = some true) → ∀ m r', m < k + 1 → R[m]? = some r' → r'.w ≠ .anew → r'.s ≤ t → bs'[r'.g]? = some true := fun bs' u1 u2 m r' hm2 er' c1 c2 => by
          rcases Nat.lt_succ_iff_lt_or_eq.mp hm2 with z | z
          · exact u1 _ (A3 m r' z er' c1 c2)
          · subst z
            rw [er] at er'
            cases er'
            exact u2 c1 c2
        walk_at "go"
        refine iteb (fun cv => ?_) (fun cv => ?_)
        · walk_at "go"
          refine itedn (fun c1 => ?_) (fun c1 => ?_)
          · walk_at "go"
            refine rd_setL h3 (j := r.g) (by rw [List.length_map, l3]; exact ixN_nat o2) (fun H4 X4 h4 => ?_)
            rw [show (List.map V.bl bs).set r.g (.bl true) = List.map V.bl (bs.set r.g true) from List.map_set.symm] at h4
            have up : ∀ n : Nat, bs[n]? = some true → (bs.set r.g true)[n]? = some true := fun n hn => by
              rw [List.getElem?_set]
              by_cases z : r.g = n
              · have hlt : r.g < bs.length := by omega
                rw [if_pos z, if_pos hlt]
              · rw [if_neg z]
                exact hn
            refine ⟨_, _, _, _, _, _, bs.set r.g true, rfl, Ex.same n1 S3 X4, h4, by rw [List.length_set]; exact l3, fun n hn c => up n (G3 n hn c), step _ up fun _ _ => ?_⟩
            rw [List.getElem?_set_self (by omega)]
          · walk_at "go"
            refine ⟨_, _, _, _, _, _, bs, rfl, S3, h3, l3, G3, step _ (fun _ z => z) fun c2 _ => ?_⟩
            have e9 := wz_anew r.w
            rw [decide_eq_true c1] at e9
            exact absurd (of_decide_eq_true e9.symm) c2
        · walk_at "go"
          refine ⟨_, _, _, _, _, _, bs, rfl, S3, h3, l3, G3, step _ (fun _ z => z) fun _ c2 => ?_⟩
          have := G3 r.s o1 (.inr c2)
          rw [ev, cv] at this
          cases this
      · obtain ⟨c, d, e, g, i, j, bs, rfl, S3, h3, l3, G3, A3⟩ := hP
        refine ⟨_, _, _, _, _, _, _, bs, rfl, S3, h3, l3, fun n hn c => ?_⟩
        rcases c with c | c
        · exact G3 n hn (.inl c)
        · rcases hm n hn with z | ⟨r, hr, rfl, c1, c2⟩
          · exact G3 n hn (.inl z)
          · obtain ⟨m, em, er⟩ := List.getElem_of_mem hr
            exact A3 m r (by rw [hrz]; exact em) (by rw [List.getElem?_eq_getElem em, er]) c1 (by omega)
    · obtain ⟨b, c, d, e, g, i, j, bs, rfl, S2, h2, l2, G2⟩ := hP
      walk_at "go"
      have eb : bs = List.replicate N.length true := by
        apply List.ext_getElem?
        intro n
        by_cases hn : n < N.length
        · rw [G2 n hn (.inr (by omega)), List.getElem?_replicate, if_pos hn]
        · rw [List.getElem?_eq_none (by omega), List.getElem?_eq_none (by rw [List.length_replicate]; omega)]
      rw [eb, List.map_replicate] at h2
      exact h f H2 S2 h2
  exact ⟨_, T.glo 16, F.2, F.1⟩
theorem c_reached {K : PySem.W.Frag} {H : Hp} {Q : VK} {E : XK} {p q : Addr} {ns rs : List V} {N : List Deed} {R : List Arr} (hp : H p = some (.lst ns)) (hq : H q = some (.lst rs)) (tn : Tups H ns (N.map dv)) (tr : Tups H rs (R.map av)) (hN : ∀ d ∈ N, d.ok) (hR : ∀ r ∈ R, AOk N r) (hl : N.length ≤ 1000) (hm : fromV N R)
    (k : ∀ b H', Same H H' → H' b = some (.lst (List.replicate N.length (.bl true))) → Q (.ref b) H') : sp_reached_from K [.ref p, .ref q] H Q E := ⟨_, _, rfl, p, q, ns, rs, N, R, rfl, rfl, hp, hq, tn, tr, hN, hR, hl, hm, k⟩
theorem cut2n : ¬ (HT.sIx 5 0 none = 0 ∧ HT.sIx 5 5 (some 2) = 5) := by decide
structure WOk (N : List Deed) (R : List Arr) : Prop where
  n1 : 1 ≤ N.length
  n2 : N.length ≤ 12
  ok : ∀ d ∈ N, d.ok
  a1 : R.length ≤ 40
  ar : ∀ r ∈ R, AOk N r
  di : ∀ (i j : Nat) (r r2 : Arr), R[i]? = some r → R[j]? = some r2 → r.s = r2.s → r.g = r2.g → i = j
  an : ∀ r ∈ R, r.w = .anew → ∃ b : Arr, b ∈ R ∧ b.s = r.g ∧ b.w ≠ .anew
  rc : fromV N R
def IsW (K : PySem.W.Frag) (H : Hp) (a : Addr) (N : List Deed) (R : List Arr) : Prop := ∃ dx pn pa ns rs, H a = some (.ins (He.ga K "Way") dx [("own_nodes", .ref pn), ("own_arrows", .ref pa)]) ∧ H pn = some (.lst ns) ∧ Tups H ns (N.map dv) ∧ H pa = some (.lst rs) ∧ Tups H rs (R.map av)
theorem IsW.same {K : PySem.W.Frag} {H H' : Hp} {a : Addr} {N : List Deed} {R : List Arr} (S : Same H H') (h : IsW K H a N R) : IsW K H' a N R := by
  obtain ⟨dx, pn, pa, ns, rs, h1, h2, h3, h4, h5⟩ := h
  exact ⟨dx, pn, pa, ns, rs, S _ _ h1, S _ _ h2, h3.same S, S _ _ h4, h5.same S⟩
local macro_rules | `(tactic| walk_at "iw") => `(tactic| first | assumption | (apply IsW.same; (· assumption); (· walk_at "iw")))
def sp_Way_init (K : PySem.W.Frag) : Sp := sp3 fun self nodes arrows H Q => ∃ a dx p q ns rs N R, self = .ref a ∧ nodes = .ref p ∧ arrows = .ref q ∧ H a = some (.ins (He.ga K "Way") dx []) ∧ H p = some (.lst ns) ∧ H q = some (.lst rs) ∧ Tups H ns (N.map dv) ∧ Tups H rs (R.map av) ∧ WOk N R ∧ ∀ H', Ex a H H' → IsW K H' a N R → Q .non H'
theorem sc_Way_init : FnScope n_Way_init p_Way_init d_Way_init.scope := ⟨rfl, rfl, rfl, by decide +kernel, rfl, by decide +kernel, by decide +kernel⟩
theorem ok_Way_init (T : Tx K mg) : GC P w K mg base "Way" (He.ga K "Way") 7 (sp_Way_init K) := by
  have F := mkR (P := P) (w := w) (base := base) T 27 (d := d_Way_init) rfl rfl sc_Way_init (fun _ _ _ _ _ _ us hl => match us, hl with | [_, _, _], _ => rfl) len3 (k := 6) (sp := (sp_Way_init K)) fun cdv A outer s H vs Q E hr h => by
    obtain ⟨self, nodes, arrows, rfl, h⟩ := h
    refine ⟨_, (pss_cons (ps_if (PW.pt (pw_or (pt_not (pt_val (pe_gf (ok_is_listed (K := K) T) hr (pa_cons (pv 1) pa_nil)))) (pw_or1 (pt_not (pt_chain op_le op_le pe_int (pe_cb (jc_ln (K := K)) (T.free 69) (pa_cons (pv 1) pa_nil)) (pe_gint (T.int 88))))))) (pss_one ps_never) pss_nil)
      (pss_cons (ps_for PassesOwn.never rfl (ji_enum (K := K) (by rfl) (T.free 72) (pa_cons (pv 1) pa_nil)) (jg_tup (K := K) (n := 2) rfl (pgs_cons (pg_name (i := 3) sc_Way_init.nd rfl (Or.inl rfl)) (pgs_cons (pg_name (i := 4) sc_Way_init.nd rfl (Or.inl rfl)) pgs_nil))) (pss_one (ps_if (pt_not (pt_val (pe_gf (ok_is_deed (K := K) T) hr (pa_cons (pv 4) pa_nil)))) (pss_one ps_never) pss_nil)))
      (pss_cons (ps_if (PW.pt (pw_or (pt_not (pt_val (pe_gf (ok_is_listed (K := K) T) hr (pa_cons (pv 2) pa_nil)))) (pw_or1 (pt_cmpR op_gt (pe_cb (jc_ln (K := K)) (T.free 69) (pa_cons (pv 2) pa_nil)) (pe_gint (T.int 89)) (nomark _))))) (pss_one ps_never) pss_nil)
      (pss_cons (ps_set (i := 5) sc_Way_init.nd rfl (Or.inl rfl) (pe_lst pa_nil))
      (pss_cons (ps_for PassesOwn.never rfl (ji_enum (K := K) (by rfl) (T.free 72) (pa_cons (pv 2) pa_nil)) (jg_tup (K := K) (n := 2) rfl (pgs_cons (pg_name (i := 3) sc_Way_init.nd rfl (Or.inl rfl)) (pgs_cons (pg_name (i := 6) sc_Way_init.nd rfl (Or.inr rfl)) pgs_nil))) (pss_cons (ps_if (PW.pt (pw_or (pt_not (pt_val (pe_gf (ok_is_arrow (K := K) T) hr (pa_cons (pv 6) (pa_cons (pv 1) pa_nil))))) (pw_or1 (pt_cmpR (jo_inD (K := K) (hu65 hr)) (pe_slice (js_tup (K := K)) (pv 6) po_none (po_some pe_int)) (pe_lc (own := [("other", 8)]) (g := gName 8) (tt := tYes) rfl sc_Way_init.nd (ji_list (K := K) (pv 5)) (blkOk_by (own := [("other", 8)]) (N := n_Way_init) (sc := d_Way_init.scope) (by decide +kernel)) (fun _ _ _ _ _ => pg_name (i := 8) sc_Way_init.nd rfl (Or.inl rfl)) (fun _ _ _ _ _ => pts_nil) (fun _ _ _ _ _ => (pe_slice (js_tup (K := K)) (pv 8) po_none (po_some pe_int)))) (by with_unfolding_all rfl))))) (pss_one ps_never) pss_nil)
      (pss_one (ps_expr (je_app (K := K) (pv 5) (pa_cons (pe_ifExp (pt_cmpR op_eq (pe_cb (jc_ln (K := K)) (T.free 69) (pa_cons (pv 6) pa_nil)) pe_int (nomark _)) (pv 6) (pe_tup (ja_star (K := K) (pv 6) (pa_cons pe_str pa_nil)))) pa_nil))))))
      (pss_cons (ps_for PassesOwn.never rfl (ji_enum (K := K) (by rfl) (T.free 72) (pa_cons (pv 5) pa_nil)) (jg_tup (K := K) (n := 2) rfl (pgs_cons (pg_name (i := 3) sc_Way_init.nd rfl (Or.inl rfl)) (pgs_cons (pg_name (i := 6) sc_Way_init.nd rfl (Or.inr rfl)) pgs_nil))) (pss_one (ps_if (PW.pt (pw_and (pt_cmpR op_eq (pe_ix (jx_tup (K := K)) (pv 6) pe_int (fun _ _ => rfl)) pe_str (nomark _)) (pw_and1 (pt_not (pt_val (pe_cb (jc_any (K := K) rfl) (T.free 76) (pa_cons (pe_lc (own := [("other", 8)]) (g := gName 8) (tt := tYes) rfl sc_Way_init.nd (ji_list (K := K) (pv 5)) (blkOk_by (own := [("other", 8)]) (N := n_Way_init) (sc := d_Way_init.scope) (by decide +kernel)) (fun _ _ _ _ _ => pg_name (i := 8) sc_Way_init.nd rfl (Or.inl rfl)) (fun _ _ _ _ _ => pts_nil) (fun _ _ _ _ _ => (pe_and (pe_cmpR op_eq (pe_ix (jx_tup (K := K)) (pv 8) pe_int (fun _ _ => rfl)) (pe_ix (jx_tup (K := K)) (pv 6) pe_int (fun _ _ => rfl)) (nomark _)) (pe_one (pe_cmpR op_ne (pe_ix (jx_tup (K := K)) (pv 8) pe_int (fun _ _ => rfl)) pe_str (nomark _)))))) pa_nil))))))) (pss_one ps_never) pss_nil)))
      (pss_cons (ps_for PassesOwn.never rfl (ji_enum (K := K) (by rfl) (T.free 72) (pa_cons (pe_gf (ok_reached_from (K := K) T) hr (pa_cons (pv 1) (pa_cons (pv 5) pa_nil))) pa_nil)) (jg_tup (K := K) (n := 2) rfl (pgs_cons (pg_name (i := 3) sc_Way_init.nd rfl (Or.inl rfl)) (pgs_cons (pg_name (i := 7) sc_Way_init.nd rfl (Or.inl rfl)) pgs_nil))) (pss_one (ps_if (pt_not (pt_val (pv 7))) (pss_one ps_never) pss_nil)))
      (pss_cons (ps_f (pv 0) (pe_ct (jc_list (K := K)) (T.free 79) (pa_cons (pv 1) pa_nil)) (T.cls 117) (T.noat 120))
      (pss_one (ps_f (pv 0) (pv 5) (T.cls 117) (T.noat 121))))))))))), ?_⟩
    obtain ⟨a, dx, p, q, ns, rs, N, R, rfl, rfl, rfl, ha, hp, hq, tn, tr, W, h⟩ := h
    have hnz : ns.length = N.length := by rw [tn.len, List.length_map]
    have hrz : rs.length = R.length := by rw [tr.len, List.length_map]
    have w1 := W.n1
    have w2 := W.n2
    have w3 := W.a1
    walk_at "go"
    intro H1 S1
    walk_at "go"
    refine iteDT (by omega) ?_
    walk_at "go"
    refine iteBF (by rw [decide_eq_true (show (ns.length : Int) ≤ 12 by omega)]; rfl) ?_
    walk_at "go"
    refine fo_enum (xs := ns) (fun i σ H2 => ∃ b c d e g j, σ = [some (.ref a), some (.ref p), some (.ref q), b, c, d, e, g, j] ∧ Same H H2) (sql (S1 _ _ hp)) ⟨_, _, _, _, _, _, rfl, S1⟩ (fun i σ H2 _ hP => ?_) (fun i x σ H2 z H3 hi hP n3 S3 h3 => ?_) (fun σ H2 hP => ?_)
    · obtain ⟨_, _, _, _, _, _, _, S2⟩ := hP
      exact sql (S2 _ _ hp)
    · obtain ⟨b, c, d, e, g, j, rfl, S2⟩ := hP
      obtain ⟨y, dd, rfl, ed, hy⟩ := (tn.same (S2.trans S3)).got hi
      have hdo := W.ok dd (List.mem_of_getElem? ed)
      walk_at "go"
      intro H4 S4
      walk_at "go"
      exact ⟨_, _, _, _, _, _, rfl, (S2.trans S3).trans S4⟩
    obtain ⟨b, c, d, e, g, j, rfl, S2⟩ := hP
    walk_at "go"
    intro H3 S3
    walk_at "go"
    refine iteDF (by omega) ?_
    walk_at "go"
    intro f H4 n4 S4 h4
    have S04 : Same H H4 := (S2.trans S3).trans S4
    have nf : H f = none := (S2.trans S3).free n4
    walk_at "go"
    refine fo_enum (xs := rs) (fun i σ H5 => ∃ b c e g j, σ = [some (.ref a), some (.ref p), some (.ref q), b, c, some (.ref f), e, g, j] ∧ Same H H5 ∧ H5 f = some (.lst (rs.take i))) (sql (S04 _ _ hq)) ⟨_, _, _, _, _, rfl, S04, h4⟩ (fun i σ H5 _ hP => ?_) (fun i x σ H5 z H6 hi hP n6 S6 h6 => ?_) (fun σ H5 hP => ?_)
    · obtain ⟨_, _, _, _, _, _, S5, _⟩ := hP
      exact sql (S5 _ _ hq)
    · obtain ⟨b, c, e, g, j, rfl, S5, h5⟩ := hP
      have S06 := S5.trans S6
      obtain ⟨y, r, rfl, er, hy⟩ := (tr.same S06).got hi
      have ro := W.ar r (List.mem_of_getElem? er)
      walk_at "go"
      refine c_is_arrow hy (S06 _ _ hp) (tn.same S06) W.ok ro (fun H7 S7 => ?_)
      walk_at "go"
      refine rd_slT (sqt (S7 _ _ hy)) cut2n (fun u H8 n8 S8 h8 => ?_)
      walk_at "go"
      have h5f : H8 f = some (.lst (rs.take i)) := S8 _ _ (S7 _ _ (S6 _ _ h5))
      have t5 : Tups H8 (rs.take i) ((R.take i).map av) := by
        rw [List.map_take]
        exact (tr.same (S06.trans (S7.trans S8))).take i
      refine ⟨_, rfl, ⟨_, sql h5f⟩, lc_newT (R.take i) av (fun r => [.int r.s, .int r.g]) h5f t5 (by rw [List.length_take]; omega) (fun x2 b2 hx2 hb2 H9 Nx S9 hNx => ?_) (fun D ys H9 n9 S9 h9 t9 => ?_)⟩
      · walk_at "go"
        refine rd_slT (sqt (S9 _ _ hb2)) cut2n (fun v H10 n10 S10 h10 => ?_)
        exact hNx v H10 S10 h10
      · refine rd_inT (S9 _ _ h8) h9 t9 rfl (fun ys hy => by obtain ⟨r2, _, rfl⟩ := List.mem_map.mp hy; rfl) ?_
        walk_at "go"
        refine iteDF (fun z => ?_) ?_
        · obtain ⟨r2, hr2, e2⟩ := List.mem_map.mp z
          obtain ⟨m, hm, em⟩ := List.getElem_of_mem hr2
          rw [List.length_take] at hm
          rw [List.getElem_take] at em
          have e3 : R[m]? = some r2 := by rw [List.getElem?_eq_getElem (by omega), em]
          have e4 := (List.cons.inj e2)
          have e5 : (r2.s : Int) = r.s := V.int.inj e4.1
          have e6 : (r2.g : Int) = r.g := V.int.inj (List.cons.inj e4.2).1
          have := W.di m i r2 r e3 er (by omega) (by omega)
          omega
        walk_at "go"
        refine rd_kApp (S9 _ _ h5f) (by rw [List.length_take]; omega) (fun H11 X11 h11 => ?_)
        refine ⟨_, _, _, _, _, rfl, Ex.same nf (S06.trans (S7.trans (S8.trans S9))) X11, ?_⟩
        rw [List.take_add_one, hi]
        exact h11
    obtain ⟨b, c, e, g, j, rfl, S5, h5⟩ := hP
    rw [List.take_length] at h5
    walk_at "go"
    refine fo_enum (xs := rs) (fun i σ H6 => ∃ b c e g j, σ = [some (.ref a), some (.ref p), some (.ref q), b, c, some (.ref f), e, g, j] ∧ Same H5 H6) (sql h5) ⟨_, _, _, _, _, rfl, Same.refl _⟩ (fun i σ H6 _ hP => ?_) (fun i x σ H6 z H7 hi hP n7 S7 h7 => ?_) (fun σ H6 hP => ?_)
    · obtain ⟨_, _, _, _, _, _, S6⟩ := hP
      exact sql (S6 _ _ h5)
    · obtain ⟨b, c, e, g, j, rfl, S6⟩ := hP
      have S07 := S5.trans (S6.trans S7)
      obtain ⟨y, r, rfl, er, hy⟩ := (tr.same S07).got hi
      have hrm := List.mem_of_getElem? er
      walk_at "go"
      rw [wz_anew]
      refine ited (fun c1 => ?_) (fun c1 => ?_)
      · walk_at "go"
        have h7f : H7 f = some (.lst rs) := S7 _ _ (S6 _ _ h5)
        refine ⟨_, rfl, ⟨_, sql h7f⟩, lc_fmT R av (fun o => some (.bl (decide ((o.s : Int) = r.g) && !decide (wz o.w = "anew")))) h7f (tr.same S07) (by omega) (fun x2 b2 hx2 hb2 H9 Nx S9 hNx => ?_) (fun D H9 n9 S9 h9 => ?_)⟩
        · walk_at "go"
          refine ited (fun c2 => ?_) (fun c2 => ?_)
          · rw [decide_eq_true c2] at hNx
            walk_at "go"
            exact hNx _ (Same.refl _)
          · rw [decide_eq_false c2] at hNx
            exact hNx _ (Same.refl _)
        · have e9 : R.filterMap (fun o => some (V.bl (decide ((o.s : Int) = r.g) && !decide (wz o.w = "anew")))) = (R.map fun o => (decide ((o.s : Int) = r.g) && !decide (wz o.w = "anew"))).map V.bl := by
            rw [List.map_map, ← List.filterMap_eq_map]
            rfl
          rw [e9] at h9
          walk_at "go"
          refine rd_any (sql h9) ?_
          walk_at "go"
          refine iteBF ?_ ?_
          · obtain ⟨o, ho, o1, o2⟩ := W.an r hrm c1
            have : ((R.map fun o => (decide ((o.s : Int) = r.g) && !decide (wz o.w = "anew"))).any fun b => b) = true := by
              rw [List.any_map, List.any_eq_true]
              refine ⟨o, ho, ?_⟩
              show (decide ((o.s : Int) = r.g) && !decide (wz o.w = "anew")) = true
              rw [wz_anew, decide_eq_true (by omega), decide_eq_false o2]
              rfl
            rw [this]
            rfl
          walk_at "go"
          exact ⟨_, _, _, _, _, rfl, S6.trans (S7.trans S9)⟩
      · walk_at "go"
        exact ⟨_, _, _, _, _, rfl, S6.trans S7⟩
    obtain ⟨b, c, e, g, j, rfl, S6⟩ := hP
    have S06 := S5.trans S6
    have h6f := S6 _ _ h5
    walk_at "go"
    refine c_reached (S06 _ _ hp) h6f (tn.same S06) (tr.same S06) W.ok W.ar (by omega) W.rc (fun D H7 S7 h7 => ?_)
    walk_at "go"
    refine fo_enum (xs := List.replicate N.length (.bl true)) (fun i σ H8 => ∃ b c e g j, σ = [some (.ref a), some (.ref p), some (.ref q), b, c, some (.ref f), e, g, j] ∧ Same H7 H8) (sql h7) ⟨_, _, _, _, _, rfl, Same.refl _⟩ (fun i σ H8 _ hP => ?_) (fun i x σ H8 z H9 hi hP n9 S9 h9 => ?_) (fun σ H8 hP => ?_)
    · obtain ⟨_, _, _, _, _, _, S8⟩ := hP
      exact sql (S8 _ _ h7)
    · obtain ⟨b, c, e, g, j, rfl, S8⟩ := hP
      obtain rfl : x = .bl true := by
        have := List.mem_of_getElem? hi
        exact List.eq_of_mem_replicate this
      walk_at "go"
      exact ⟨_, _, _, _, _, rfl, S8.trans S9⟩
    obtain ⟨b, c, e, g, j, rfl, S8⟩ := hP
    have S08 := S06.trans (S7.trans S8)
    have h8f := S8 _ _ (S7 _ _ h6f)
    have h8a := S08 _ _ ha
    have h8p := S08 _ _ hp
    walk_at "go"
    intro l H9 n9 S9 h9
    walk_at "go"
    intro H10 X10 h10
    walk_at "go"
    intro H11 X11 h11
    have h9a := S9 _ _ h8a
    have nl : l ≠ a := ne_of h9 h9a (by intro z; cases z)
    have nfa : f ≠ a := ne_of (S9 _ _ h8f) h9a (by intro z; cases z)
    have XX := X10.trans X11
    have mo : ∀ c xs, H9 c = some (.tup xs) → H11 c = some (.tup xs) := fun c xs hc => XX _ _ (ne_of hc h9a (by intro z; cases z)) hc
    exact h H11 ((Ex.of (S08.trans S9)).trans XX) ⟨dx, l, f, ns, rs, h11, XX _ _ nl h9, (tn.same (S08.trans S9)).mono mo, XX _ _ nfa (S9 _ _ h8f), (tr.same (S08.trans S9)).mono mo⟩
  exact ⟨_, T.glo 64, T.mkr 118, F.1⟩
theorem getDr {N : List Deed} {i : Nat} {d : Deed} (h : N[i]? = some d) : N.getD i .read = d := by
  rw [List.getD_eq_getElem?_getD, h]
  rfl
def sp_Way_arrows (K : PySem.W.Frag) : Sp := sp1 fun self H Q => ∃ a N R, self = .ref a ∧ IsW K H a N R ∧ ∀ b rs H', H b = none → Same H H' → H' b = some (.lst rs) → Tups H' rs (R.map av) → Q (.ref b) H'
theorem sc_Way_arrows : FnScope n_Way_arrows p_Way_arrows d_Way_arrows.scope := ⟨rfl, rfl, rfl, by decide +kernel, rfl, by decide +kernel, by decide +kernel⟩
theorem ok_Way_arrows (T : Tx K mg) : GM P w K mg base (He.ga K "Way") "arrows" 1 (sp_Way_arrows K) := by
  have F := mkR (P := P) (w := w) (base := base) T 28 (d := d_Way_arrows) rfl rfl sc_Way_arrows (fun _ _ _ _ _ _ us hl => match us, hl with | [_], _ => rfl) len1 (k := 0) (sp := (sp_Way_arrows K)) fun cdv A outer s H vs Q E hr h => by
    obtain ⟨self, rfl, h⟩ := h
    refine ⟨_, (pss_one (ps_ret (pe_ct (jc_list (K := K)) (T.free 79) (pa_cons (pe_f (pv 0) (T.cls 117) (T.noat 121)) pa_nil)))), ?_⟩
    obtain ⟨a, N, R, rfl, ⟨dx, pn, pa, ns, rs, h1, h2, h3, h4, h5⟩, h⟩ := h
    walk_at "go"
    intro l H1 n1 S1 hl
    exact h l rs H1 n1 S1 hl (h5.same S1)
  exact ⟨_, T.meth 122, F.1⟩
def sp_Way_getitem (K : PySem.W.Frag) : Sp := sp2 fun self node H Q => ∃ a N R n d, self = .ref a ∧ node = .int (n : Nat) ∧ IsW K H a N R ∧ N[n]? = some d ∧ ∀ b, H b = some (.tup (dv d)) → Q (.ref b) H
theorem sc_Way_getitem : FnScope n_Way_getitem p_Way_getitem d_Way_getitem.scope := ⟨rfl, rfl, rfl, by decide +kernel, rfl, by decide +kernel, by decide +kernel⟩
theorem ok_Way_getitem (T : Tx K mg) : GO P w K mg base (He.ga K "Way") "__getitem__" 3 (sp_Way_getitem K) := by
  have F := mkR (P := P) (w := w) (base := base) T 29 (d := d_Way_getitem) rfl rfl sc_Way_getitem (fun _ _ _ _ _ _ us hl => match us, hl with | [_, _], _ => rfl) len2 (k := 2) (sp := (sp_Way_getitem K)) fun cdv A outer s H vs Q E hr h => by
    obtain ⟨self, node, rfl, h⟩ := h
    refine ⟨_, (pss_cons (ps_if (pt_not (pt_val (pe_gf (ok_is_between (K := K) T) hr (pa_cons (pv 1) (pa_cons pe_int (pa_cons (pe_op op_sub (pe_cb (jc_ln (K := K)) (T.free 69) (pa_cons (pe_f (pv 0) (T.cls 117) (T.noat 120)) pa_nil)) pe_int) pa_nil)))))) (pss_one ps_never) pss_nil)
      (pss_one (ps_ret (pe_ix (jx_list (K := K)) (pe_f (pv 0) (T.cls 117) (T.noat 120)) (pv 1) (fun _ _ => rfl))))), ?_⟩
    obtain ⟨a, N, R, n, d, rfl, rfl, ⟨dx, pn, pa, ns, rs, h1, h2, h3, h4, h5⟩, hd, h⟩ := h
    have hz : ns.length = N.length := by rw [h3.len, List.length_map]
    have hn : n < N.length := (List.getElem?_eq_some_iff.mp hd).1
    obtain ⟨b, eb, hb⟩ := h3.give hd
    have eb2 := atI_of eb
    walk_at "go"
    refine iteBF (by rw [hz, decide_eq_true (show (0 : Int) ≤ n by omega), decide_eq_true (show (n : Int) ≤ N.length - 1 by omega)]; rfl) ?_
    walk_at "go"
    exact h b hb
  exact ⟨_, (T.own 124).1, (T.own 124).2.1, (T.own 124).2.2, F.1⟩
def sp_Way_len (K : PySem.W.Frag) : Sp := sp1 fun self H Q => ∃ a N R, self = .ref a ∧ IsW K H a N R ∧ Q (.int N.length) H
theorem sc_Way_len : FnScope n_Way_len p_Way_len d_Way_len.scope := ⟨rfl, rfl, rfl, by decide +kernel, rfl, by decide +kernel, by decide +kernel⟩
theorem ok_Way_len (T : Tx K mg) : GO P w K mg base (He.ga K "Way") "__len__" 1 (sp_Way_len K) := by
  have F := mkR (P := P) (w := w) (base := base) T 30 (d := d_Way_len) rfl rfl sc_Way_len (fun _ _ _ _ _ _ us hl => match us, hl with | [_], _ => rfl) len1 (k := 0) (sp := (sp_Way_len K)) fun cdv A outer s H vs Q E hr h => by
    obtain ⟨self, rfl, h⟩ := h
    refine ⟨_, (pss_one (ps_ret (pe_cb (jc_ln (K := K)) (T.free 69) (pa_cons (pe_f (pv 0) (T.cls 117) (T.noat 120)) pa_nil)))), ?_⟩
    obtain ⟨a, N, R, rfl, ⟨dx, pn, pa, ns, rs, h1, h2, h3, h4, h5⟩, h⟩ := h
    have hz : ns.length = N.length := by rw [h3.len, List.length_map]
    walk_at "go"
    rw [hz]
    exact h
  exact ⟨_, (T.own 126).1, (T.own 126).2.1, (T.own 126).2.2, F.1⟩
theorem c_wM {K : PySem.W.Frag} {H : Hp} {a : Addr} {N : List Deed} {R : List Arr} {m : Str} {G : Prop} (w : IsW K H a N R) (m1 : m ≠ "own_nodes") (m2 : m ≠ "own_arrows") (q : G) : kM (He.ga K "Way") m (.ref a) H G := by
  obtain ⟨dx, pn, pa, ns, rs, h1, _⟩ := w
  refine rd_kM h1 ?_ q
  rw [List.lookup_cons, (beq_eq_false_iff_ne.mpr m1), List.lookup_cons, (beq_eq_false_iff_ne.mpr m2)]
  rfl
local macro_rules | `(tactic| walk_at "call") => `(tactic| ((with_reducible apply c_wM); (· walk_at "iw"); (· decide); (· decide)))
theorem c_warrows {K : PySem.W.Frag} {H : Hp} {Q : VK} {E : XK} {a : Addr} {N : List Deed} {R : List Arr} (w : IsW K H a N R) (q : ∀ b rs H', H b = none → Same H H' → H' b = some (.lst rs) → Tups H' rs (R.map av) → Q (.ref b) H') : sp_Way_arrows K [.ref a] H Q E := ⟨_, rfl, a, N, R, rfl, w, q⟩
local macro_rules | `(tactic| walk_at "call") => `(tactic| ((with_reducible apply c_warrows); (· walk_at "iw")))
theorem c_wget {K : PySem.W.Frag} {H : Hp} {Q : VK} {a : Addr} {n : Nat} {d : Deed} {N : List Deed} {R : List Arr} (w : IsW K H a N R) (hd : N[n]? = some d) (q : ∀ b, H b = some (.tup (dv d)) → Q (.ref b) H) : kSubO (He.ga K "Way") (sp_Way_getitem K) (.ref a) (.int n) H Q := by
  obtain ⟨dx, pn, pa, ns, rs, h1, _⟩ := id w
  exact rd_kSubO h1 ⟨_, _, rfl, a, N, R, n, d, rfl, rfl, w, hd, q⟩
local macro_rules | `(tactic| walk_at "call") => `(tactic| ((with_reducible apply c_wget); (· walk_at "iw"); (· assumption)))
theorem c_wlen {K : PySem.W.Frag} {H : Hp} {Q : VK} {a : Addr} {N : List Deed} {R : List Arr} (w : IsW K H a N R) (hn : N.length ≤ 12) (q : Q (.int N.length) H) : rLenO (He.ga K "Way") (sp_Way_len K) E0 [.ref a] H Q := by
  obtain ⟨dx, pn, pa, ns, rs, h1, _⟩ := id w
  exact rd_LenO h1 ⟨_, rfl, a, N, R, rfl, w, _, rfl, by omega, by omega, q⟩
local macro_rules | `(tactic| walk_at "call") => `(tactic| ((with_reducible apply c_wlen); (· walk_at "iw"); (· assumption)))
def sp_Way_into (K : PySem.W.Frag) : Sp := sp2 fun self node H Q => ∃ a N R n, self = .ref a ∧ node = .int (n : Nat) ∧ IsW K H a N R ∧ R.length ≤ 40 ∧ ∀ b rs H', H b = none → Same H H' → H' b = some (.lst rs) → Tups H' rs ((AgM.into R n).map av) → Q (.ref b) H'
theorem sc_Way_into : FnScope n_Way_into p_Way_into d_Way_into.scope := ⟨rfl, rfl, rfl, by decide +kernel, rfl, by decide +kernel, by decide +kernel⟩
theorem ok_Way_into (T : Tx K mg) : GM P w K mg base (He.ga K "Way") "into" 1 (sp_Way_into K) := by
  have F := mkR (P := P) (w := w) (base := base) T 32 (d := d_Way_into) rfl rfl sc_Way_into (fun _ _ _ _ _ _ us hl => match us, hl with | [_, _], _ => rfl) len2 (k := 0) (sp := (sp_Way_into K)) fun cdv A outer s H vs Q E hr h => by
    obtain ⟨self, node, rfl, h⟩ := h
    refine ⟨_, (pss_one (ps_ret (pe_lc (own := [("arrow", 2)]) (g := gName 2) rfl sc_Way_into.nd (ji_list (K := K) (pe_f (pv 0) (T.cls 117) (T.noat 121))) (blkOk_by (own := [("arrow", 2)]) (N := n_Way_into) (sc := d_Way_into.scope) (by decide +kernel)) (fun _ _ _ _ _ => pg_name (i := 2) sc_Way_into.nd rfl (Or.inl rfl)) (fun _ _ _ _ _ => (pts_one (PW.pt (pw_and (pt_cmpR op_eq (pe_ix (jx_tup (K := K)) (pv 2) pe_int (fun _ _ => rfl)) (pv 1) (nomark _)) (pw_and1 (pt_cmpR op_ne (pe_ix (jx_tup (K := K)) (pv 2) pe_int (fun _ _ => rfl)) pe_str (nomark _))))))) (fun _ _ _ _ _ => (pv 2))))), ?_⟩
    obtain ⟨a, N, R, n, rfl, rfl, ⟨dx, pn, pa, ns, rs, h1, h2, h3, h4, h5⟩, hR, h⟩ := h
    walk_at "go"
    refine ⟨_, rfl, ⟨_, sql h4⟩, lc_filT R av (fun r => decide (r.g = n) && decide (r.w ≠ .anew)) h4 h5 (by omega) (fun r b hr hb H2 Nx S hNx => ?_) (fun D ys H' nD S' hD tD => h D ys H' nD S' hD tD)⟩
    have e1 : decide ((r.g : Int) = n) = decide (r.g = n) := by
      by_cases c : r.g = n
      · rw [decide_eq_true c, decide_eq_true (by omega)]
      · rw [decide_eq_false c, decide_eq_false (by omega)]
    have e2 : (!decide (wz r.w = "anew")) = decide (r.w ≠ .anew) := by
      rw [wz_anew]
      by_cases c : r.w = .anew
      · rw [decide_eq_true c, decide_eq_false (fun z => z c)]
        rfl
      · rw [decide_eq_false c, decide_eq_true c]
        rfl
    walk_at "go"
    rw [e1]
    refine iteb (fun c1 => ?_) (fun c1 => ?_)
    · walk_at "go"
      rw [e2]
      refine iteb (fun c2 => ?_) (fun c2 => ?_)
      · walk_at "go"
        rw [c1, c2] at hNx
        exact hNx _ (Same.refl _)
      · walk_at "go"
        rw [c1, c2] at hNx
        exact hNx _ (Same.refl _)
    · walk_at "go"
      rw [c1] at hNx
      exact hNx _ (Same.refl _)
  exact ⟨_, T.meth 128, F.1⟩
theorem c_into {K : PySem.W.Frag} {H : Hp} {Q : VK} {E : XK} {a : Addr} {n : Nat} {N : List Deed} {R : List Arr} (w : IsW K H a N R) (hR : R.length ≤ 40) (q : ∀ b rs H', H b = none → Same H H' → H' b = some (.lst rs) → Tups H' rs ((AgM.into R n).map av) → Q (.ref b) H') : sp_Way_into K [.ref a, .int n] H Q E := ⟨_, _, rfl, a, N, R, n, rfl, rfl, w, hR, q⟩
local macro_rules | `(tactic| walk_at "call") => `(tactic| ((with_reducible apply c_into); (· walk_at "iw"); (· assumption)))
def hit (s g : Nat) (r : Arr) : Bool := decide (r.s = s) && decide (r.g = g)
def sp_Way_arrow (K : PySem.W.Frag) : Sp := sp3 fun self start goal H Q => ∃ (a : Addr) (N : List Deed) (R : List Arr) (s g : Nat), self = .ref a ∧ start = .int s ∧ goal = .int g ∧ IsW K H a N R ∧ N.length ≤ 12 ∧ s < N.length ∧ g < N.length ∧ ∀ v H', Same H H' → (match R.find? (hit s g) with | none => v = .non | some r => ∃ b, v = .ref b ∧ H' b = some (.tup (av r))) → Q v H'
theorem sc_Way_arrow : FnScope n_Way_arrow p_Way_arrow d_Way_arrow.scope := ⟨rfl, rfl, rfl, by decide +kernel, rfl, by decide +kernel, by decide +kernel⟩
theorem ok_Way_arrow (T : Tx K mg) : GM P w K mg base (He.ga K "Way") "arrow" 3 (sp_Way_arrow K) := by
  have F := mkR (P := P) (w := w) (base := base) T 31 (d := d_Way_arrow) rfl rfl sc_Way_arrow (fun _ _ _ _ _ _ us hl => match us, hl with | [_, _, _], _ => rfl) len3 (k := 2) (sp := (sp_Way_arrow K)) fun cdv A outer s H vs Q E hr h => by
    obtain ⟨self, start, goal, rfl, h⟩ := h
    refine ⟨_, (pss_cons (ps_if (PW.pt (pw_or (pt_not (pt_val (pe_gf (ok_is_between (K := K) T) hr (pa_cons (pv 1) (pa_cons pe_int (pa_cons (pe_op op_sub (pe_gl (T.free 69) (ok_Way_len (K := K) T) hr (pa_cons (pv 0) pa_nil)) pe_int) pa_nil)))))) (pw_or1 (pt_not (pt_val (pe_gf (ok_is_between (K := K) T) hr (pa_cons (pv 2) (pa_cons pe_int (pa_cons (pe_op op_sub (pe_gl (T.free 69) (ok_Way_len (K := K) T) hr (pa_cons (pv 0) pa_nil)) pe_int) pa_nil))))))))) (pss_one (ps_ret pe_non)) pss_nil)
      (pss_cons (ps_for PassesOwn.never rfl (ji_list (K := K) (pe_f (pv 0) (T.cls 117) (T.noat 121))) (pg_name (i := 3) sc_Way_arrow.nd rfl (Or.inl rfl)) (pss_one (ps_if (pt_cmpR (jo_eqD (K := K) hr.units) (pe_slice (js_tup (K := K)) (pv 3) po_none (po_some pe_int)) (pe_tup (pa_cons (pv 1) (pa_cons (pv 2) pa_nil))) (nomark _)) (pss_one (ps_ret (pv 3))) pss_nil)))
      (pss_one (ps_ret pe_non)))), ?_⟩
    obtain ⟨a, N, R, s0, g0, rfl, rfl, rfl, w, hn, hs, hg, h⟩ := h
    walk_at "go"
    refine iteBF (by rw [decide_eq_true (show (0 : Int) ≤ s0 by omega), decide_eq_true (show (s0 : Int) ≤ N.length - 1 by omega)]; rfl) ?_
    walk_at "go"
    refine iteBF (by rw [decide_eq_true (show (0 : Int) ≤ g0 by omega), decide_eq_true (show (g0 : Int) ≤ N.length - 1 by omega)]; rfl) ?_
    obtain ⟨dx, pn, pa, ns, rs, h1, h2, h3, h4, h5⟩ := w
    walk_at "go"
    refine fo_list (xs := rs) (fun i σ H2 => ∃ x, σ = [some (.ref a), some (.int s0), some (.int g0), x] ∧ Same H H2 ∧ ∀ m r, m < i → R[m]? = some r → hit s0 g0 r = false) (sql h4) ⟨_, rfl, Same.refl _, fun m r z => by omega⟩ (fun i σ H2 _ hP => ?_) (fun i x σ H2 hi hP => ?_) (fun σ H2 hP => ?_)
    · obtain ⟨_, _, S2, _⟩ := hP
      exact sql (S2 _ _ h4)
    · obtain ⟨x, rfl, S2, hno⟩ := hP
      obtain ⟨b, r, rfl, er, hb⟩ := (h5.same S2).got hi
      walk_at "go"
      refine rd_slT (sqt hb) cut2n (fun u H3 n3 S3 h3 => ?_)
      walk_at "go"
      intro v H4 n4 S4 h4'
      refine rd_eqT (S4 _ _ h3) h4' rfl rfl ?_
      walk_at "go"
      have e1 : decide (cutV (av r) none (some 2) = [.int s0, .int g0]) = hit s0 g0 r := by
        show decide ([V.int r.s, V.int r.g] = [V.int s0, V.int g0]) = (decide (r.s = s0) && decide (r.g = g0))
        by_cases c : r.s = s0
        · by_cases c2 : r.g = g0
          · rw [c, c2]
            simp
          · rw [decide_eq_false c2, Bool.and_false, decide_eq_false]
            intro z
            have := V.int.inj (List.cons.inj (List.cons.inj z).2).1
            omega
        · rw [decide_eq_false c, Bool.false_and, decide_eq_false]
          intro z
          have := V.int.inj (List.cons.inj z).1
          omega
      rw [e1]
      refine iteb (fun c => ?_) (fun c => ?_)
      · walk_at "go"
        refine h _ H4 (S2.trans (S3.trans S4)) ?_
        have ef : R.find? (hit s0 g0) = some r := by
          rw [List.find?_eq_some_iff_getElem]
          refine ⟨c, i, (List.getElem?_eq_some_iff.mp er).1, (List.getElem?_eq_some_iff.mp er).2, fun j hj => ?_⟩
          rw [hno j _ hj (List.getElem?_eq_getElem (by have := (List.getElem?_eq_some_iff.mp er).1; omega))]
          rfl
        rw [ef]
        exact ⟨b, rfl, S4 _ _ (S3 _ _ hb)⟩
      · walk_at "go"
        refine ⟨_, rfl, S2.trans (S3.trans S4), fun m r2 hm er2 => ?_⟩
        rcases Nat.lt_succ_iff_lt_or_eq.mp hm with z | z
        · exact hno m r2 z er2
        · subst z
          rw [er] at er2
          cases er2
          exact c
    obtain ⟨x, rfl, S2, hno⟩ := hP
    walk_at "go"
    refine h _ H2 S2 ?_
    have hrz : rs.length = R.length := by rw [h5.len, List.length_map]
    have ef : R.find? (hit s0 g0) = none := by
      rw [List.find?_eq_none]
      intro r hr
      obtain ⟨m, hm, em⟩ := List.getElem_of_mem hr
      rw [hno m r (by omega) (by rw [List.getElem?_eq_getElem hm, em])]
      exact Bool.false_ne_true
    rw [ef]
  exact ⟨_, T.meth 127, F.1⟩
theorem c_warrow {K : PySem.W.Frag} {H : Hp} {Q : VK} {E : XK} {a : Addr} {s g : Nat} {N : List Deed} {R : List Arr} (w : IsW K H a N R) (hn : N.length ≤ 12) (hs : s < N.length) (hg : g < N.length) (q : ∀ v H', Same H H' → (match R.find? (hit s g) with | none => v = .non | some r => ∃ b, v = .ref b ∧ H' b = some (.tup (av r))) → Q v H') : sp_Way_arrow K [.ref a, .int s, .int g] H Q E := ⟨_, _, _, rfl, a, N, R, s, g, rfl, rfl, rfl, w, hn, hs, hg, q⟩
local macro_rules | `(tactic| walk_at "call") => `(tactic| ((with_reducible apply c_warrow); (· walk_at "iw"); (· assumption); (· assumption); (· assumption)))
def sp_check_way (K : PySem.W.Frag) : Sp := sp1 fun value H Q => ∃ a N R, value = .ref a ∧ IsW K H a N R ∧ Q .non H
theorem sc_check_way : FnScope n_check_way p_check_way d_check_way.scope := ⟨rfl, rfl, rfl, by decide +kernel, rfl, by decide +kernel, by decide +kernel⟩
theorem ok_check_way (T : Tx K mg) : GF P w K mg base "check_way" 1 (sp_check_way K) := by
  have F := mkR (P := P) (w := w) (base := base) T 33 (d := d_check_way) rfl rfl sc_check_way (fun _ _ _ _ _ _ us hl => match us, hl with | [_], _ => rfl) len1 (k := 0) (sp := (sp_check_way K)) fun cdv A outer s H vs Q E hr h => by
    obtain ⟨value, rfl, h⟩ := h
    refine ⟨_, (pss_one (ps_if (pt_not (pt_val (pe_cb (jc_isi (K := K)) (T.free 70) (pa_cons (pv 0) (pa_cons (pe_gref (T.glo 64)) pa_nil))))) (pss_one ps_never) pss_nil)), ?_⟩
    obtain ⟨a, N, R, rfl, w, h⟩ := h
    have kI : C8.InsC K (He.ga K "Way") := (T.isi 119 117)
    obtain ⟨dx, pn, pa, ns, rs, h1, h2, h3, h4, h5⟩ := w
    walk_at "go"
    exact h
  exact ⟨_, T.glo 17, F.2, F.1⟩
theorem c_check_way {K : PySem.W.Frag} {H : Hp} {Q : VK} {E : XK} {a : Addr} {N : List Deed} {R : List Arr} (w : IsW K H a N R) (q : Q .non H) : sp_check_way K [.ref a] H Q E := ⟨_, rfl, a, N, R, rfl, w, q⟩
local macro_rules | `(tactic| walk_at "call") => `(tactic| ((with_reducible apply c_check_way); (· walk_at "iw")))
def sp_smeared : Sp := sp2 fun bits many H Q => ∃ b n L : Nat, bits = .int b ∧ many = .int n ∧ 1 ≤ n ∧ b < 2 ^ L ∧ L + n + n ≤ 134217728 ∧ Q (.int (smear b n : Nat)) H
theorem sc_smeared : FnScope n_smeared p_smeared d_smeared.scope := ⟨rfl, rfl, rfl, by decide +kernel, rfl, by decide +kernel, by decide +kernel⟩
theorem ok_smeared (T : Tx K mg) : GF P w K mg base "smeared" 1 sp_smeared := by
  have F := mkR (P := P) (w := w) (base := base) T 34 (d := d_smeared) rfl rfl sc_smeared (fun _ _ _ _ _ _ us hl => match us, hl with | [_, _], _ => rfl) len2 (k := 0) (sp := sp_smeared) fun cdv A outer s H vs Q E hr h => by
    obtain ⟨bits, many, rfl, h⟩ := h
    refine ⟨_, (pss_cons (ps_set (i := 2) sc_smeared.nd rfl (Or.inl rfl) pe_int)
      (pss_cons (ps_while PassesOwn.never (pt_cmpR op_lt (pv 2) (pv 1) (nomark _)) (pss_cons (ps_set (i := 3) sc_smeared.nd rfl (Or.inl rfl) (pe_ifExp (pt_cmpR op_lt (pv 2) (pe_op op_sub (pv 1) (pv 2)) (nomark _)) (pv 2) (pe_op op_sub (pv 1) (pv 2))))
      (pss_cons (ps_set (i := 0) sc_smeared.nd rfl (Or.inl rfl) (pe_op op_or (pv 0) (pe_op jo_shl (pv 0) (pv 3))))
      (pss_one (ps_set (i := 2) sc_smeared.nd rfl (Or.inl rfl) (pe_op op_add (pv 2) (pv 3)))))))
      (pss_one (ps_ret (pv 0))))), ?_⟩
    obtain ⟨b, n, L, rfl, rfl, hn, hb, hL, h⟩ := h
    walk_at "go"
    refine rd_while (fun m σ H2 => H2 = H ∧ ∃ d x, σ = [some (.int (smear b d : Nat)), some (.int n), some (.int (d : Nat)), x] ∧ 1 ≤ d ∧ d ≤ n ∧ m = n - d) ⟨n - 1, rfl, 1, _, by rw [smear_one]; rfl, Nat.le_refl _, hn, rfl⟩ (fun m σ H2 hW => ?_)
    obtain ⟨rfl, d, x, rfl, d1, d2, rfl⟩ := hW
    walk_at "go"
    refine ited (fun c => ?_) (fun c => ?_)
    · have hlt : d < n := by omega
      refine rd_kWh ?_
      have fin : ∀ k : Nat, 1 ≤ k → k ≤ d → d + k ≤ n → ∃ m', m' < n - d ∧ H2 = H2 ∧ ∃ d' x, [some (V.int ((smear b d ||| smear b d <<< k : Nat) : Int)), some (.int n), some (.int ((d : Nat) + (k : Nat) : Int)), some (.int (k : Nat))] = [some (.int (smear b d' : Nat)), some (.int n), some (.int (d' : Nat)), x] ∧ 1 ≤ d' ∧ d' ≤ n ∧ m' = n - d' := fun k k1 k2 k3 =>
        ⟨n - (d + k), by omega, rfl, d + k, _, by rw [smear_step b d k k2, Int.natCast_add], by omega, k3, rfl⟩
      walk_at "go"
      refine ited (fun c2 => ?_) (fun c2 => ?_)
      · walk_at "go"
        refine rd_shl (smear_lt hb d) (by omega) ?_
        refine rd_orN ?_
        walk_at "go"
        exact fin d d1 (Nat.le_refl _) (by omega)
      · walk_at "go"
        rw [show ((n : Int) - (d : Int)) = ((n - d : Nat) : Int) by omega]
        walk_at "go"
        refine rd_shl (smear_lt hb d) (by omega) ?_
        refine rd_orN ?_
        walk_at "go"
        exact fin (n - d) (by omega) (by omega) (by omega)
    · have e : d = n := by omega
      subst e
      walk_at "go"
      exact h
  exact ⟨_, T.glo 18, F.2, F.1⟩
theorem c_smeared {H : Hp} {Q : VK} {E : XK} {b n L : Nat} (hn : 1 ≤ n) (hb : b < 2 ^ L) (hL : L + n + n ≤ 134217728) (q : Q (.int (smear b n : Nat)) H) : sp_smeared [.int b, .int n] H Q E := ⟨_, _, rfl, b, n, L, rfl, rfl, hn, hb, hL, q⟩
theorem b2i_n (b : Bool) : PyProof.Rows.b2i b = ((AgM.b2n b : Nat) : Int) := by cases b <;> rfl
def sp_passed : Sp := sp4 fun bits least most after H Q => ∃ (b a : Nat) (l m : Int), bits = .int b ∧ least = .int l ∧ most = .int m ∧ after = .int a ∧ 1 ≤ a ∧ a ≤ 2000 ∧ b < 2 ^ a ∧ 1 ≤ l ∧ l ≤ m ∧ Q (.int (AgM.passed b l m a : Nat)) H
theorem sc_passed : FnScope n_passed p_passed d_passed.scope := ⟨rfl, rfl, rfl, by decide +kernel, rfl, by decide +kernel, by decide +kernel⟩
theorem ok_passed (T : Tx K mg) : GF P w K mg base "passed" 2 sp_passed := by
  have F := mkR (P := P) (w := w) (base := base) T 35 (d := d_passed) rfl rfl sc_passed (fun _ _ _ _ _ _ us hl => match us, hl with | [_, _, _, _], _ => rfl) len4 (k := 1) (sp := sp_passed) fun cdv A outer s H vs Q E hr h => by
    obtain ⟨bits, least, most, after, rfl, h⟩ := h
    refine ⟨_, (pss_cons (ps_set (i := 4) sc_passed.nd rfl (Or.inl rfl) (pe_ifExp (PW.pt (pw_or (pt_cmpR op_isN' (pv 2) pe_non (nomark _)) (pw_or1 (pt_cmpR op_gt (pv 2) (pv 3) (nomark _))))) (pv 3) (pv 2)))
      (pss_cons (ps_if (pt_cmpR op_gt (pv 1) (pv 3) (nomark _)) (pss_one (ps_ret (pe_ifExp (pt_cmpR op_ne (pv 0) pe_int (nomark _)) pe_int pe_int))) pss_nil)
      (pss_cons (ps_set (i := 5) sc_passed.nd rfl (Or.inl rfl) (pe_op jo_shl (pe_gf (ok_smeared (K := K) T) hr (pa_cons (pv 0) (pa_cons (pe_op op_add (pe_op op_sub (pv 4) (pv 1)) pe_int) pa_nil))) (pv 1)))
      (pss_cons (ps_set (i := 6) sc_passed.nd rfl (Or.inl rfl) (pe_op op_mod (pv 5) (pe_op jo_shl pe_int (pv 3))))
      (pss_one (ps_ret (pe_op op_or (pv 6) (pe_ct jc_intb (T.free 73) (pa_cons (pe_or (pe_cmpR op_ne (pe_op op_shr (pv 5) (pv 3)) pe_int (nomark _)) (pe_one (pe_and (pe_cmpR op_isN' (pv 2) pe_non (nomark _)) (pe_one (pe_cmpR op_ne (pv 0) pe_int (nomark _)))))) pa_nil))))))))), ?_⟩
    obtain ⟨b, a, l, m, rfl, rfl, rfl, rfl, a1, a2, hb, l1, l2, h⟩ := h
    walk_at "go"
    refine ited (fun c => ?_) (fun c => ?_)
    · walk_at "go"
      refine ited (fun c1 => ?_) (fun c1 => ?_)
      · walk_at "go"
        have e : AgM.passed b l m a = AgM.b2n (decide (b ≠ 0)) := by
          unfold AgM.passed
          rw [if_pos c1]
        rw [e] at h
        refine itedn (fun c2 => ?_) (fun c2 => ?_)
        · walk_at "go"
          rw [decide_eq_true (show b ≠ 0 by omega)] at h
          exact h
        · walk_at "go"
          rw [decide_eq_false (show ¬ b ≠ 0 by omega)] at h
          exact h
      · walk_at "go"
        obtain ⟨n, en⟩ : ∃ n : Nat, ((a : Int) - l + 1 : Int) = n := ⟨((a : Int) - l + 1).toNat, by omega⟩
        obtain ⟨k, ek⟩ : ∃ k : Nat, l = (k : Int) := ⟨l.toNat, by omega⟩
        rw [en]
        refine c_smeared (L := a) (by omega) hb (by omega) ?_
        subst ek
        have hsl := smear_lt hb n
        walk_at "go"
        refine rd_shl hsl (by omega) ?_
        walk_at "go"
        refine rd_shl (b := 1) (n := 1) (by decide) (by omega) ?_
        have e2 : (1 <<< a : Nat) = 2 ^ a := by rw [Nat.shiftLeft_eq, Nat.one_mul]
        refine rd_I (by rw [e2]; exact Int.natCast_pos.mpr (Nat.two_pow_pos a)) ?_
        walk_at "go"
        refine rd_I (Int.natCast_nonneg a) ?_
        have e : AgM.passed b (k : Int) m a = (smear b n <<< k) % 2 ^ a ||| AgM.b2n (decide ((smear b n <<< k) >>> a ≠ 0)) := by
          unfold AgM.passed
          rw [if_neg (by omega)]
          show (smear b ((if m > (a : Int) then (a : Int) else m) - (k : Int) + 1).toNat <<< (k : Int).toNat) % 2 ^ a ||| AgM.b2n (decide ((smear b ((if m > (a : Int) then (a : Int) else m) - (k : Int) + 1).toNat <<< (k : Int).toNat) >>> a ≠ 0)) = _
          rw [if_pos c, en, Int.toNat_natCast, Int.toNat_natCast]
        rw [e] at h
        have e3 : ((smear b n <<< k : Nat) : Int) % ((1 <<< a : Nat) : Int) = (((smear b n <<< k) % 2 ^ a : Nat) : Int) := by rw [e2]; rfl
        have e4 : ((smear b n <<< k : Nat) : Int) / 2 ^ (a : Int).toNat = (((smear b n <<< k) >>> a : Nat) : Int) := by
          rw [Nat.shiftRight_eq_div_pow, Int.toNat_natCast, Int.natCast_ediv, Int.natCast_pow]
          rfl
        rw [e3, e4]
        walk_at "go"
        refine itedn (fun c3 => ?_) (fun c3 => ?_)
        · walk_at "go"
          rw [b2i_n, bitOrN]
          rw [decide_eq_true (show (smear b n <<< k) >>> a ≠ 0 by omega)] at h
          exact h
        · walk_at "go"
          rw [b2i_n, bitOrN]
          rw [decide_eq_false (show ¬ (smear b n <<< k) >>> a ≠ 0 by omega)] at h
          exact h
    · walk_at "go"
      refine ited (fun c1 => ?_) (fun c1 => ?_)
      · walk_at "go"
        have e : AgM.passed b l m a = AgM.b2n (decide (b ≠ 0)) := by
          unfold AgM.passed
          rw [if_pos c1]
        rw [e] at h
        refine itedn (fun c2 => ?_) (fun c2 => ?_)
        · walk_at "go"
          rw [decide_eq_true (show b ≠ 0 by omega)] at h
          exact h
        · walk_at "go"
          rw [decide_eq_false (show ¬ b ≠ 0 by omega)] at h
          exact h
      · walk_at "go"
        obtain ⟨n, en⟩ : ∃ n : Nat, (m - l + 1 : Int) = n := ⟨(m - l + 1).toNat, by omega⟩
        obtain ⟨k, ek⟩ : ∃ k : Nat, l = (k : Int) := ⟨l.toNat, by omega⟩
        rw [en]
        refine c_smeared (L := a) (by omega) hb (by omega) ?_
        subst ek
        have hsl := smear_lt hb n
        walk_at "go"
        refine rd_shl hsl (by omega) ?_
        walk_at "go"
        refine rd_shl (b := 1) (n := 1) (by decide) (by omega) ?_
        have e2 : (1 <<< a : Nat) = 2 ^ a := by rw [Nat.shiftLeft_eq, Nat.one_mul]
        refine rd_I (by rw [e2]; exact Int.natCast_pos.mpr (Nat.two_pow_pos a)) ?_
        walk_at "go"
        refine rd_I (Int.natCast_nonneg a) ?_
        have e : AgM.passed b (k : Int) m a = (smear b n <<< k) % 2 ^ a ||| AgM.b2n (decide ((smear b n <<< k) >>> a ≠ 0)) := by
          unfold AgM.passed
          rw [if_neg (by omega)]
          show (smear b ((if m > (a : Int) then (a : Int) else m) - (k : Int) + 1).toNat <<< (k : Int).toNat) % 2 ^ a ||| AgM.b2n (decide ((smear b ((if m > (a : Int) then (a : Int) else m) - (k : Int) + 1).toNat <<< (k : Int).toNat) >>> a ≠ 0)) = _
          rw [if_neg c, en, Int.toNat_natCast, Int.toNat_natCast]
        rw [e] at h
        have e3 : ((smear b n <<< k : Nat) : Int) % ((1 <<< a : Nat) : Int) = (((smear b n <<< k) % 2 ^ a : Nat) : Int) := by rw [e2]; rfl
        have e4 : ((smear b n <<< k : Nat) : Int) / 2 ^ (a : Int).toNat = (((smear b n <<< k) >>> a : Nat) : Int) := by
          rw [Nat.shiftRight_eq_div_pow, Int.toNat_natCast, Int.natCast_ediv, Int.natCast_pow]
          rfl
        rw [e3, e4]
        walk_at "go"
        refine itedn (fun c3 => ?_) (fun c3 => ?_)
        · walk_at "go"
          rw [b2i_n, bitOrN]
          rw [decide_eq_true (show (smear b n <<< k) >>> a ≠ 0 by omega)] at h
          exact h
        · walk_at "go"
          rw [b2i_n, bitOrN]
          rw [decide_eq_false (show ¬ (smear b n <<< k) >>> a ≠ 0 by omega)] at h
          exact h
  exact ⟨_, T.glo 19, F.2, F.1⟩
theorem c_passed {H : Hp} {Q : VK} {E : XK} {b a : Nat} {l m : Int} (a1 : 1 ≤ a) (a2 : a ≤ 2000) (hb : b < 2 ^ a) (l1 : 1 ≤ l) (l2 : l ≤ m) (q : Q (.int (AgM.passed b l m a : Nat)) H) : sp_passed [.int b, .int l, .int m, .int a] H Q E := ⟨_, _, _, _, rfl, b, a, l, m, rfl, rfl, rfl, rfl, a1, a2, hb, l1, l2, q⟩
def nv (n : Nat) : V := .int (n : Int)
theorem nv_at {bs : List Nat} {i : Nat} (h : i < bs.length) : atI (bs.map nv) (i : Int) = some (.int ((bs.getD i 0 : Nat) : Int)) := by
  refine atI_nat ?_
  rw [List.getElem?_map, List.getElem?_eq_getElem h, List.getD_eq_getElem?_getD, List.getElem?_eq_getElem h]
  rfl
theorem into_ok {N : List Deed} {R : List Arr} {n : Nat} (W : WOk N R) {r : Arr} (h : r ∈ AgM.into R n) : AOk N r ∧ r ∈ R ∧ r.g = n ∧ r.w ≠ .anew := by
  obtain ⟨h1, h2⟩ := List.mem_filter.mp h
  rw [Bool.and_eq_true] at h2
  exact ⟨W.ar r h1, h1, of_decide_eq_true h2.1, of_decide_eq_true h2.2⟩
theorem into_len {R : List Arr} {n : Nat} : (AgM.into R n).length ≤ R.length := List.length_filter_le _ _
theorem foldl_snoc {α β : Type} (f : β → α → β) (x : β) (l : List α) {i : Nat} {y : α} (h : l[i]? = some y) : (l.take (i + 1)).foldl f x = f ((l.take i).foldl f x) y := by
  rw [List.take_add_one, h, List.foldl_append]
  rfl
def sp_next_bits (K : PySem.W.Frag) : Sp := sp4 fun way after bits node H Q => ∃ (a p : Addr) (N : List Deed) (R : List Arr) (af n : Nat) (bs : List Nat), way = .ref a ∧ after = .int af ∧ bits = .ref p ∧ node = .int n ∧ IsW K H a N R ∧ WOk N R ∧ 1 ≤ af ∧ af ≤ 2000 ∧ H p = some (.lst (bs.map nv)) ∧ bs.length = N.length ∧ n < N.length ∧ AgM.AllLt bs (2 ^ af) ∧ ∀ H', Same H H' → Q (.int (AgM.nextBits N R af bs n : Nat)) H'
theorem sc_next_bits : FnScope n_next_bits p_next_bits d_next_bits.scope := ⟨rfl, rfl, rfl, by decide +kernel, rfl, by decide +kernel, by decide +kernel⟩
theorem ok_next_bits (T : Tx K mg) : GF P w K mg base "next_bits" 5 (sp_next_bits K) := by
  have F := mkR (P := P) (w := w) (base := base) T 36 (d := d_next_bits) rfl rfl sc_next_bits (fun _ _ _ _ _ _ us hl => match us, hl with | [_, _, _, _], _ => rfl) len4 (k := 4) (sp := (sp_next_bits K)) fun cdv A outer s H vs Q E hr h => by
    obtain ⟨way, after, bits, node, rfl, h⟩ := h
    refine ⟨_, (pss_cons (ps_set (i := 4) sc_next_bits.nd rfl (Or.inl rfl) (pe_ix (jx_list (K := K)) (pv 2) (pv 3) (fun _ _ => rfl)))
      (pss_cons (ps_for PassesOwn.never rfl (ji_list (K := K) (pe_gm (pv 0) (T.cls 117) (ok_Way_into (K := K) T) hr (pa_cons (pv 3) pa_nil))) (jg_tup (K := K) (n := 5) rfl (pgs_cons (pg_name (i := 5) sc_next_bits.nd rfl (Or.inl rfl)) (pgs_cons (pg_name (i := 6) sc_next_bits.nd rfl (Or.inl rfl)) (pgs_cons (pg_name (i := 7) sc_next_bits.nd rfl (Or.inl rfl)) (pgs_cons (pg_name (i := 8) sc_next_bits.nd rfl (Or.inl rfl)) (pgs_cons (pg_name (i := 9) sc_next_bits.nd rfl (Or.inl rfl)) pgs_nil)))))) (pss_one (ps_if (pt_cmpR op_ne (pe_ix (jx_tup (K := K)) (pe_gi (pv 0) (pv 5) (ok_Way_getitem (K := K) T) hr) pe_int (fun _ _ => rfl)) pe_str (nomark _)) (pss_one (ps_set (i := 4) sc_next_bits.nd rfl (Or.inl rfl) (pe_op op_or (pv 4) pe_int))) (pss_one (ps_set (i := 4) sc_next_bits.nd rfl (Or.inl rfl) (pe_op op_or (pv 4) (pe_gf (ok_passed (K := K) T) hr (pa_cons (pe_ix (jx_list (K := K)) (pv 2) (pv 5) (fun _ _ => rfl)) (pa_cons (pv 7) (pa_cons (pv 8) (pa_cons (pv 1) pa_nil)))))))))))
      (pss_one (ps_ret (pv 4))))), ?_⟩
    obtain ⟨a, p, N, R, af, n, bs, rfl, rfl, rfl, rfl, w, W, a1, a2, hp, hl, hn, hb, h⟩ := h
    have hR := W.a1
    have e0 := nv_at (bs := bs) (i := n) (by omega)
    walk_at "go"
    intro q rs H1 n1 S1 h1 t1
    have hz : rs.length = (AgM.into R n).length := by rw [t1.len, List.length_map]
    refine fo_list (xs := rs) (fun i σ H2 => ∃ b c d e g, σ = [some (.ref a), some (.int af), some (.ref p), some (.int n), some (.int (((AgM.into R n).take i).foldl (AgM.bitStep N af bs) (bs.getD n 0) : Nat)), b, c, d, e, g] ∧ Same H H2 ∧ Same H1 H2) (sql h1) ⟨_, _, _, _, _, rfl, S1, Same.refl _⟩ (fun i σ H2 _ hP => ?_) (fun i x σ H2 hi hP => ?_) (fun σ H2 hP => ?_)
    · obtain ⟨_, _, _, _, _, _, _, S2⟩ := hP
      exact sql (S2 _ _ h1)
    · obtain ⟨b, c, d, e, g, rfl, S2, S12⟩ := hP
      obtain ⟨y, r, rfl, er, hy⟩ := (t1.same S12).got hi
      obtain ⟨⟨o1, o2, o3, o4, o5, o6⟩, _, _, _⟩ := into_ok W (List.mem_of_getElem? er)
      obtain ⟨dd, ed, gd⟩ := getD_at o1
      have e1 := at0 dd
      have e2 := nv_at (bs := bs) (i := r.s) (by omega)
      have hd := dz_read dd
      walk_at "go"
      intro b1 hb1
      walk_at "go"
      rw [hd]
      refine itedn (fun c1 => ?_) (fun c1 => ?_)
      · walk_at "go"
        rw [show (1 : Int) = ((1 : Nat) : Int) from rfl, bitOrN]
        have e9 : ∀ z, AgM.bitStep N af bs z r = z ||| 1 := fun z => by
          unfold AgM.bitStep
          rw [if_pos (by rw [gd]; exact c1)]
        rw [foldl_snoc _ _ _ er, e9]
        exact ⟨_, _, _, _, _, rfl, S2, S12⟩
      · walk_at "go"
        refine c_passed a1 a2 (hb r.s) o3 o4 ?_
        walk_at "go"
        rw [bitOrN]
        have e9 : ∀ z, AgM.bitStep N af bs z r = z ||| AgM.passed (bs.getD r.s 0) r.l r.m af := fun z => by
          unfold AgM.bitStep
          rw [if_neg (by rw [gd]; exact fun z => z c1)]
        rw [foldl_snoc _ _ _ er, e9]
        exact ⟨_, _, _, _, _, rfl, S2, S12⟩
    obtain ⟨b, c, d, e, g, rfl, S2, S12⟩ := hP
    walk_at "go"
    rw [hz, List.take_length] at *
    exact h H2 S2
  exact ⟨_, T.glo 20, F.2, F.1⟩
theorem c_next_bits {K : PySem.W.Frag} {H : Hp} {Q : VK} {E : XK} {a p : Addr} {N : List Deed} {R : List Arr} {af n : Nat} {bs : List Nat} (w : IsW K H a N R) (W : WOk N R) (a1 : 1 ≤ af) (a2 : af ≤ 2000) (hp : H p = some (.lst (bs.map nv))) (hl : bs.length = N.length) (hn : n < N.length) (hb : AgM.AllLt bs (2 ^ af))
    (q : ∀ H', Same H H' → Q (.int (AgM.nextBits N R af bs n : Nat)) H') : sp_next_bits K [.ref a, .int af, .ref p, .int n] H Q E := ⟨_, _, _, _, rfl, a, p, N, R, af, n, bs, rfl, rfl, rfl, rfl, w, W, a1, a2, hp, hl, hn, hb, q⟩
theorem range_fm {N : List Deed} : (List.range N.length).filterMap (fun n => if N.getD n .make = .read then some (nv n) else none) = (AgM.readsOf N).map nv := by
  unfold AgM.readsOf
  rw [← List.filterMap_eq_map, ← List.filterMap_eq_filter, List.filterMap_filterMap]
  congr 1
  funext n
  by_cases c : N.getD n .make = .read
  · rw [if_pos c]
    rw [List.getD_eq_getElem?_getD] at c
    simp [Option.guard, c]
  · rw [if_neg c]
    rw [List.getD_eq_getElem?_getD] at c
    simp [Option.guard, c]
theorem sum_le {B : Nat} : ∀ {bs : List Nat}, AgM.AllLt bs B → bs.sum ≤ bs.length * B
  | [], _ => Nat.zero_le _
  | x :: r, h => by
    have h0 : x < B := h 0
    have ih := sum_le (bs := r) fun k => h (k + 1)
    rw [List.sum_cons, List.length_cons, Nat.succ_mul]
    omega
theorem nv_set (bs : List Nat) (n v : Nat) : (bs.map nv).set n (.int (v : Int)) = (bs.set n v).map nv := by
  rw [List.map_set]
  rfl
theorem getDm {N : List Deed} {i : Nat} {d : Deed} (h : N[i]? = some d) : N.getD i .make = d := by
  rw [List.getD_eq_getElem?_getD, h]
  rfl
def sp_bits_of (K : PySem.W.Frag) : Sp := sp2 fun way after H Q => ∃ (a : Addr) (N : List Deed) (R : List Arr) (af : Nat), way = .ref a ∧ after = .int af ∧ IsW K H a N R ∧ WOk N R ∧ 1 ≤ af ∧ af ≤ 2000 ∧ ∀ p r H', Same H H' → H' p = some (.lst (List.map nv r)) → AgM.IsBits N R af r → Q (.ref p) H'
theorem sc_bits_of : FnScope n_bits_of p_bits_of d_bits_of.scope := ⟨rfl, rfl, rfl, by decide +kernel, rfl, by decide +kernel, by decide +kernel⟩
theorem ok_bits_of (T : Tx K mg) : GF P w K mg base "bits_of" 6 (sp_bits_of K) := by
  have F := mkR (P := P) (w := w) (base := base) T 37 (d := d_bits_of) rfl rfl sc_bits_of (fun _ _ _ _ _ _ us hl => match us, hl with | [_, _], _ => rfl) len2 (k := 5) (sp := (sp_bits_of K)) fun cdv A outer s H vs Q E hr h => by
    obtain ⟨way, after, rfl, h⟩ := h
    refine ⟨_, (pss_cons (ps_setLc (i := 2) (own := [("node", 5)]) (g := gName 5) rfl sc_bits_of.nd rfl rfl (sw_true rfl rfl rfl (by decide +kernel)) (pi_range1 (by rfl) (T.free 71) (pa_cons (pe_gl (T.free 69) (ok_Way_len (K := K) T) hr (pa_cons (pv 0) pa_nil)) pa_nil)) (blkOk_by (own := [("node", 5)]) (N := n_bits_of) (sc := d_bits_of.scope) (by decide +kernel)) (fun _ _ _ _ _ => pg_name (i := 5) sc_bits_of.nd rfl (Or.inl rfl)) (fun _ _ _ _ _ => (pts_one (pt_cmpR op_eq (pe_ix (jx_tup (K := K)) (pe_gi (pv 0) (pv 5) (ok_Way_getitem (K := K) T) hr) pe_int (fun _ _ => rfl)) pe_str (nomark _)))) (fun _ _ _ _ _ => (pv 5)))
      (pss_cons (ps_setLc (i := 3) (own := [("node", 5)]) (g := gName 5) (tt := tYes) rfl sc_bits_of.nd rfl rfl (sw_true rfl rfl rfl (by decide +kernel)) (pi_range1 (by rfl) (T.free 71) (pa_cons (pe_gl (T.free 69) (ok_Way_len (K := K) T) hr (pa_cons (pv 0) pa_nil)) pa_nil)) (blkOk_by (own := [("node", 5)]) (N := n_bits_of) (sc := d_bits_of.scope) (by decide +kernel)) (fun _ _ _ _ _ => pg_name (i := 5) sc_bits_of.nd rfl (Or.inl rfl)) (fun _ _ _ _ _ => pts_nil) (fun _ _ _ _ _ => pe_int))
      (pss_cons (ps_set (i := 4) sc_bits_of.nd rfl (Or.inl rfl) pe_bl)
      (pss_cons (ps_while PassesOwn.never (pt_val (pv 4)) (pss_cons (ps_set (i := 4) sc_bits_of.nd rfl (Or.inl rfl) pe_bl)
      (pss_one (ps_for PassesOwn.never rfl (ji_list (K := K) (pv 2)) (pg_name (i := 5) sc_bits_of.nd rfl (Or.inl rfl)) (pss_cons (ps_set (i := 6) sc_bits_of.nd rfl (Or.inl rfl) (pe_gf (ok_next_bits (K := K) T) hr (pa_cons (pv 0) (pa_cons (pv 1) (pa_cons (pv 3) (pa_cons (pv 5) pa_nil))))))
      (pss_one (ps_if (pt_cmpR op_ne (pv 6) (pe_ix (jx_list (K := K)) (pv 3) (pv 5) (fun _ _ => rfl)) (nomark _)) (pss_cons (ps_asg (pv 6) (pg_sub (pv 3) (pv 5) set_list (by intro _; rfl)))
      (pss_one (ps_set (i := 4) sc_bits_of.nd rfl (Or.inl rfl) pe_bl))) pss_nil)))))))
      (pss_one (ps_ret (pv 3))))))), ?_⟩
    obtain ⟨a, N, R, af, rfl, rfl, w, W, a1, a2, h⟩ := h
    have hR := W.a1
    have hn := W.n2
    walk_at "go"
    refine ⟨_, rfl, by omega, by omega, ?_⟩
    rw [Int.toNat_natCast]
    refine lc_fmR (fun n => if N.getD n .make = .read then some (nv n) else none) (by omega) (fun i hi H2 Nx S hNx => ?_) (fun q H1 n1 S1 h1 => ?_)
    · obtain ⟨d, ed, gd⟩ := getD_at hi
      have e0 := at0 d
      rw [getDm ed] at hNx
      rw [Int.zero_add]
      walk_at "go"
      intro b hb
      walk_at "go"
      rw [dz_read]
      refine ited (fun c => ?_) (fun c => ?_)
      · walk_at "go"
        rw [if_pos c] at hNx
        exact hNx _ (Same.refl _)
      · rw [if_neg c] at hNx
        walk_at "go"
        exact hNx _ (Same.refl _)
    rw [range_fm] at h1
    walk_at "go"
    refine ⟨_, rfl, by omega, by omega, ?_⟩
    rw [Int.toNat_natCast]
    refine lc_fmR (fun n => some (nv 0)) (by omega) (fun i hi H2 Nx S hNx => ?_) (fun p H2 n2 S2 h2 => ?_)
    · walk_at "go"
      exact hNx _ (Same.refl _)
    have ez : (List.range N.length).filterMap (fun _ => some (nv 0)) = (AgM.zeros N.length).map nv := by
      unfold AgM.zeros
      rw [List.map_map, ← List.filterMap_eq_map]
      rfl
    rw [ez] at h2
    have hz0 : (AgM.zeros N.length).length = N.length := by
      unfold AgM.zeros
      rw [List.length_map, List.length_range]
    walk_at "go"
    have n2' : H p = none := S1.free n2
    refine rd_while (fun m σ H3 => ∃ (fl : Bool) (b c : Option V) (k : Nat) (bs : List Nat), σ = [some (.ref a), some (.int af), some (.ref q), some (.ref p), some (.bl fl), b, c] ∧ Same H H3 ∧ H3 q = some (.lst ((AgM.readsOf N).map nv)) ∧ H3 p = some (.lst (List.map nv bs)) ∧ bs = AgM.iter (AgM.bitPass N R af) k (AgM.zeros N.length) ∧ (fl = false → AgM.bitPass N R af bs = bs) ∧ m = 2 * (N.length * 2 ^ af - bs.sum) + (if fl then 1 else 0))
      ⟨_, true, _, _, 0, AgM.zeros N.length, rfl, S1.trans S2, S2 _ _ h1, h2, rfl, (fun z => nomatch z), rfl⟩ (fun m σ H3 hW => ?_)
    obtain ⟨fl, b, c, k, bs, rfl, S3, h3q, h3p, ebs, hfl, em⟩ := hW
    have hbl : bs.length = N.length := by rw [ebs, AgM.iter_len]; exact hz0
    have hblt : AgM.AllLt bs (2 ^ af) := by rw [ebs]; exact AgM.iter_lt a1 (AgM.zeros_lt _ _) k
    walk_at "go"
    cases fl with
    | false =>
      walk_at "go"
      exact h p bs H3 S3 h3p ⟨k, ebs, hfl rfl⟩
    | true =>
      refine iteT ?_
      refine rd_kWh ?_
      walk_at "go"
      refine fo_list (xs := (AgM.readsOf N).map nv) (fun i σ H4 => ∃ (fl : Bool) (b c : Option V) (bs' : List Nat), σ = [some (.ref a), some (.int af), some (.ref q), some (.ref p), some (.bl fl), b, c] ∧ Same H H4 ∧ H4 q = some (.lst ((AgM.readsOf N).map nv)) ∧ H4 p = some (.lst (List.map nv bs')) ∧ bs' = ((AgM.readsOf N).take i).foldl (AgM.bitTurn N R af) bs ∧ (fl = false → bs' = bs) ∧ (fl = true → bs.sum < bs'.sum))
        (sql h3q) ⟨false, _, _, bs, rfl, S3, h3q, h3p, rfl, fun _ => rfl, (fun z => nomatch z)⟩ (fun i σ H4 _ hP => ?_) (fun i x σ H4 hi hP => ?_) (fun σ H4 hP => ?_)
      · obtain ⟨_, _, _, _, _, _, z, _⟩ := hP
        exact sql z
      · obtain ⟨fl, b, c, bs', rfl, S4, h4q, h4p, eb4, f1, f2⟩ := hP
        rw [List.getElem?_map] at hi
        obtain ⟨n, en, ex⟩ : ∃ n, (AgM.readsOf N)[i]? = some n ∧ x = nv n := by
          cases e : (AgM.readsOf N)[i]? with
          | none => rw [e] at hi; cases hi
          | some n => rw [e] at hi; exact ⟨n, rfl, (Option.some.inj hi).symm⟩
        subst ex
        have hnl : n < N.length := AgM.readsOf_lt (List.mem_of_getElem? en)
        have hl4 : bs'.length = N.length := by rw [eb4, AgM.bitTurns_len]; exact hbl
        have hlt4 : AgM.AllLt bs' (2 ^ af) := by rw [eb4]; exact AgM.bitTurns_lt a1 _ hblt
        have es := foldl_snoc (AgM.bitTurn N R af) bs _ en
        rw [← eb4] at es
        unfold nv
        walk_at "go"
        refine c_next_bits (w.same S4) W a1 a2 h4p hl4 hnl hlt4 (fun H5 S5 => ?_)
        have e5 := nv_at (bs := bs') (i := n) (by omega)
        have h5p : H5 p = some (.lst (List.map nv bs')) := S5 _ _ h4p
        walk_at "go"
        have up : bs'.sum < (AgM.bitTurn N R af bs' n).sum ∨ AgM.bitTurn N R af bs' n = bs' := by
          rcases AgM.bitTurn_sum (nodes := N) (arrows := R) (after := af) (bits := bs') (n := n) (by omega) with ⟨_, z⟩ | ⟨_, z⟩
          · exact .inr z
          · exact .inl z
        have geq : bs.sum ≤ bs'.sum := by
          cases fl with
          | false => rw [f1 rfl]; exact Nat.le_refl _
          | true => exact Nat.le_of_lt (f2 rfl)
        refine itedn (fun c1 => ?_) (fun c1 => ?_)
        · walk_at "go"
          refine rd_setL h5p (j := n) (by rw [List.length_map]; exact ixN_nat (by omega)) (fun H6 X6 h6 => ?_)
          rw [nv_set] at h6
          walk_at "go"
          have neq : q ≠ p := fun z => by
            rw [z] at h1
            rw [n2] at h1
            cases h1
          refine ⟨true, _, _, AgM.bitTurn N R af bs' n, rfl, Ex.same n2' (S4.trans S5) X6, X6 _ _ neq (S5 _ _ h4q), h6, es.symm, (fun z => nomatch z), fun _ => ?_⟩
          rcases up with z | z
          · omega
          · exfalso
            have e9 : (AgM.bitTurn N R af bs' n).getD n 0 = bs'.getD n 0 := by rw [z]
            unfold AgM.bitTurn at e9
            rw [AgM.getD_set, if_pos ⟨rfl, by omega⟩] at e9
            omega
        · walk_at "go"
          have e9 : AgM.bitTurn N R af bs' n = bs' := by
            rcases up with z | z
            · exfalso
              unfold AgM.bitTurn at z
              rw [show AgM.nextBits N R af bs' n = bs'.getD n 0 by omega, AgM.set_same (by omega)] at z
              omega
            · exact z
          exact ⟨fl, _, _, bs', rfl, S4.trans S5, S5 _ _ h4q, h5p, (es.trans e9).symm, f1, f2⟩
      · obtain ⟨fl, b, c, bs', rfl, S4, h4q, h4p, eb4, f1, f2⟩ := hP
        rw [List.length_map, List.take_length] at eb4
        have eb5 : bs' = AgM.bitPass N R af bs := eb4
        have hl4 : bs'.length = N.length := by rw [eb4, AgM.bitTurns_len]; exact hbl
        have hlt4 : AgM.AllLt bs' (2 ^ af) := by rw [eb4]; exact AgM.bitTurns_lt a1 _ hblt
        have hs4 := sum_le hlt4
        rw [hl4] at hs4
        refine ⟨2 * (N.length * 2 ^ af - bs'.sum) + (if fl then 1 else 0), ?_, fl, _, _, k + 1, bs', rfl, S4, h4q, h4p, by rw [eb5, ebs]; rfl, fun z => ?_, rfl⟩
        · rw [em]
          cases fl with
          | false =>
            rw [f1 rfl]
            simp
          | true =>
            have := f2 rfl
            simp
            omega
        · rw [f1 z] at eb5
          rw [f1 z]
          exact eb5.symm
  exact ⟨_, T.glo 21, F.2, F.1⟩
theorem c_bits_of {K : PySem.W.Frag} {H : Hp} {Q : VK} {E : XK} {a : Addr} {N : List Deed} {R : List Arr} {af : Nat} (w : IsW K H a N R) (W : WOk N R) (a1 : 1 ≤ af) (a2 : af ≤ 2000) (q : ∀ p r H', Same H H' → H' p = some (.lst (List.map nv r)) → AgM.IsBits N R af r → Q (.ref p) H') : sp_bits_of K [.ref a, .int af] H Q E := ⟨_, _, rfl, a, N, R, af, rfl, rfl, w, W, a1, a2, q⟩
theorem ksV_snoc (ks : List Nat) (k : Nat) : ksV (ks ++ [k]) = ksV ks ++ [[V.int (k : Int), V.int (k : Int)]] := by
  unfold ksV
  rw [List.map_append]
  rfl
def sp_stretches_of (K : PySem.W.Frag) : Sp := sp1 fun bits H Q => ∃ b a : Nat, bits = .int b ∧ a ≤ 2000 ∧ b < 2 ^ a ∧ ∀ v p H', H p = none → Same H H' → IsSt K H' v p (AgM.topBit b) → Q v H'
theorem sc_stretches_of : FnScope n_stretches_of p_stretches_of d_stretches_of.scope := ⟨rfl, rfl, rfl, by decide +kernel, rfl, by decide +kernel, by decide +kernel⟩
theorem ok_stretches_of (T : Tx K mg) : GF P w K mg base "stretches_of" 6 (sp_stretches_of K) := by
  have F := mkR (P := P) (w := w) (base := base) T 38 (d := d_stretches_of) rfl rfl sc_stretches_of (fun _ _ _ _ _ _ us hl => match us, hl with | [_], _ => rfl) len1 (k := 5) (sp := (sp_stretches_of K)) fun cdv A outer s H vs Q E hr h => by
    obtain ⟨bits, rfl, h⟩ := h
    refine ⟨_, (pss_cons (ps_set (i := 1) sc_stretches_of.nd rfl (Or.inl rfl) (pe_lst pa_nil))
      (pss_cons (ps_set (i := 2) sc_stretches_of.nd rfl (Or.inl rfl) pe_int)
      (pss_cons (ps_while PassesOwn.never (pt_cmpR op_ne (pe_op op_shr (pv 0) (pv 2)) pe_int (nomark _)) (pss_cons (ps_if (pt_cmpR op_eq (pe_op op_mod (pe_op op_shr (pv 0) (pv 2)) pe_int) pe_int (nomark _)) (pss_one (ps_expr (je_app (K := K) (pv 1) (pa_cons (pe_tup (pa_cons (pv 2) (pa_cons (pv 2) pa_nil))) pa_nil)))) pss_nil)
      (pss_one (ps_set (i := 2) sc_stretches_of.nd rfl (Or.inl rfl) (pe_op op_add (pv 2) pe_int)))))
      (pss_one (ps_ret (pe_gcS (ok_Stretches_init (K := K) T) hr (pv 1))))))), ?_⟩
    obtain ⟨b, a, rfl, a2, hb, h⟩ := h
    walk_at "go"
    intro l H1 n1 S1 h1
    walk_at "go"
    refine rd_while (fun m σ H2 => ∃ (t : Nat) (ws : List V), σ = [some (.int b), some (.ref l), some (.int (t : Nat))] ∧ Same H H2 ∧ H2 l = some (.lst ws) ∧ Tups H2 ws (ksV (AgM.bitsAt b t)) ∧ t ≤ a ∧ m = a - t) ⟨a - 0, 0, [], rfl, S1, h1, .nil, Nat.zero_le _, rfl⟩ (fun m σ H2 hW => ?_)
    obtain ⟨t, ws, rfl, S2, h2, t2, ht, rfl⟩ := hW
    have hwz : ws.length ≤ t := by
      rw [t2.len]
      unfold ksV
      rw [List.length_map]
      exact AgM.bitsAt_len b t
    have esh : ((b : Int) / 2 ^ (t : Int).toNat) = ((b >>> t : Nat) : Int) := by
      rw [Nat.shiftRight_eq_div_pow, Int.toNat_natCast, Int.natCast_ediv, Int.natCast_pow]
      rfl
    walk_at "go"
    refine rd_I (Int.natCast_nonneg t) ?_
    rw [esh]
    walk_at "go"
    refine itedn (fun c => ?_) (fun c => ?_)
    · refine rd_kWh ?_
      have hlt : t < a := by
        by_cases z : t < a
        · exact z
        · exfalso
          have e : t = a := by omega
          subst e
          apply c
          rw [Nat.shiftRight_eq_div_pow, Nat.div_eq_of_lt hb]
          rfl
      have ebit : decide (((b >>> t : Nat) : Int) % 2 = 1) = b.testBit t := by
        rw [Nat.testBit_eq_decide_div_mod_eq, Nat.shiftRight_eq_div_pow]
        congr 1
        apply propext
        constructor
        · intro z
          omega
        · intro z
          omega
      walk_at "go"
      refine rd_I (Int.natCast_nonneg t) ?_
      rw [esh]
      walk_at "go"
      refine rd_I (by decide) ?_
      walk_at "go"
      rw [ebit]
      refine iteb (fun c1 => ?_) (fun c1 => ?_)
      · walk_at "go"
        intro z H3 n3 S3 h3
        walk_at "go"
        refine rd_kApp (S3 _ _ h2) (by omega) (fun H4 X4 h4 => ?_)
        walk_at "go"
        refine ⟨a - (t + 1), by omega, t + 1, _, rfl, Ex.same n1 (S2.trans S3) X4, h4, ?_, hlt, rfl⟩
        rw [AgM.bitsAt_succ, if_pos c1, ksV_snoc]
        have h3l := S3 _ _ h2
        have mo : ∀ c xs, H3 c = some (.tup xs) → H4 c = some (.tup xs) := fun c xs hc => X4 _ _ (ne_of hc h3l (by intro z; cases z)) hc
        exact ((t2.same S3).mono mo).snoc (mo _ _ h3)
      · walk_at "go"
        refine ⟨a - (t + 1), by omega, t + 1, ws, rfl, S2, h2, ?_, hlt, rfl⟩
        rw [AgM.bitsAt_succ, if_neg (by rw [c1]; exact Bool.false_ne_true)]
        exact t2
    · walk_at "go"
      have hlt : b < 2 ^ t := by
        have c2 : b >>> t = 0 := by omega
        rw [Nat.shiftRight_eq_div_pow] at c2
        exact (Nat.div_eq_zero_iff_lt (Nat.two_pow_pos t)).mp c2
      refine ⟨l, ws, rfl, .inr (sql h2), ?_⟩
      refine rd_kKR (fun x dx H3 n3 S3 h3 => ?_)
      refine c_Stretches h3 (t2.same S3) (AgM.bitsAt_up b t) (by have := AgM.bitsAt_len b t; omega) (fun p H4 np X4 s4 => ⟨rfl, h _ p H4 ((S2.trans S3).free np) (Ex.same (S2.free n3) (S2.trans S3) X4) ?_⟩)
      rw [AgM.bitsAt_last hlt] at s4
      exact s4
  exact ⟨_, T.glo 22, F.2, F.1⟩
theorem c_stretches_of {K : PySem.W.Frag} {H : Hp} {Q : VK} {E : XK} {b a : Nat} (a2 : a ≤ 2000) (hb : b < 2 ^ a) (q : ∀ v p H', H p = none → Same H H' → IsSt K H' v p (AgM.topBit b) → Q v H') : sp_stretches_of K [.int b] H Q E := ⟨_, rfl, b, a, rfl, a2, hb, q⟩
/-- the ages of reads, each a Stretches -/
def IsRA (K : PySem.W.Frag) (H : Hp) (v : V) (n : Nat) (G : Nat → Age) : Prop := ∃ p ws, v = .ref p ∧ H p = some (.lst ws) ∧ ws.length = n ∧ ∀ i, i < n → ∃ u q, ws[i]? = some u ∧ IsSt K H u q (G i)
theorem IsRA.same {K : PySem.W.Frag} {H H' : Hp} {v : V} {n : Nat} {G : Nat → Age} (S : Same H H') (h : IsRA K H v n G) : IsRA K H' v n G := by
  obtain ⟨p, ws, e, h1, h2, h3⟩ := h
  refine ⟨p, ws, e, S _ _ h1, h2, fun i hi => ?_⟩
  obtain ⟨u, q, a, b⟩ := h3 i hi
  exact ⟨u, q, a, b.same S⟩
def GOk (N : List Deed) (R : List Arr) (rl : Rl) (G : Nat → Age) : Prop := match rl with
  | .seldom a => ∃ r, AgM.IsBits N R a r ∧ G = fun n => AgM.topBit (r.getD n 0)
  | _ => G = fun _ => none
theorem rows_all {R : Nat → Option V → Hp → Prop} {H : Hp} {n : Nat} {acc : List V} (h : Rows R H n acc) (f : ∀ i o, R i o H → ∃ v, o = some v) : acc.length = n ∧ ∀ i, i < n → ∃ v, acc[i]? = some v ∧ R i (some v) H := by
  induction h with
  | nil => exact ⟨rfl, fun i hi => by omega⟩
  | @yes i acc y h r ih =>
    obtain ⟨l, g⟩ := ih
    refine ⟨by rw [List.length_append, l]; rfl, fun j hj => ?_⟩
    by_cases z : j < i
    · obtain ⟨v, ev, rv⟩ := g j z
      exact ⟨v, by rw [List.getElem?_append_left (by omega)]; exact ev, rv⟩
    · have e : j = i := by omega
      subst e
      exact ⟨y, by rw [List.getElem?_append_right (by omega), l]; simp, r⟩
  | @no i acc h r ih =>
    obtain ⟨v, e⟩ := f _ _ r
    cases e
def sp_all_ages (K : PySem.W.Frag) : Sp := sp2 fun way rule H Q => ∃ (a b dx : Addr) (N : List Deed) (R : List Arr) (rl : Rl), way = .ref a ∧ rule = .ref b ∧ IsW K H a N R ∧ WOk N R ∧ H b = some (.ins (He.ga K "Rule") dx (rfs rl)) ∧ (∀ n, rl = .seldom n → 1 ≤ n ∧ n ≤ 2000) ∧ ∀ v H' G, Same H H' → IsRA K H' v N.length G → GOk N R rl G → Q v H'
theorem sc_all_ages : FnScope n_all_ages p_all_ages d_all_ages.scope := ⟨rfl, rfl, rfl, by decide +kernel, rfl, by decide +kernel, by decide +kernel⟩
theorem ok_all_ages (T : Tx K mg) : GF P w K mg base "all_ages" 7 (sp_all_ages K) := by
  have F := mkR (P := P) (w := w) (base := base) T 39 (d := d_all_ages) rfl rfl sc_all_ages (fun _ _ _ _ _ _ us hl => match us, hl with | [_, _], _ => rfl) len2 (k := 6) (sp := (sp_all_ages K)) fun cdv A outer s H vs Q E hr h => by
    obtain ⟨way, rule, rfl, h⟩ := h
    refine ⟨_, (pss_cons (ps_if (pt_cmpR op_ne (pe_gp (pv 1) (T.cls 100) (ok_Rule_word_g (K := K) T) hr) pe_str (nomark _)) (pss_one (ps_ret (pe_lc (own := [("node", 2)]) (g := gName 2) (tt := tYes) rfl sc_all_ages.nd (pi_range1 (by rfl) (T.free 71) (pa_cons (pe_gl (T.free 69) (ok_Way_len (K := K) T) hr (pa_cons (pv 0) pa_nil)) pa_nil)) (blkOk_by (own := [("node", 2)]) (N := n_all_ages) (sc := d_all_ages.scope) (by decide +kernel)) (fun _ _ _ _ _ => pg_name (i := 2) sc_all_ages.nd rfl (Or.inl rfl)) (fun _ _ _ _ _ => pts_nil) (fun _ _ _ _ _ => (pe_gs0 (pe_gref (T.glo 63)) (ok_Stretches_none (K := K) T) hr))))) pss_nil)
      (pss_one (ps_ret (pe_lc (own := [("bits", 3)]) (g := gName 3) (tt := tYes) rfl sc_all_ages.nd (ji_list (K := K) (pe_gf (ok_bits_of (K := K) T) hr (pa_cons (pv 0) (pa_cons (pe_gp (pv 1) (T.cls 100) (ok_Rule_after_g (K := K) T) hr) pa_nil)))) (blkOk_by (own := [("bits", 3)]) (N := n_all_ages) (sc := d_all_ages.scope) (by decide +kernel)) (fun _ _ _ _ _ => pg_name (i := 3) sc_all_ages.nd rfl (Or.inl rfl)) (fun _ _ _ _ _ => pts_nil) (fun _ _ _ _ _ => (pe_gf (ok_stretches_of (K := K) T) hr (pa_cons (pv 3) pa_nil))))))), ?_⟩
    obtain ⟨a, b, dx, N, R, rl, rfl, rfl, w, W, hb, hrl, h⟩ := h
    have hn := W.n2
    have fin : ∀ (G : Nat → Age) (D : Addr) (ys : List V) (H0 H' : Hp) (n : Nat), n = N.length → H' D = some (.lst ys) → Rows (fun i o H' => ∃ v p, o = some v ∧ p ≠ D ∧ IsSt K H' v p (G i)) H' n ys → IsRA K H' (.ref D) N.length G := fun G D ys H0 H' n en hD rows => by
      subst en
      obtain ⟨l, g⟩ := rows_all rows (fun i o ⟨v, p, e, _⟩ => ⟨v, e⟩)
      refine ⟨D, ys, rfl, hD, l, fun i hi => ?_⟩
      obtain ⟨v, ev, v2, p, e, _, s⟩ := g i hi
      cases e
      exact ⟨v, p, ev, s⟩
    walk_at "go"
    cases rl with
    | seldom n =>
      obtain ⟨n1, n2⟩ := hrl n rfl
      simp only [rz]
      walk_at "go"
      simp only [rn]
      walk_at "go"
      refine c_bits_of w W n1 n2 (fun q r H1 S1 h1 ib => ?_)
      have hrl := ib.len
      have hrlt := ib.lt n1
      refine ⟨_, rfl, ⟨_, sql h1⟩, lc_rowsD (fun D i o H' => ∃ v p, o = some v ∧ p ≠ D ∧ IsSt K H' v p (AgM.topBit (r.getD i 0))) (sql h1) (by rw [List.length_map]; omega) (fun _ _ _ _ _ _ _ S2 ⟨v, p, e, ne, s⟩ => ⟨v, p, e, ne, s.same S2⟩) (fun _ _ _ _ _ hD _ _ ⟨v, p, e, ne, s⟩ => ⟨v, p, e, ne, s.upd hD ne⟩) (fun D i x nD hi H2 Nx ⟨acc, hacc⟩ S hNx => ?_) (fun D ys H2 nD S2 h2 rows => ?_)⟩
      · rw [List.getElem?_map] at hi
        obtain ⟨z, ez, ex⟩ : ∃ z, r[i]? = some z ∧ x = nv z := by
          cases e : r[i]? with
          | none => rw [e] at hi; cases hi
          | some z => rw [e] at hi; exact ⟨z, rfl, (Option.some.inj hi).symm⟩
        subst ex
        have ez2 : r.getD i 0 = z := by
          rw [List.getD_eq_getElem?_getD, ez]
          rfl
        have hz := hrlt i
        rw [ez2] at hz
        unfold nv
        walk_at "go"
        refine c_stretches_of n2 hz (fun v p H3 np S3 s3 => ?_)
        refine hNx _ H3 S3 ⟨v, p, rfl, (ne_of_none hacc np).symm, ?_⟩
        rw [ez2]
        exact s3
      · exact h _ H2 _ (S1.trans S2) (fin _ D ys H1 H2 _ (by rw [List.length_map]; exact hrl) h2 rows) ⟨r, ib, rfl⟩
    | _ =>
      simp only [rz]
      refine iteBT (by decide +kernel) ?_
      walk_at "go"
      refine ⟨_, rfl, by omega, by omega, ?_⟩
      rw [Int.toNat_natCast]
      refine lc_rowsRD (fun D i o H' => ∃ v p, o = some v ∧ p ≠ D ∧ IsSt K H' v p none) (by omega) (fun _ _ _ _ _ _ _ S2 ⟨v, p, e, ne, s⟩ => ⟨v, p, e, ne, s.same S2⟩) (fun _ _ _ _ _ hD _ _ ⟨v, p, e, ne, s⟩ => ⟨v, p, e, ne, s.upd hD ne⟩) (fun D i nD hi H2 Nx ⟨acc, hacc⟩ S hNx => ?_) (fun D ys H2 nD S2 h2 rows => ?_)
      · walk_at "go"
        intro v p H3 np S3 s3
        exact hNx _ H3 S3 ⟨v, p, rfl, (ne_of_none hacc np).symm, s3⟩
      · exact h _ H2 (fun _ => none) S2 (fin (fun _ => none) D ys H H2 _ rfl h2 rows) rfl
  exact ⟨_, T.glo 23, F.2, F.1⟩
theorem c_all_ages {K : PySem.W.Frag} {H : Hp} {Q : VK} {E : XK} {a b dx : Addr} {N : List Deed} {R : List Arr} {rl : Rl} (w : IsW K H a N R) (W : WOk N R) (hb : H b = some (.ins (He.ga K "Rule") dx (rfs rl))) (hrl : ∀ n, rl = .seldom n → 1 ≤ n ∧ n ≤ 2000) (q : ∀ v H' G, Same H H' → IsRA K H' v N.length G → GOk N R rl G → Q v H') : sp_all_ages K [.ref a, .ref b] H Q E :=
  ⟨_, _, rfl, a, b, dx, N, R, rl, rfl, rfl, w, W, hb, hrl, q⟩
def IsRl (K : PySem.W.Frag) (H : Hp) (b : Addr) (rl : Rl) : Prop := ∃ dx, H b = some (.ins (He.ga K "Rule") dx (rfs rl))
theorem IsRl.same {K : PySem.W.Frag} {H H' : Hp} {b : Addr} {rl : Rl} (S : Same H H') (h : IsRl K H b rl) : IsRl K H' b rl := by
  obtain ⟨dx, h⟩ := h
  exact ⟨dx, S _ _ h⟩
theorem IsW.kp {K : PySem.W.Frag} {H H' : Hp} {a : Addr} {N : List Deed} {R : List Arr} (S : Kp H H') (h : IsW K H a N R) : IsW K H' a N R := by
  obtain ⟨dx, pn, pa, ns, rs, h1, h2, h3, h4, h5⟩ := h
  exact ⟨dx, pn, pa, ns, rs, S _ _ (by decide +kernel : skKeys.contains "own_nodes" = true) h1, S _ _ h3.sk h2, S.tups h3, S _ _ h5.sk h4, S.tups h5⟩
theorem IsRl.kp {K : PySem.W.Frag} {H H' : Hp} {b : Addr} {rl : Rl} (S : Kp H H') (h : IsRl K H b rl) : IsRl K H' b rl := by
  obtain ⟨dx, h⟩ := h
  exact ⟨dx, S _ _ (by decide +kernel : skKeys.contains "own_word" = true) h⟩
theorem IsSt.kp {K : PySem.W.Frag} {H H' : Hp} {v : V} {p : Addr} {top : Age} (S : Kp H H') (h : IsSt K H v p top) : IsSt K H' v p top := by
  obtain ⟨a, dx, ws, L, e, h1, h2, h3, h4⟩ := h
  exact ⟨a, dx, ws, L, e, S _ _ (by decide +kernel : skKeys.contains "own_pairs" = true) h1, S _ _ h3.sk h2, S.tups h3, h4⟩
theorem IsRA.kp {K : PySem.W.Frag} {H H' : Hp} {v : V} {n : Nat} {G : Nat → Age} (S : Kp H H') (h : IsRA K H v n G) : IsRA K H' v n G := by
  obtain ⟨p, ws, e, h1, h2, h3⟩ := h
  refine ⟨p, ws, e, S _ _ (sk_refs fun v hv => ?_) h1, h2, fun i hi => ?_⟩
  · obtain ⟨i, hi, ei⟩ := List.getElem_of_mem hv
    obtain ⟨u, q, a, b⟩ := h3 i (by omega)
    rw [List.getElem?_eq_getElem hi, ei] at a
    obtain ⟨c, _, _, _, ec, _⟩ := b
    cases a
    exact ⟨c, ec⟩
  · obtain ⟨u, q, a, b⟩ := h3 i hi
    exact ⟨u, q, a, b.kp S⟩
theorem inV_lv (m : Mark) (l : List Mark) : inV (.str (mk m)) (lv l) = decide (m ∈ l) := by
  unfold inV lv
  rw [List.any_map]
  induction l with
  | nil => simp
  | cons k r ih =>
    rw [List.any_cons, ih]
    by_cases e : k = m
    · subst e
      simp [Function.comp, mv, eqV]
    · have e2 : (mk k == mk m) = false := beq_eq_false_iff_ne.mpr fun z => e (mk_inj z)
      have e3 : ¬ m = k := fun z => e z.symm
      simp [Function.comp, mv, eqV, e2, e3]
theorem rz_always (rl : Rl) : decide (rz rl = "always") = decide (rl = .always) := by
  cases rl with
  | seldom n => rw [decide_eq_false (show ¬ Rl.seldom n = .always from fun z => by cases z)]; exact (by decide +kernel : decide (("seldom" : Str) = "always") = false)
  | _ => decide +kernel
def isSel : Rl → Bool
  | .seldom _ => true
  | _ => false
theorem rz_seldom (rl : Rl) : decide (rz rl = "seldom") = isSel rl := by
  cases rl with
  | seldom n => exact (by decide +kernel : decide (("seldom" : Str) = "seldom") = true)
  | _ => decide +kernel
def sp_surely_set (K : PySem.W.Frag) : Sp := sp3 fun way rule node H Q => ∃ (a b : Addr) (N : List Deed) (R : List Arr) (rl : Rl) (n : Nat) (d : Deed), way = .ref a ∧ rule = .ref b ∧ node = .int n ∧ IsW K H a N R ∧ IsRl K H b rl ∧ N[n]? = some d ∧ d.ok ∧ ∀ p H', H p = none → Same H H' → H' p = some (.dK (bk (AgM.surely rl d))) → Q (.ref p) H'
theorem sc_surely_set : FnScope n_surely_set p_surely_set d_surely_set.scope := ⟨rfl, rfl, rfl, by decide +kernel, rfl, by decide +kernel, by decide +kernel⟩
theorem ok_surely_set (T : Tx K mg) : GF P w K mg base "surely_set" 6 (sp_surely_set K) := by
  have F := mkR (P := P) (w := w) (base := base) T 40 (d := d_surely_set) rfl rfl sc_surely_set (fun _ _ _ _ _ _ us hl => match us, hl with | [_, _, _], _ => rfl) len3 (k := 5) (sp := (sp_surely_set K)) fun cdv A outer s H vs Q E hr h => by
    obtain ⟨way, rule, node, rfl, h⟩ := h
    refine ⟨_, (pss_cons (ps_set (i := 3) sc_surely_set.nd rfl (Or.inl rfl) (pe_gi (pv 0) (pv 2) (ok_Way_getitem (K := K) T) hr))
      (pss_cons (ps_if (pt_cmpR op_eq (pe_ix (jx_tup (K := K)) (pv 3) pe_int (fun _ _ => rfl)) pe_str (nomark _)) (pss_one (ps_ret (pe_ifExp (pt_cmpR op_eq (pe_gp (pv 1) (T.cls 100) (ok_Rule_word_g (K := K) T) hr) pe_str (nomark _)) (pe_disp (pps_cons pe_str pe_int pps_nil) (by rfl) (by rfl) (fun z => by cases z) (by decide)) pe_dnewK))) pss_nil)
      (pss_one (ps_ret (pe_gf (ok_backs (K := K) T) hr (pa_cons (pv 3) pa_nil)))))), ?_⟩
    obtain ⟨a, b, N, R, rl, n, d, rfl, rfl, rfl, w, ⟨dx, hb⟩, hd, hdo, h⟩ := h
    have e0 := at0 d
    have e1 := dz_read d
    walk_at "go"
    intro c hc
    walk_at "go"
    rw [e1]
    refine ited (fun c1 => ?_) (fun c1 => ?_)
    · walk_at "go"
      rw [rz_always]
      refine ited (fun c2 => ?_) (fun c2 => ?_)
      · walk_at "go"
        intro p H1 n1 S1 h1
        walk_at "go"
        intro H2 X2 h2
        refine h p H2 n1 (Ex.same n1 S1 X2) ?_
        rw [show AgM.surely rl d = [(.read, 0)] by unfold AgM.surely; rw [if_pos c1, if_pos c2]]
        exact h2
      · walk_at "go"
        intro p H1 n1 S1 h1
        refine h p H1 n1 S1 ?_
        rw [show AgM.surely rl d = [] by unfold AgM.surely; rw [if_pos c1, if_neg c2]]
        exact h1
    · walk_at "go"
      intro p H1 n1 S1 h1
      refine h p H1 n1 S1 ?_
      rw [show AgM.surely rl d = d.backs by unfold AgM.surely; rw [if_neg c1]]
      exact h1
  exact ⟨_, T.glo 24, F.2, F.1⟩
theorem c_surely {K : PySem.W.Frag} {H : Hp} {Q : VK} {E : XK} {a b : Addr} {N : List Deed} {R : List Arr} {rl : Rl} {n : Nat} {d : Deed} (w : IsW K H a N R) (hb : IsRl K H b rl) (hd : N[n]? = some d) (hdo : d.ok) (q : ∀ p H', H p = none → Same H H' → H' p = some (.dK (bk (AgM.surely rl d))) → Q (.ref p) H') : sp_surely_set K [.ref a, .ref b, .int n] H Q E :=
  ⟨_, _, _, rfl, a, b, N, R, rl, n, d, rfl, rfl, rfl, w, hb, hd, hdo, q⟩
def sp_is_more : Sp := sp2 fun one other H Q => ∃ x y : Age, one = agV x ∧ other = agV y ∧ Q (.bl (AgM.isMore x y)) H
theorem sc_is_more : FnScope n_is_more p_is_more d_is_more.scope := ⟨rfl, rfl, rfl, by decide +kernel, rfl, by decide +kernel, by decide +kernel⟩
theorem ok_is_more (T : Tx K mg) : GF P w K mg base "is_more" 1 sp_is_more := by
  have F := mkR (P := P) (w := w) (base := base) T 41 (d := d_is_more) rfl rfl sc_is_more (fun _ _ _ _ _ _ us hl => match us, hl with | [_, _], _ => rfl) len2 (k := 0) (sp := sp_is_more) fun cdv A outer s H vs Q E hr h => by
    obtain ⟨one, other, rfl, h⟩ := h
    refine ⟨_, (pss_cons (ps_if (pt_cmpR op_isN' (pv 1) pe_non (nomark _)) (pss_one (ps_ret pe_bl)) pss_nil)
      (pss_one (ps_ret (pe_or (pe_cmpR op_isN' (pv 0) pe_non (nomark _)) (pe_one (pe_cmpR op_gt (pv 0) (pv 1) (nomark _))))))), ?_⟩
    obtain ⟨x, y, rfl, rfl, h⟩ := h
    cases y with
    | none =>
      simp only [agV]
      walk_at "go"
      exact h
    | some j =>
      cases x with
      | none =>
        simp only [agV]
        walk_at "go"
        exact h
      | some i =>
        simp only [agV]
        walk_at "go"
        exact h
  exact ⟨_, T.glo 25, F.2, F.1⟩
theorem c_is_more {H : Hp} {Q : VK} {E : XK} {x y : Age} (q : Q (.bl (AgM.isMore x y)) H) : sp_is_more [agV x, agV y] H Q E := ⟨_, _, rfl, x, y, rfl, rfl, q⟩
/-- the tables kept: each key's tuple of marks with its list of ages -/
def kyL (l : List Mark) : List Key := l.map fun m => Sum.inr (mk m)
theorem kyL_v (l : List Mark) : (kyL l).map kV = lv l := by
  unfold kyL lv
  rw [List.map_map]
  rfl
def Kept (N : List Deed) (R : List Arr) (rl : Rl) (G : Nat → Age) (H : Hp) (B : Addr → Prop) (kvs : List (List Key × V)) : Prop := ∀ k v, valV kvs k = some v → ∃ l p, k = kyL l ∧ v = .ref p ∧ ¬ B p ∧ H p = some (.lst ((AgM.T N R rl G l).map agV))
def IsAg (K : PySem.W.Frag) (H : Hp) (a : Addr) (N : List Deed) (R : List Arr) (rl : Rl) (G : Nat → Age) (kp : Addr) (cc : Nat) (B : Addr → Prop) : Prop := ∃ dx wa ra rv kvs, H a = some (.ins (He.ga K "Ages") dx [("way", .ref wa), ("rule", .ref ra), ("read_ages", rv), ("kept", .ref kp)]) ∧
  IsW K H wa N R ∧ IsRl K H ra rl ∧ IsRA K H rv N.length G ∧ H kp = some (.dT kvs) ∧ kvs.length ≤ cc ∧ Kept N R rl G H B kvs
theorem IsAg.same {K : PySem.W.Frag} {H H' : Hp} {a : Addr} {N : List Deed} {R : List Arr} {rl : Rl} {G : Nat → Age} {kp : Addr} {cc : Nat} {B : Addr → Prop} (S : Same H H') (h : IsAg K H a N R rl G kp cc B) : IsAg K H' a N R rl G kp cc B := by
  obtain ⟨dx, wa, ra, rv, kvs, h1, h2, h3, h4, h5, h6, h7⟩ := h
  refine ⟨dx, wa, ra, rv, kvs, S _ _ h1, h2.same S, h3.same S, h4.same S, S _ _ h5, h6, fun k v e => ?_⟩
  obtain ⟨l, p, a, b, nb, c⟩ := h7 k v e
  exact ⟨l, p, a, b, nb, S _ _ c⟩
def sp_Ages_init (K : PySem.W.Frag) : Sp := sp3 fun self way rule H Q => ∃ (a dx wa ra : Addr) (N : List Deed) (R : List Arr) (rl : Rl), self = .ref a ∧ way = .ref wa ∧ rule = .ref ra ∧ H a = some (.ins (He.ga K "Ages") dx []) ∧ IsW K H wa N R ∧ WOk N R ∧ IsRl K H ra rl ∧ (∀ n, rl = .seldom n → 1 ≤ n ∧ n ≤ 2000) ∧ ∀ G kp H', Ex a H H' → GOk N R rl G → H kp = none → IsAg K H' a N R rl G kp 0 (fun _ => False) → Q .non H'
theorem sc_Ages_init : FnScope n_Ages_init p_Ages_init d_Ages_init.scope := ⟨rfl, rfl, rfl, by decide +kernel, rfl, by decide +kernel, by decide +kernel⟩
theorem ok_Ages_init (T : Tx K mg) : GC P w K mg base "Ages" (He.ga K "Ages") 8 (sp_Ages_init K) := by
  have F := mkR (P := P) (w := w) (base := base) T 42 (d := d_Ages_init) rfl rfl sc_Ages_init (fun _ _ _ _ _ _ us hl => match us, hl with | [_, _, _], _ => rfl) len3 (k := 7) (sp := (sp_Ages_init K)) fun cdv A outer s H vs Q E hr h => by
    obtain ⟨self, way, rule, rfl, h⟩ := h
    refine ⟨_, (pss_cons (ps_f (pv 0) (pv 1) (T.cls 129) (T.noat 132))
      (pss_cons (ps_f (pv 0) (pv 2) (T.cls 129) (T.noat 133))
      (pss_cons (ps_f (pv 0) (pe_gf (ok_all_ages (K := K) T) hr (pa_cons (pv 1) (pa_cons (pv 2) pa_nil))) (T.cls 129) (T.noat 134))
      (pss_one (ps_f (pv 0) pe_dnewT (T.cls 129) (T.noat 135)))))), ?_⟩
    obtain ⟨a, dx, wa, ra, N, R, rl, rfl, rfl, rfl, ha, w, W, hr2, hrl, h⟩ := h
    walk_at "go"
    intro H1 X1 h1
    walk_at "go"
    intro H2 X2 h2
    have k2 : Kp H H2 := Kp.ex (X1.trans X2) ha rfl
    obtain ⟨dr, hr3⟩ := hr2.kp k2
    walk_at "go"
    refine c_all_ages (w.kp k2) W hr3 hrl (fun v H3 G S3 ra3 g3 => ?_)
    walk_at "go"
    intro H4 X4 h4
    walk_at "go"
    intro kp H5 n5 S5 h5
    walk_at "go"
    intro H6 X6 h6
    have h5a := S5 _ _ h4
    have nk : kp ≠ a := ne_of h5 h5a (by intro z; cases z)
    have k3 : Kp H H3 := k2.trans (Kp.of S3)
    have XX : Ex a H H6 := (X1.trans X2).trans ((Ex.of S3).trans (X4.trans ((Ex.of S5).trans X6)))
    have k6 : Kp H H6 := Kp.ex XX ha rfl
    have h3a := S3 _ _ h2
    have k36 : ∀ b o, b ≠ a → H3 b = some o → H6 b = some o := fun b o nb e => X6 _ _ nb (S5 _ _ (X4 _ _ nb e))
    have ra6 : IsRA K H6 v N.length G := by
      obtain ⟨p, ws, e, q1, q2, q3⟩ := ra3
      refine ⟨p, ws, e, k36 _ _ (ne_of q1 h3a (by intro z; cases z)) q1, q2, fun i hi => ?_⟩
      obtain ⟨u, q, r1, b, db, us, L, r2, r3, r4, r5, r6⟩ := q3 i hi
      refine ⟨u, q, r1, b, db, us, L, r2, k36 _ _ (ne_of r3 h3a ?_) r3, k36 _ _ (ne_of r4 h3a (by intro z; cases z)) r4, r5.mono fun c xs hc => k36 _ _ (ne_of hc h3a (by intro z; cases z)) hc, r6⟩
      intro z
      have := congrArg (fun o : HO => match o with | .ins _ _ fs => fs.length | _ => 0) z
      cases this
    have nk0 : H kp = none := by
      cases e : H kp with
      | none => rfl
      | some o =>
        have := S3 _ _ (X2 _ _ nk (X1 _ _ nk e))
        rw [X4 _ _ nk this] at n5
        cases n5
    exact h G kp H6 XX g3 nk0 ⟨dx, wa, ra, v, [], h6, w.kp k6, hr2.kp k6, ra6, X6 _ _ nk h5, Nat.zero_le _, fun k v e => by cases e⟩
  exact ⟨_, T.glo 65, T.mkr 130, F.1⟩
/-- the parts of an Ages -/
theorem IsAg.open_ {K : PySem.W.Frag} {H : Hp} {a : Addr} {N : List Deed} {R : List Arr} {rl : Rl} {G : Nat → Age} {kp : Addr} {cc : Nat} {B : Addr → Prop} (h : IsAg K H a N R rl G kp cc B) : ∃ dx wa ra rv, H a = some (.ins (He.ga K "Ages") dx [("way", .ref wa), ("rule", .ref ra), ("read_ages", rv), ("kept", .ref kp)]) ∧ IsW K H wa N R ∧ IsRl K H ra rl ∧ IsRA K H rv N.length G := by
  obtain ⟨dx, wa, ra, rv, kvs, h1, h2, h3, h4, _⟩ := h
  exact ⟨dx, wa, ra, rv, h1, h2, h3, h4⟩
def sp_Ages_is_told (K : PySem.W.Frag) : Sp := sp3 fun self looks node H Q => ∃ (a b : Addr) (N : List Deed) (R : List Arr) (rl : Rl) (G : Nat → Age) (kp : Addr) (cc : Nat) (B : Addr → Prop) (l : List Mark) (n : Nat) (d : Deed), self = .ref a ∧ looks = .ref b ∧ node = .int n ∧ IsAg K H a N R rl G kp cc B ∧ H b = some (.tup (lv l)) ∧ N[n]? = some d ∧ Q (.bl (AgM.isTold rl d l)) H
theorem sc_Ages_is_told : FnScope n_Ages_is_told p_Ages_is_told d_Ages_is_told.scope := ⟨rfl, rfl, rfl, by decide +kernel, rfl, by decide +kernel, by decide +kernel⟩
theorem ok_Ages_is_told (T : Tx K mg) : GM P w K mg base (He.ga K "Ages") "is_told" 5 (sp_Ages_is_told K) := by
  have F := mkR (P := P) (w := w) (base := base) T 43 (d := d_Ages_is_told) rfl rfl sc_Ages_is_told (fun _ _ _ _ _ _ us hl => match us, hl with | [_, _, _], _ => rfl) len3 (k := 4) (sp := (sp_Ages_is_told K)) fun cdv A outer s H vs Q E hr h => by
    obtain ⟨self, looks, node, rfl, h⟩ := h
    refine ⟨_, (pss_one (ps_ret (pe_and (pe_cmpR op_eq (pe_gp (pe_f (pv 0) (T.cls 129) (T.noat 133)) (T.cls 100) (ok_Rule_word_g (K := K) T) hr) pe_str (nomark _)) (pe_and (pe_cmpR op_eq (pe_ix (jx_tup (K := K)) (pe_gi (pe_f (pv 0) (T.cls 129) (T.noat 132)) (pv 2) (ok_Way_getitem (K := K) T) hr) pe_int (fun _ _ => rfl)) pe_str (nomark _)) (pe_one (pe_cmpR (jo_in (K := K)) pe_str (pv 1) (by with_unfolding_all rfl))))))), ?_⟩
    obtain ⟨a, b, N, R, rl, G, kp, cc, B, l, n, d, rfl, rfl, rfl, hag, hb, hd, h⟩ := h
    obtain ⟨dx, wa, ra, rv, h1, w, ⟨dr, h3⟩, h4⟩ := hag.open_
    have e0 := at0 d
    have e1 := dz_read d
    walk_at "go"
    rw [rz_seldom]
    have e9 : AgM.isTold rl d l = (isSel rl && decide (d = .read) && decide (Mark.read ∈ l)) := by cases rl <;> rfl
    rw [e9] at h
    refine iteb (fun c1 => ?_) (fun c1 => ?_)
    · rw [c1] at h
      walk_at "go"
      intro c hc
      walk_at "go"
      rw [e1]
      refine ited (fun c2 => ?_) (fun c2 => ?_)
      · rw [decide_eq_true c2] at h
        walk_at "go"
        refine rd_in (.inr (sqt hb)) rfl (lv_flat l) ?_
        rw [show inV (V.str "read") (lv l) = decide (Mark.read ∈ l) from inV_lv .read l]
        exact h
      · rw [decide_eq_false c2] at h
        exact h
    · rw [c1] at h
      exact h
  exact ⟨_, T.meth 136, F.1⟩
theorem c_told {K : PySem.W.Frag} {H : Hp} {Q : VK} {E : XK} {a b : Addr} {N : List Deed} {R : List Arr} {rl : Rl} {G : Nat → Age} {kp : Addr} {cc : Nat} {B : Addr → Prop} {l : List Mark} {n : Nat} {d : Deed} (hag : IsAg K H a N R rl G kp cc B) (hb : H b = some (.tup (lv l))) (hd : N[n]? = some d) (q : Q (.bl (AgM.isTold rl d l)) H) : sp_Ages_is_told K [.ref a, .ref b, .int n] H Q E :=
  ⟨_, _, _, rfl, a, b, N, R, rl, G, kp, cc, B, l, n, d, rfl, rfl, rfl, hag, hb, hd, q⟩
def fR (s : List (Mark × Int)) (v : V) : Option V := match v with
  | .str z => if (valV (bk s) (Sum.inr z)).isSome then none else some v
  | _ => none
theorem fR_rest (rl : Rl) (d : Deed) (l : List Mark) : (lv l).filterMap (fR (AgM.surely rl d)) = lv (AgM.restOf rl d l) := by
  unfold AgM.restOf lv
  rw [List.filterMap_map, ← List.filterMap_eq_map, ← List.filterMap_eq_filter, List.filterMap_filterMap]
  congr 1
  funext m
  show fR (AgM.surely rl d) (mv m) = _
  unfold fR mv
  simp only [valBk]
  cases e : (AgM.surely rl d).lookup m with
  | none => simp [Option.guard, e]
  | some b => simp [Option.guard, e]
def fH (s : List (Mark × Int)) (v : V) : Option V := match v with
  | .str z => valV (bk s) (Sum.inr z)
  | _ => none
theorem fH_hits (rl : Rl) (d : Deed) (l : List Mark) : (lv l).filterMap (fH (AgM.surely rl d)) = (AgM.hitsOf rl d l).map V.int := by
  unfold AgM.hitsOf lv
  rw [List.filterMap_map, List.map_filterMap]
  congr 1
  funext m
  show fH (AgM.surely rl d) (mv m) = _
  unfold fH mv
  simp only [valBk]
def sp_Ages_rest_of (K : PySem.W.Frag) : Sp := sp3 fun self looks node H Q => ∃ (a b : Addr) (N : List Deed) (R : List Arr) (rl : Rl) (G : Nat → Age) (kp : Addr) (cc : Nat) (B : Addr → Prop) (l : List Mark) (n : Nat) (d : Deed), self = .ref a ∧ looks = .ref b ∧ node = .int n ∧ IsAg K H a N R rl G kp cc B ∧ H b = some (.tup (lv l)) ∧ l.length ≤ 3 ∧ N[n]? = some d ∧ d.ok ∧ ∀ p H', Same H H' → H' p = some (.tup (lv (AgM.restOf rl d l))) → Q (.ref p) H'
theorem sc_Ages_rest_of : FnScope n_Ages_rest_of p_Ages_rest_of d_Ages_rest_of.scope := ⟨rfl, rfl, rfl, by decide +kernel, rfl, by decide +kernel, by decide +kernel⟩
theorem ok_Ages_rest_of (T : Tx K mg) : GM P w K mg base (He.ga K "Ages") "rest_of" 7 (sp_Ages_rest_of K) := by
  have F := mkR (P := P) (w := w) (base := base) T 44 (d := d_Ages_rest_of) rfl rfl sc_Ages_rest_of (fun _ _ _ _ _ _ us hl => match us, hl with | [_, _, _], _ => rfl) len3 (k := 6) (sp := (sp_Ages_rest_of K)) fun cdv A outer s H vs Q E hr h => by
    obtain ⟨self, looks, node, rfl, h⟩ := h
    refine ⟨_, (pss_cons (ps_set (i := 3) sc_Ages_rest_of.nd rfl (Or.inr rfl) (pe_gf (ok_surely_set (K := K) T) hr (pa_cons (pe_f (pv 0) (T.cls 129) (T.noat 132)) (pa_cons (pe_f (pv 0) (T.cls 129) (T.noat 133)) (pa_cons (pv 2) pa_nil)))))
      (pss_one (ps_ret (pe_ct (jc_tuple (K := K)) (T.free 78) (pa_cons (pe_lc (own := [("mark", 4)]) (g := gName 4) rfl sc_Ages_rest_of.nd (ji_tup (K := K) (pv 1)) (blkOk_by (own := [("mark", 4)]) (N := n_Ages_rest_of) (sc := d_Ages_rest_of.scope) (by decide +kernel)) (fun _ _ _ _ _ => pg_name (i := 4) sc_Ages_rest_of.nd rfl (Or.inl rfl)) (fun _ _ _ _ _ => (pts_one (pt_cmp (pc_dnotin (hu_of hr) (pv 4) (pv 3)) (by with_unfolding_all rfl)))) (fun _ _ _ _ _ => (pv 4))) pa_nil))))), ?_⟩
    obtain ⟨a, b, N, R, rl, G, kp, cc, B, l, n, d, rfl, rfl, rfl, hag, hb, hl, hd, hdo, h⟩ := h
    obtain ⟨dx, wa, ra, rv, h1, w, h3, h4⟩ := hag.open_
    walk_at "go"
    refine c_surely w h3 hd hdo (fun s H1 n1 S1 hs => ?_)
    walk_at "go"
    refine ⟨_, rfl, ⟨_, sqt (S1 _ _ hb)⟩, lc_fmt (fR (AgM.surely rl d)) (sqt (S1 _ _ hb)) (by unfold lv; rw [List.length_map]; omega) (fun x hx H2 Nx S hNx => ?_) (fun D H2 n2 S2 h2 => ?_)⟩
    · obtain ⟨m, _, rfl⟩ := List.mem_map.mp hx
      unfold mv
      walk_at "go"
      rw [valBk]
      have ef : fR (AgM.surely rl d) (V.str (mk m)) = if ((AgM.surely rl d).lookup m).isSome then none else some (.str (mk m)) := by
        unfold fR
        simp only [valBk]
        cases (AgM.surely rl d).lookup m <;> rfl
      rw [show mv m = V.str (mk m) from rfl, ef] at hNx
      cases e : (AgM.surely rl d).lookup m with
      | none =>
        rw [e] at hNx
        walk_at "go"
        exact hNx _ (Same.refl _)
      | some z =>
        rw [e] at hNx
        walk_at "go"
        exact hNx _ (Same.refl _)
    rw [fR_rest] at h2
    walk_at "go"
    intro q H3 n3 S3 h3'
    exact h q H3 (S1.trans (S2.trans S3)) h3'
  exact ⟨_, T.meth 137, F.1⟩
theorem c_rest {K : PySem.W.Frag} {H : Hp} {Q : VK} {E : XK} {a b : Addr} {N : List Deed} {R : List Arr} {rl : Rl} {G : Nat → Age} {kp : Addr} {cc : Nat} {B : Addr → Prop} {l : List Mark} {n : Nat} {d : Deed} (hag : IsAg K H a N R rl G kp cc B) (hb : H b = some (.tup (lv l))) (hl : l.length ≤ 3) (hd : N[n]? = some d) (hdo : d.ok) (q : ∀ p H', Same H H' → H' p = some (.tup (lv (AgM.restOf rl d l))) → Q (.ref p) H') : sp_Ages_rest_of K [.ref a, .ref b, .int n] H Q E :=
  ⟨_, _, _, rfl, a, b, N, R, rl, G, kp, cc, B, l, n, d, rfl, rfl, rfl, hag, hb, hl, hd, hdo, q⟩
theorem minOf_le : ∀ (l : List Int) (y : Int), y ∈ l → AgM.minOf l ≤ y
  | [], y, h => by cases h
  | [a], y, h => by
    rcases List.mem_cons.mp h with z | z
    · rw [z]; exact Int.le_refl _
    · cases z
  | a :: b :: r, y, h => by
    have ih := minOf_le (b :: r)
    show (if a ≤ AgM.minOf (b :: r) then a else AgM.minOf (b :: r)) ≤ y
    rcases List.mem_cons.mp h with z | z
    · subst z
      split
      · exact Int.le_refl _
      · omega
    · have := ih y z
      split
      · omega
      · exact this
theorem minOf_only {m : Int} {a : Int} {r : List Int} (h1 : m ∈ a :: r) (h2 : ∀ y, y ∈ a :: r → m ≤ y) : m = AgM.minOf (a :: r) :=
  Int.le_antisymm (h2 _ (AgM.minOf_mem a r)) (minOf_le _ m h1)
def sp_Ages_nearest (K : PySem.W.Frag) : Sp := sp3 fun self looks node H Q => ∃ (a b : Addr) (N : List Deed) (R : List Arr) (rl : Rl) (G : Nat → Age) (kp : Addr) (cc : Nat) (B : Addr → Prop) (l : List Mark) (n : Nat) (d : Deed), self = .ref a ∧ looks = .ref b ∧ node = .int n ∧ IsAg K H a N R rl G kp cc B ∧ H b = some (.tup (lv l)) ∧ l.length ≤ 3 ∧ N[n]? = some d ∧ d.ok ∧ ∀ H', Same H H' → Q (agV (AgM.nearest rl d l)) H'
theorem sc_Ages_nearest : FnScope n_Ages_nearest p_Ages_nearest d_Ages_nearest.scope := ⟨rfl, rfl, rfl, by decide +kernel, rfl, by decide +kernel, by decide +kernel⟩
theorem ok_Ages_nearest (T : Tx K mg) : GM P w K mg base (He.ga K "Ages") "nearest" 7 (sp_Ages_nearest K) := by
  have F := mkR (P := P) (w := w) (base := base) T 45 (d := d_Ages_nearest) rfl rfl sc_Ages_nearest (fun _ _ _ _ _ _ us hl => match us, hl with | [_, _, _], _ => rfl) len3 (k := 6) (sp := (sp_Ages_nearest K)) fun cdv A outer s H vs Q E hr h => by
    obtain ⟨self, looks, node, rfl, h⟩ := h
    refine ⟨_, (pss_cons (ps_set (i := 3) sc_Ages_nearest.nd rfl (Or.inr rfl) (pe_gf (ok_surely_set (K := K) T) hr (pa_cons (pe_f (pv 0) (T.cls 129) (T.noat 132)) (pa_cons (pe_f (pv 0) (T.cls 129) (T.noat 133)) (pa_cons (pv 2) pa_nil)))))
      (pss_cons (ps_setLc (i := 4) (own := [("mark", 5)]) (g := gName 5) rfl sc_Ages_nearest.nd rfl rfl (sw_true rfl rfl rfl (by decide +kernel)) (ji_tup (K := K) (pv 1)) (blkOk_by (own := [("mark", 5)]) (N := n_Ages_nearest) (sc := d_Ages_nearest.scope) (by decide +kernel)) (fun _ _ _ _ _ => pg_name (i := 5) sc_Ages_nearest.nd rfl (Or.inl rfl)) (fun _ _ _ _ _ => (pts_one (pt_cmp (pc_din (hu_of hr) (pv 5) (pv 3)) (by with_unfolding_all rfl)))) (fun _ _ _ _ _ => (pe_dget (hu_of hr) (pv 3) (pv 5) (fun _ _ => rfl))))
      (pss_one (ps_ret (pe_ifExp (pt_cmpR (jo_eqD (K := K) hr.units) (pv 4) (pe_lst pa_nil) (nomark _)) pe_non (pe_cb (jc_min (K := K) rfl) (T.free 75) (pa_cons (pe_lc (own := [("back", 6)]) (g := gName 6) (tt := tYes) rfl sc_Ages_nearest.nd (ji_list (K := K) (pv 4)) (blkOk_by (own := [("back", 6)]) (N := n_Ages_nearest) (sc := d_Ages_nearest.scope) (by decide +kernel)) (fun _ _ _ _ _ => pg_name (i := 6) sc_Ages_nearest.nd rfl (Or.inl rfl)) (fun _ _ _ _ _ => pts_nil) (fun _ _ _ _ _ => (pe_ct jc_int (T.free 73) (pa_cons (pv 6) pa_nil)))) pa_nil))))))), ?_⟩
    obtain ⟨a, b, N, R, rl, G, kp, cc, B, l, n, d, rfl, rfl, rfl, hag, hb, hl, hd, hdo, h⟩ := h
    obtain ⟨dx, wa, ra, rv, h1, w, h3, h4⟩ := hag.open_
    walk_at "go"
    refine c_surely w h3 hd hdo (fun s H1 n1 S1 hs => ?_)
    walk_at "go"
    refine ⟨_, rfl, ⟨_, sqt (S1 _ _ hb)⟩, lc_fmt (fH (AgM.surely rl d)) (sqt (S1 _ _ hb)) (by unfold lv; rw [List.length_map]; omega) (fun x hx H2 Nx S hNx => ?_) (fun D H2 n2 S2 h2 => ?_)⟩
    · obtain ⟨m, _, rfl⟩ := List.mem_map.mp hx
      unfold mv
      walk_at "go"
      rw [valBk]
      have ef : fH (AgM.surely rl d) (V.str (mk m)) = ((AgM.surely rl d).lookup m).map V.int := by
        unfold fH
        simp only [valBk]
      rw [show mv m = V.str (mk m) from rfl, ef] at hNx
      cases e : (AgM.surely rl d).lookup m with
      | none =>
        rw [e] at hNx
        walk_at "go"
        exact hNx _ (Same.refl _)
      | some z =>
        rw [e] at hNx
        have eg : valV (bk (AgM.surely rl d)) (Sum.inr (mk m)) = some (.int z) := by rw [valBk, e]; rfl
        walk_at "go"
        exact hNx _ (Same.refl _)
    rw [fH_hits] at h2
    have hpl : ((AgM.hitsOf rl d l).map V.int).all plV = true := by
      rw [List.all_map, List.all_eq_true]
      exact fun _ _ => rfl
    have hlen : (AgM.hitsOf rl d l).length ≤ 3 := Nat.le_trans (List.length_filterMap_le _ _) hl
    walk_at "go"
    intro z H3 n3 S3 h3'
    refine rd_eqL (S3 _ _ h2) h3' hpl rfl ?_
    walk_at "go"
    have h23 := S1.trans (S2.trans S3)
    cases eh : AgM.hitsOf rl d l with
    | nil =>
      have e9 : AgM.nearest rl d l = none := by
        unfold AgM.nearest
        rw [eh]
      refine iteDT rfl ?_
      walk_at "go"
      rw [e9] at h
      exact h _ h23
    | cons y r =>
      have e9 : AgM.nearest rl d l = some (AgM.minOf (y :: r)) := by
        unfold AgM.nearest
        rw [eh]
      rw [e9] at h
      rw [eh] at h2 hlen
      refine iteDF (fun z => by cases z) ?_
      walk_at "go"
      refine ⟨_, rfl, ⟨_, sql (S3 _ _ h2)⟩, lc_fm (fun v => some v) (sql (S3 _ _ h2)) (by rw [List.length_map]; omega) (fun x hx H4 Nx S hNx => ?_) (fun D2 H4 n4 S4 h4' => ?_)⟩
      · obtain ⟨i, _, rfl⟩ := List.mem_map.mp hx
        walk_at "go"
        exact hNx _ (Same.refl _)
      · rw [List.filterMap_some] at h4'
        walk_at "go"
        refine rd_min (sql h4') (by simp) (fun m m1 m2 => ?_)
        rw [minOf_only m1 m2]
        exact h _ (h23.trans S4)
  exact ⟨_, T.meth 138, F.1⟩
theorem c_nearest {K : PySem.W.Frag} {H : Hp} {Q : VK} {E : XK} {a b : Addr} {N : List Deed} {R : List Arr} {rl : Rl} {G : Nat → Age} {kp : Addr} {cc : Nat} {B : Addr → Prop} {l : List Mark} {n : Nat} {d : Deed} (hag : IsAg K H a N R rl G kp cc B) (hb : H b = some (.tup (lv l))) (hl : l.length ≤ 3) (hd : N[n]? = some d) (hdo : d.ok) (q : ∀ H', Same H H' → Q (agV (AgM.nearest rl d l)) H') : sp_Ages_nearest K [.ref a, .ref b, .int n] H Q E :=
  ⟨_, _, _, rfl, a, b, N, R, rl, G, kp, cc, B, l, n, d, rfl, rfl, rfl, hag, hb, hl, hd, hdo, q⟩
theorem rd_neAge {H : Hp} {Q : VK} {x : Age} {j : Int} (q : Q (.bl (!decide (x = some j))) H) : rNe (agV x) (.int j) H Q := by
  cases x with
  | none => exact ⟨rfl, by simpa [agV] using q⟩
  | some i =>
    refine rd_nei ?_
    rw [show decide (i = j) = decide ((some i : Age) = some j) by simp]
    exact q
theorem ag_at {l : List Age} {i : Nat} (h : i < l.length) : atI (l.map agV) (i : Int) = some (agV (l.getD i none)) := by
  refine atI_nat ?_
  rw [List.getElem?_map, List.getElem?_eq_getElem h, List.getD_eq_getElem?_getD, List.getElem?_eq_getElem h]
  rfl
def sp_Ages_arriving (K : PySem.W.Frag) : Sp := sp3 fun self table node H Q => ∃ (a b : Addr) (N : List Deed) (R : List Arr) (rl : Rl) (G : Nat → Age) (kp : Addr) (cc : Nat) (B : Addr → Prop) (tb : List Age) (n : Nat), self = .ref a ∧ table = .ref b ∧ node = .int n ∧ IsAg K H a N R rl G kp cc B ∧ WOk N R ∧ H b = some (.lst (tb.map agV)) ∧ tb.length = N.length ∧ ∀ H', Same H H' → Q (agV (AgM.arriving R tb n)) H'
theorem sc_Ages_arriving : FnScope n_Ages_arriving p_Ages_arriving d_Ages_arriving.scope := ⟨rfl, rfl, rfl, by decide +kernel, rfl, by decide +kernel, by decide +kernel⟩
theorem ok_Ages_arriving (T : Tx K mg) : GM P w K mg base (He.ga K "Ages") "arriving" 2 (sp_Ages_arriving K) := by
  have F := mkR (P := P) (w := w) (base := base) T 46 (d := d_Ages_arriving) rfl rfl sc_Ages_arriving (fun _ _ _ _ _ _ us hl => match us, hl with | [_, _, _], _ => rfl) len3 (k := 1) (sp := (sp_Ages_arriving K)) fun cdv A outer s H vs Q E hr h => by
    obtain ⟨self, table, node, rfl, h⟩ := h
    refine ⟨_, (pss_cons (ps_set (i := 3) sc_Ages_arriving.nd rfl (Or.inl rfl) (pe_un un_neg pe_int))
      (pss_cons (ps_for PassesOwn.never rfl (ji_list (K := K) (pe_gm (pe_f (pv 0) (T.cls 129) (T.noat 132)) (T.cls 117) (ok_Way_into (K := K) T) hr (pa_cons (pv 2) pa_nil))) (jg_tup (K := K) (n := 5) rfl (pgs_cons (pg_name (i := 4) sc_Ages_arriving.nd rfl (Or.inl rfl)) (pgs_cons (pg_name (i := 5) sc_Ages_arriving.nd rfl (Or.inl rfl)) (pgs_cons (pg_name (i := 6) sc_Ages_arriving.nd rfl (Or.inl rfl)) (pgs_cons (pg_name (i := 7) sc_Ages_arriving.nd rfl (Or.inl rfl)) (pgs_cons (pg_name (i := 8) sc_Ages_arriving.nd rfl (Or.inl rfl)) pgs_nil)))))) (pss_cons (ps_set (i := 9) sc_Ages_arriving.nd rfl (Or.inl rfl) (pe_ix (jx_list (K := K)) (pv 1) (pv 4) (fun _ _ => rfl)))
      (pss_one (ps_if (pt_cmpR op_ne (pv 9) (pe_un un_neg pe_int) (nomark _)) (pss_cons (ps_set (i := 10) sc_Ages_arriving.nd rfl (Or.inl rfl) (pe_ifExp (PW.pt (pw_or (pt_cmpR op_isN' (pv 9) pe_non (nomark _)) (pw_or1 (pt_cmpR op_isN' (pv 7) pe_non (nomark _))))) pe_non (pe_op op_add (pv 9) (pv 7))))
      (pss_one (ps_set (i := 3) sc_Ages_arriving.nd rfl (Or.inl rfl) (pe_ifExp (pt_val (pe_gf (ok_is_more (K := K) T) hr (pa_cons (pv 10) (pa_cons (pv 3) pa_nil)))) (pv 10) (pv 3))))) pss_nil))))
      (pss_one (ps_ret (pv 3))))), ?_⟩
    obtain ⟨a, b, N, R, rl, G, kp, cc, B, tb, n, rfl, rfl, rfl, hag, W, hb, hl, h⟩ := h
    obtain ⟨dx, wa, ra, rv, h1, w, h3, h4⟩ := hag.open_
    have hR := W.a1
    walk_at "go"
    intro q rs H1 n1 S1 h1' t1
    have hz : rs.length = (AgM.into R n).length := by rw [t1.len, List.length_map]
    refine fo_list (xs := rs) (fun i σ H2 => ∃ c d e f g u v, σ = [some (.ref a), some (.ref b), some (.int n), some (agV (((AgM.into R n).take i).foldl (AgM.arrStep tb) (some (-1)))), c, d, e, f, g, u, v] ∧ Same H H2 ∧ Same H1 H2) (sql h1') ⟨_, _, _, _, _, _, _, rfl, S1, Same.refl _⟩ (fun i σ H2 _ hP => ?_) (fun i x σ H2 hi hP => ?_) (fun σ H2 hP => ?_)
    · obtain ⟨_, _, _, _, _, _, _, _, _, S2⟩ := hP
      exact sql (S2 _ _ h1')
    · obtain ⟨c, d, e, f, g, u, v, rfl, S2, S12⟩ := hP
      obtain ⟨y, r, rfl, er, hy⟩ := (t1.same S12).got hi
      obtain ⟨⟨o1, o2, o3, o4, o5, o6⟩, _, _, _⟩ := into_ok W (List.mem_of_getElem? er)
      have e2 := ag_at (l := tb) (i := r.s) (by omega)
      have hb2 := S2 _ _ hb
      rw [foldl_snoc _ _ _ er]
      generalize ((AgM.into R n).take i).foldl (AgM.arrStep tb) (some (-1)) = fo
      unfold AgM.arrStep
      generalize tb.getD r.s none = x at *
      walk_at "go"
      refine rd_neAge ?_
      walk_at "go"
      refine itedn (fun c1 => ?_) (fun c1 => ?_)
      · rw [if_neg c1]
        have key : ∀ (z : Age), AgM.addAge x r.m = z → ∀ σ' : L2.St, True → True := fun _ _ _ _ => trivial
        cases x with
        | none =>
          simp only [agV]
          walk_at "go"
          refine c_is_more (x := none) (y := fo) ?_
          walk_at "go"
          show if AgM.isMore none fo = true then _ else _
          refine iteb (fun c2 => ?_) (fun c2 => ?_)
          · walk_at "go"
            rw [show AgM.addAge none r.m = none from rfl, if_pos c2]
            exact ⟨_, _, _, _, _, _, _, rfl, S2, S12⟩
          · walk_at "go"
            rw [show AgM.addAge none r.m = none from rfl, if_neg (by rw [c2]; exact Bool.false_ne_true)]
            exact ⟨_, _, _, _, _, _, _, rfl, S2, S12⟩
        | some i0 =>
          simp only [agV]
          walk_at "go"
          refine c_is_more (x := some (i0 + r.m)) (y := fo) ?_
          walk_at "go"
          refine iteb (fun c2 => ?_) (fun c2 => ?_)
          · walk_at "go"
            rw [show AgM.addAge (some i0) r.m = some (i0 + r.m) from rfl, if_pos c2]
            exact ⟨_, _, _, _, _, _, _, rfl, S2, S12⟩
          · walk_at "go"
            rw [show AgM.addAge (some i0) r.m = some (i0 + r.m) from rfl, if_neg (by rw [c2]; exact Bool.false_ne_true)]
            exact ⟨_, _, _, _, _, _, _, rfl, S2, S12⟩
      · rw [if_pos c1]
        walk_at "go"
        exact ⟨_, _, _, _, _, _, _, rfl, S2, S12⟩
    obtain ⟨c, d, e, f, g, u, v, rfl, S2, S12⟩ := hP
    walk_at "go"
    rw [hz, List.take_length]
    exact h H2 S2
  exact ⟨_, T.meth 139, F.1⟩
theorem c_arriving {K : PySem.W.Frag} {H : Hp} {Q : VK} {E : XK} {a b : Addr} {N : List Deed} {R : List Arr} {rl : Rl} {G : Nat → Age} {kp : Addr} {cc : Nat} {B : Addr → Prop} {tb : List Age} {n : Nat} (hag : IsAg K H a N R rl G kp cc B) (W : WOk N R) (hb : H b = some (.lst (tb.map agV))) (hl : tb.length = N.length) (q : ∀ H', Same H H' → Q (agV (AgM.arriving R tb n)) H') : sp_Ages_arriving K [.ref a, .ref b, .int n] H Q E :=
  ⟨_, _, _, rfl, a, b, N, R, rl, G, kp, cc, B, tb, n, rfl, rfl, rfl, hag, W, hb, hl, q⟩
def grow : Nat → Nat
  | 0 => 0
  | k + 1 => 1 + 12 * grow k
def sp_tab (K : PySem.W.Frag) (k : Nat) : Sp := sp2 fun self looks H Q => ∃ (a b : Addr) (N : List Deed) (R : List Arr) (rl : Rl) (G : Nat → Age) (kp : Addr) (cc : Nat) (B : Addr → Prop) (l : List Mark), self = .ref a ∧ looks = .ref b ∧ IsAg K H a N R rl G kp cc B ∧ WOk N R ∧ H b = some (.tup (lv l)) ∧ l ≠ [] ∧ l.length ≤ k ∧ l.length ≤ 3 ∧ cc + grow k ≤ 1000 ∧ (∀ x, B x → H x ≠ none) ∧
  ∀ p H', Ex kp H H' → IsAg K H' a N R rl G kp (cc + grow k) B → H' p = some (.lst ((AgM.T N R rl G l).map agV)) → Q (.ref p) H'
def sp_set (K : PySem.W.Frag) (k : Nat) : Sp := sp3 fun self looks node H Q => ∃ (a b : Addr) (N : List Deed) (R : List Arr) (rl : Rl) (G : Nat → Age) (kp : Addr) (cc : Nat) (B : Addr → Prop) (l : List Mark) (n : Nat), self = .ref a ∧ looks = .ref b ∧ node = .int n ∧ IsAg K H a N R rl G kp cc B ∧ WOk N R ∧ H b = some (.tup (lv l)) ∧ l ≠ [] ∧ l.length ≤ k + 1 ∧ l.length ≤ 3 ∧ n < N.length ∧ cc + grow k ≤ 1000 ∧ (∀ x, B x → H x ≠ none) ∧
  ∀ H', Ex kp H H' → IsAg K H' a N R rl G kp (cc + grow k) B → Q (agV (AgM.settled N R rl G (AgM.T N R rl G) l n)) H'
theorem IsAg.more {K : PySem.W.Frag} {H : Hp} {a : Addr} {N : List Deed} {R : List Arr} {rl : Rl} {G : Nat → Age} {kp : Addr} {cc c2 : Nat} {B : Addr → Prop} (h : IsAg K H a N R rl G kp cc B) (le : cc ≤ c2) : IsAg K H a N R rl G kp c2 B := by
  obtain ⟨dx, wa, ra, rv, kvs, h1, h2, h3, h4, h5, h6, h7⟩ := h
  exact ⟨dx, wa, ra, rv, kvs, h1, h2, h3, h4, h5, Nat.le_trans h6 le, h7⟩
theorem IsAg.dT {K : PySem.W.Frag} {H : Hp} {a : Addr} {N : List Deed} {R : List Arr} {rl : Rl} {G : Nat → Age} {kp : Addr} {cc : Nat} {B : Addr → Prop} (h : IsAg K H a N R rl G kp cc B) : ∃ kvs, H kp = some (.dT kvs) := by
  obtain ⟨dx, wa, ra, rv, kvs, h1, h2, h3, h4, h5, h6, h7⟩ := h
  exact ⟨kvs, h5⟩
theorem c_stM {K : PySem.W.Frag} {H : Hp} {v : V} {p : Addr} {top : Age} {m : Str} {G : Prop} (s : IsSt K H v p top) (m1 : m ≠ "own_pairs") (q : G) : kM (He.ga K "Stretches") m v H G := by
  obtain ⟨a, dx, ws, L, rfl, h1, _⟩ := s
  refine rd_kM h1 ?_ q
  rw [List.lookup_cons, (beq_eq_false_iff_ne.mpr m1)]
  rfl
theorem sc_Ages_settled : FnScope n_Ages_settled p_Ages_settled d_Ages_settled.scope := ⟨rfl, rfl, rfl, by decide +kernel, rfl, by decide +kernel, by decide +kernel⟩
theorem ok_Ages_settled (T : Tx K mg) (k kt : Nat) (h0 : 20 ≤ kt) (Gt : GM P w K mg base (He.ga K "Ages") "table" kt (sp_tab K k)) : GM P w K mg base (He.ga K "Ages") "settled" (kt + 1) (sp_set K k) := by
  have F := mkR (P := P) (w := w) (base := base) T 47 (d := d_Ages_settled) rfl rfl sc_Ages_settled (fun _ _ _ _ _ _ us hl => match us, hl with | [_, _, _], _ => rfl) len3 (k := kt) (sp := (sp_set K k)) fun cdv A outer s H vs Q E hr h => by
    obtain ⟨self, looks, node, rfl, h⟩ := h
    refine ⟨_, (pss_cons (ps_if (pt_val (pe_gm (hk := by omega) (pv 0) (T.cls 129) (ok_Ages_is_told (K := K) T) hr (pa_cons (pv 1) (pa_cons (pv 2) pa_nil)))) (pss_one (ps_ret (pe_gm0 (hk := by omega) (pe_ix (jx_list (K := K)) (pe_f (pv 0) (T.cls 129) (T.noat 134)) (pv 2) (fun _ _ => rfl)) (T.cls 111) (ok_Stretches_greatest (K := K) T) hr))) pss_nil)
      (pss_cons (ps_set (i := 3) sc_Ages_settled.nd rfl (Or.inl rfl) (pe_gm (hk := by omega) (pv 0) (T.cls 129) (ok_Ages_nearest (K := K) T) hr (pa_cons (pv 1) (pa_cons (pv 2) pa_nil))))
      (pss_cons (ps_if (pt_cmpR op_isN' (pv 3) pe_non (nomark _)) (pss_one (ps_ret (pe_un un_neg pe_int))) pss_nil)
      (pss_cons (ps_set (i := 4) sc_Ages_settled.nd rfl (Or.inl rfl) (pe_gm (hk := by omega) (pv 0) (T.cls 129) (ok_Ages_rest_of (K := K) T) hr (pa_cons (pv 1) (pa_cons (pv 2) pa_nil))))
      (pss_cons (ps_if (PW.pt (pw_or (pt_val (pe_gf (hk := by omega) (ok_makes (K := K) T) hr (pa_cons (pe_gi (hk := by omega) (pe_f (pv 0) (T.cls 129) (T.noat 132)) (pv 2) (ok_Way_getitem (K := K) T) hr) pa_nil))) (pw_or1 (pt_cmpR (jo_eqD (K := K) hr.units) (pv 4) (pe_tup pa_nil) (nomark _))))) (pss_one (ps_ret (pv 3))) pss_nil)
      (pss_cons (ps_set (i := 5) sc_Ages_settled.nd rfl (Or.inl rfl) (pe_gm (hk := by omega) (pv 0) (T.cls 129) (ok_Ages_arriving (K := K) T) hr (pa_cons (pe_gm (hk := by omega) (pv 0) (T.cls 129) Gt hr (pa_cons (pv 4) pa_nil)) (pa_cons (pv 2) pa_nil))))
      (pss_one (ps_ret (pe_ifExp (PW.pt (pw_or (pt_cmpR op_isN' (pv 5) pe_non (nomark _)) (pw_or1 (pt_cmpR op_gt (pv 5) (pv 3) (nomark _))))) (pv 3) (pv 5)))))))))), ?_⟩
    obtain ⟨a, b, N, R, rl, G, kp, cc, B, l, n, rfl, rfl, rfl, hag, W, hb, hl0, hlk, hl3, hn, hg, hB, h⟩ := h
    obtain ⟨dx, wa, ra, rv, h1, w, h3, h4⟩ := hag.open_
    obtain ⟨d, ed, gd⟩ := getD_at hn
    have hdo := W.ok d (List.mem_of_getElem? ed)
    have es : AgM.settled N R rl G (AgM.T N R rl G) l n = (if AgM.isTold rl d l = true then G n else match AgM.nearest rl d l with
        | none => some (-1)
        | some near => if d.makes = true ∨ AgM.restOf rl d l = [] then some near else AgM.pickOld near (AgM.arriving R (AgM.T N R rl G (AgM.restOf rl d l)) n)) := by
      unfold AgM.settled
      rw [gd]
      try rfl
    walk_at "go"
    refine c_told hag hb ed ?_
    walk_at "go"
    refine iteb (fun c1 => ?_) (fun c1 => ?_)
    · rw [es, if_pos c1] at h
      obtain ⟨p, ws, rfl, q1, q2, q3⟩ := h4
      obtain ⟨u, q, eu, su⟩ := q3 n hn
      have eu2 := atI_of eu
      walk_at "go"
      refine c_stM su (by decide) ?_
      walk_at "go"
      refine c_greatest su (fun H1 S1 => ?_)
      exact h H1 (Ex.of S1) ((hag.same S1).more (by omega))
    · rw [es, if_neg (by rw [c1]; exact Bool.false_ne_true)] at h
      walk_at "go"
      refine c_nearest hag hb hl3 ed hdo (fun H1 S1 => ?_)
      cases en : AgM.nearest rl d l with
      | none =>
        rw [en] at h
        simp only [agV]
        walk_at "go"
        exact h H1 (Ex.of S1) ((hag.same S1).more (by omega))
      | some near =>
        rw [en] at h
        dsimp only at h
        simp only [agV]
        walk_at "go"
        refine c_rest (hag.same S1) (S1 _ _ hb) hl3 ed hdo (fun p2 H2 S2 h2 => ?_)
        have hag2 := (hag.same S1).same S2
        have w2 := (w.same S1).same S2
        have h1b := S2 _ _ (S1 _ _ h1)
        walk_at "go"
        intro b2 hb2
        walk_at "go"
        intro H3 S3
        walk_at "go"
        have S03 := S1.trans (S2.trans S3)
        refine iteb (fun c2 => ?_) (fun c2 => ?_)
        · walk_at "go"
          have h' : AgM.settled N R rl G (AgM.T N R rl G) l n = some near := by
            rw [es, if_neg (by rw [c1]; exact Bool.false_ne_true), en]
            exact if_pos (.inl c2)
          have h9 := h H3 (Ex.of S03) ((hag.same S03).more (by omega))
          rw [if_pos (show d.makes = true ∨ AgM.restOf rl d l = [] from .inl c2)] at h9
          exact h9
        · walk_at "go"
          intro z H4 n4 S4 h4'
          refine rd_eqT (S4 _ _ (S3 _ _ h2)) h4' (lv_pl _) rfl ?_
          walk_at "go"
          have S04 := S03.trans S4
          by_cases c3 : AgM.restOf rl d l = []
          · refine iteDT (by rw [c3]; rfl) ?_
            walk_at "go"
            have h9 := h H4 (Ex.of S04) ((hag.same S04).more (by omega))
            rw [if_pos (show d.makes = true ∨ AgM.restOf rl d l = [] from .inr c3)] at h9
            exact h9
          · refine iteDF (fun z => c3 (by
              have : (lv (AgM.restOf rl d l)) = lv [] := z
              exact lv_inj this)) ?_
            have hne : ¬ (d.makes = true ∨ AgM.restOf rl d l = []) := fun z => by
              rcases z with z | z
              · rw [c2] at z
                cases z
              · exact c3 z
            have hag4 := hag.same S04
            obtain ⟨dx4, wa4, ra4, rv4, h14, _⟩ := hag4.open_
            have hlt := AgM.rest_lt (rl := rl) (d := d) (looks := l) (by rw [en]; simp)
            walk_at "go"
            refine ⟨_, _, rfl, a, p2, N, R, rl, G, kp, cc, B, AgM.restOf rl d l, rfl, rfl, hag4, W, S4 _ _ (S3 _ _ h2), c3, by omega, by omega, hg, fun x hx e => hB x hx (S04.free e), fun p5 H5 X5 hag5 h5 => ?_⟩
            obtain ⟨dx5, wa5, ra5, rv5, h15, _⟩ := hag5.open_
            walk_at "go"
            refine c_arriving hag5 W h5 ?_ (fun H6 S6 => ?_)
            · rw [AgM.T_eq c3, AgM.walked_len]
            have hX : Ex kp H H6 := (Ex.of S04).trans (X5.trans (Ex.of S6))
            have h9 := h H6 hX (hag5.same S6)
            rw [if_neg hne] at h9
            cases eo : AgM.arriving R (AgM.T N R rl G (AgM.restOf rl d l)) n with
            | none =>
              rw [eo] at h9
              simp only [agV]
              walk_at "go"
              exact h9
            | some o =>
              rw [eo] at h9
              simp only [agV]
              walk_at "go"
              refine ited (fun c5 => ?_) (fun c5 => ?_)
              · walk_at "go"
                rw [show AgM.pickOld near (some o) = some near from if_pos c5] at h9
                exact h9
              · walk_at "go"
                rw [show AgM.pickOld near (some o) = some o from if_neg c5] at h9
                exact h9
  exact ⟨_, T.meth 140, F.1⟩
/-- a list at D is new: no kept list may have its place -/
theorem IsAg.ban {K : PySem.W.Frag} {H H' : Hp} {a : Addr} {N : List Deed} {R : List Arr} {rl : Rl} {G : Nat → Age} {kp : Addr} {cc : Nat} {B : Addr → Prop} {D : Addr} (h : IsAg K H a N R rl G kp cc B) (n : H D = none) (S : Same H H') : IsAg K H' a N R rl G kp cc (fun x => B x ∨ x = D) := by
  obtain ⟨dx, wa, ra, rv, kvs, h1, h2, h3, h4, h5, h6, h7⟩ := h
  refine ⟨dx, wa, ra, rv, kvs, S _ _ h1, h2.same S, h3.same S, h4.same S, S _ _ h5, h6, fun k v e => ?_⟩
  obtain ⟨l, p, e1, e2, e3, e4⟩ := h7 k v e
  refine ⟨l, p, e1, e2, fun z => ?_, S _ _ e4⟩
  rcases z with z | z
  · exact e3 z
  · rw [z, n] at e4
    cases e4
theorem IsAg.less {K : PySem.W.Frag} {H : Hp} {a : Addr} {N : List Deed} {R : List Arr} {rl : Rl} {G : Nat → Age} {kp : Addr} {cc : Nat} {B B2 : Addr → Prop} (h : IsAg K H a N R rl G kp cc B) (le : ∀ x, B2 x → B x) : IsAg K H a N R rl G kp cc B2 := by
  obtain ⟨dx, wa, ra, rv, kvs, h1, h2, h3, h4, h5, h6, h7⟩ := h
  refine ⟨dx, wa, ra, rv, kvs, h1, h2, h3, h4, h5, h6, fun k v e => ?_⟩
  obtain ⟨l, p, e1, e2, e3, e4⟩ := h7 k v e
  exact ⟨l, p, e1, e2, fun z => e3 (le _ z), e4⟩
/-- the list at D is written: the fixed parts from the old heap -/
theorem IsAg.put {K : PySem.W.Frag} {H H' H'' : Hp} {a : Addr} {N : List Deed} {R : List Arr} {rl : Rl} {G : Nat → Age} {kp : Addr} {c0 cc : Nat} {B0 B : Addr → Prop} {D : Addr} (h0 : IsAg K H a N R rl G kp c0 B0) (n : H D = none) (h : IsAg K H' a N R rl G kp cc B) (b : B D) (X : Ex kp H H'') (k : ∀ b o, b ≠ D → H' b = some o → H'' b = some o) : IsAg K H'' a N R rl G kp cc B := by
  obtain ⟨dx, wa, ra, rv, kvs0, g1, g2, g3, g4, g5, _⟩ := h0
  obtain ⟨_, _, _, _, kvs, _, _, _, _, h5, h6, h7⟩ := h
  have K1 : Kp H H'' := Kp.ex X g5 rfl
  have nk : kp ≠ D := ne_of_none g5 n
  refine ⟨dx, wa, ra, rv, kvs, K1 _ _ (by decide +kernel : skKeys.contains "way" = true) g1, g2.kp K1, g3.kp K1, g4.kp K1, k _ _ nk h5, h6, fun ky v e => ?_⟩
  obtain ⟨l, p, e1, e2, e3, e4⟩ := h7 ky v e
  exact ⟨l, p, e1, e2, e3, k _ _ (fun z => e3 (z ▸ b)) e4⟩
def sp_wal (K : PySem.W.Frag) (k : Nat) : Sp := sp2 fun self looks H Q => ∃ (a b : Addr) (N : List Deed) (R : List Arr) (rl : Rl) (G : Nat → Age) (kp : Addr) (cc : Nat) (B : Addr → Prop) (l : List Mark), self = .ref a ∧ looks = .ref b ∧ IsAg K H a N R rl G kp cc B ∧ WOk N R ∧ H b = some (.tup (lv l)) ∧ l ≠ [] ∧ l.length ≤ k + 1 ∧ l.length ≤ 3 ∧ cc + 12 * grow k ≤ 1000 ∧ (∀ x, B x → H x ≠ none) ∧
  ∀ p H', H p = none → Ex kp H H' → IsAg K H' a N R rl G kp (cc + 12 * grow k) (fun x => B x ∨ x = p) → H' p = some (.lst ((AgM.T N R rl G l).map agV)) → Q (.ref p) H'
theorem rd_eqAge {H : Hp} {Q : VK} {x : Age} {j : Int} (q : Q (.bl (decide (x = some j))) H) : rEq (agV x) (.int j) H Q := by
  cases x with
  | none => exact ⟨rfl, by simpa [agV] using q⟩
  | some i =>
    refine rd_eqi ?_
    rw [show decide (i = j) = decide ((some i : Age) = some j) by simp]
    exact q
/-- a comprehension over a range, each turn of which changes the thing at kp too; what holds may name the turn -/
theorem lc_rngI {K : PySem.W.Frag} {σ : L2.St} {H : Hp} {Q : VK} {g : TG} {tt : TT} {te : TE} {vs : List Nat} {kp : Addr} {o0 : HO} (f : Nat → V) (I : Nat → Addr → Hp → Prop) {n : Nat} (hl : n ≤ 60000) (hk : H kp = some o0) (I0 : ∀ D, H D = none → I 0 D (upd H D (.lst [])))
    (Iu : ∀ i D H' H'', H D = none → Ex kp H H'' → I i D H' → (∀ b o, b ≠ D → H' b = some o → H'' b = some o) → I i D H'')
    (ht : ∀ D i, H D = none → i < n → ∀ (H2 : Hp) (N : Option V → Hp → Prop), I i D H2 → Ex kp H H2 → (∃ acc, H2 D = some (.lst acc)) → (∀ H3, Ex kp H2 H3 → I (i + 1) D H3 → N (some (f i)) H3) →
      g (.int (0 + (i : Nat))) (wipe σ vs) H2 fun σ2 H3 => wipe σ2 vs = wipe σ vs ∧ tt σ2 H3 fun b H4 => if b = true then te σ2 H4 fun y H5 => N (some y) H5 else N none H4)
    (q : ∀ D H', H D = none → Ex kp H H' → I n D H' → H' D = some (.lst ((List.range n).map f)) → Q (.ref D) H') : kLc (Itr 0 n) g tt te vs σ H Q := by
  intro D hD
  have hne : kp ≠ D := ne_of_none hk hD
  refine lc_range (lo := 0) (n := n) (fun i H' => i ≤ n ∧ Ex kp H H' ∧ I i D H' ∧ H' D = some (.lst ((List.range i).map f))) ⟨Nat.zero_le _, Ex.of (same_upd hD), I0 D hD, upd_same⟩ (fun i H' hi h => ?_) (fun H' h => ?_)
  · obtain ⟨_, X, i1, eD⟩ := h
    have key : ∀ H3, Ex kp H' H3 → I (i + 1) D H3 → ∃ acc, H3 D = some (.lst acc) ∧ acc.length < sizeLine ∧ (i + 1 ≤ n ∧ Ex kp H (upd H3 D (.lst (acc ++ [f i]))) ∧ I (i + 1) D (upd H3 D (.lst (acc ++ [f i]))) ∧ upd H3 D (.lst (acc ++ [f i])) D = some (.lst ((List.range (i + 1)).map f))) := fun H3 X3 i3 => by
      have e3 : H3 D = some (.lst ((List.range i).map f)) := X3 _ _ (Ne.symm hne) eD
      have XX : Ex kp H (upd H3 D (.lst ((List.range i).map f ++ [f i]))) := fun b o nb e => by
        rw [upd_ne (ne_of_none e hD)]
        exact X3 _ _ nb (X _ _ nb e)
      refine ⟨_, e3, smallB (by rw [List.length_map, List.length_range]; omega), hi, XX, Iu _ D H3 _ hD XX i3 (fun b o nb e => by rw [upd_ne nb]; exact e), ?_⟩
      rw [upd_same, List.range_succ, List.map_append]
      rfl
    exact ht D i hD hi H' (fun o H3 => match o with
        | some y => ∃ acc, H3 D = some (.lst acc) ∧ acc.length < sizeLine ∧ (i + 1 ≤ n ∧ Ex kp H (upd H3 D (.lst (acc ++ [y]))) ∧ I (i + 1) D (upd H3 D (.lst (acc ++ [y]))) ∧ upd H3 D (.lst (acc ++ [y])) D = some (.lst ((List.range (i + 1)).map f)))
        | none => i + 1 ≤ n ∧ Ex kp H H3 ∧ I (i + 1) D H3 ∧ H3 D = some (.lst ((List.range (i + 1)).map f))) i1 X ⟨_, eD⟩ key
  · obtain ⟨_, X, i1, eD⟩ := h
    exact q D H' hD X i1 eD
theorem pass_fm {N : List Deed} {F : List Age} : (List.range N.length).filterMap (fun n => if F.getD n none = some (-1) then some (nv n) else none) = (AgM.passing N F).map nv := by
  unfold AgM.passing
  rw [← List.filterMap_eq_map, ← List.filterMap_eq_filter, List.filterMap_filterMap]
  congr 1
  funext n
  by_cases c : F.getD n none = some (-1)
  · rw [if_pos c]
    rw [List.getD_eq_getElem?_getD] at c
    simp [Option.guard, c]
  · rw [if_neg c]
    rw [List.getD_eq_getElem?_getD] at c
    simp [Option.guard, c]
theorem ag_set (F : List Age) (n : Nat) (v : Age) : (F.map agV).set n (agV v) = (F.set n v).map agV := by rw [List.map_set]
theorem sc_Ages_walked : FnScope n_Ages_walked p_Ages_walked d_Ages_walked.scope := ⟨rfl, rfl, rfl, by decide +kernel, rfl, by decide +kernel, by decide +kernel⟩
theorem ok_Ages_walked (T : Tx K mg) (k kt : Nat) (h0 : 20 ≤ kt) (Gs : GM P w K mg base (He.ga K "Ages") "settled" kt (sp_set K k)) : GM P w K mg base (He.ga K "Ages") "walked" (kt + 1) (sp_wal K k) := by
  have F := mkR (P := P) (w := w) (base := base) T 49 (d := d_Ages_walked) rfl rfl sc_Ages_walked (fun _ _ _ _ _ _ us hl => match us, hl with | [_, _], _ => rfl) len2 (k := kt) (sp := (sp_wal K k)) fun cdv A outer s H vs Q E hr h => by
    obtain ⟨self, looks, rfl, h⟩ := h
    refine ⟨_, (pss_cons (ps_set (i := 2) sc_Ages_walked.nd rfl (Or.inl rfl) (pe_gl (hk := by omega) (T.free 69) (ok_Way_len (K := K) T) hr (pa_cons (pe_f (pv 0) (T.cls 129) (T.noat 132)) pa_nil)))
      (pss_cons (ps_set (i := 3) sc_Ages_walked.nd rfl (Or.inr rfl) (pe_lc (own := [("node", 6)]) (g := gName 6) (tt := tYes) rfl sc_Ages_walked.nd (pi_range1 (by rfl) (T.free 71) (pa_cons (pv 2) pa_nil)) (blkOk_by (own := [("node", 6)]) (N := n_Ages_walked) (sc := d_Ages_walked.scope) (by decide +kernel)) (fun _ _ _ _ _ => pg_name (i := 6) sc_Ages_walked.nd rfl (Or.inl rfl)) (fun _ _ _ _ _ => pts_nil) (fun _ _ _ _ _ => (pe_gm (hk := by omega) (pv 0) (T.cls 129) Gs hr (pa_cons (pv 1) (pa_cons (pv 6) pa_nil))))))
      (pss_cons (ps_setLc (i := 4) (own := [("node", 6)]) (g := gName 6) rfl sc_Ages_walked.nd rfl rfl (sw_true rfl rfl rfl (by decide +kernel)) (pi_range1 (by rfl) (T.free 71) (pa_cons (pv 2) pa_nil)) (blkOk_by (own := [("node", 6)]) (N := n_Ages_walked) (sc := d_Ages_walked.scope) (by decide +kernel)) (fun _ _ _ _ _ => pg_name (i := 6) sc_Ages_walked.nd rfl (Or.inl rfl)) (fun _ _ _ _ _ => (pts_one (pt_cmpR op_eq (pe_ix (jx_list (K := K)) (pv 3) (pv 6) (fun _ _ => rfl)) (pe_un un_neg pe_int) (nomark _)))) (fun _ _ _ _ _ => (pv 6)))
      (pss_cons (ps_for PassesOwn.never rfl (pi_range1 (by rfl) (T.free 71) (pa_cons (pe_op op_add (pe_op op_mul pe_int (pv 2)) pe_int) pa_nil)) (pg_name (i := 5) sc_Ages_walked.nd rfl (Or.inl rfl)) (pss_one (ps_for PassesOwn.never rfl (ji_list (K := K) (pv 4)) (pg_name (i := 6) sc_Ages_walked.nd rfl (Or.inl rfl)) (pss_cons (ps_set (i := 7) sc_Ages_walked.nd rfl (Or.inl rfl) (pe_gm (hk := by omega) (pv 0) (T.cls 129) (ok_Ages_arriving (K := K) T) hr (pa_cons (pv 3) (pa_cons (pv 6) pa_nil))))
      (pss_one (ps_if (pt_val (pe_gf (hk := by omega) (ok_is_more (K := K) T) hr (pa_cons (pv 7) (pa_cons (pe_ix (jx_list (K := K)) (pv 3) (pv 6) (fun _ _ => rfl)) pa_nil)))) (pss_one (ps_asg (pe_ifExp (pt_cmpR op_gt (pv 5) (pv 2) (nomark _)) pe_non (pv 7)) (pg_sub (pv 3) (pv 6) set_list (by intro _; rfl)))) pss_nil))))))
      (pss_one (ps_ret (pv 3))))))), ?_⟩
    obtain ⟨a, b, N, R, rl, G, kp, cc, B, l, rfl, rfl, hag, W, hb, hl0, hlk, hl3, hg, hB, h⟩ := h
    obtain ⟨dx, wa, ra, rv, h1, w, h3, h4⟩ := hag.open_
    have hn := W.n2
    have hn1 := W.n1
    obtain ⟨kvs0, hkp⟩ := hag.dT
    have nbk : b ≠ kp := ne_of hb hkp (by intro z; cases z)
    walk_at "go"
    refine ⟨_, rfl, by omega, by omega, ?_⟩
    rw [Int.toNat_natCast]
    refine lc_rngI (K := K) (kp := kp) (fun i => agV (AgM.settled N R rl G (AgM.T N R rl G) l i)) (fun i D H' => IsAg K H' a N R rl G kp (cc + i * grow k) (fun x => B x ∨ x = D)) (by omega) hkp (fun D nD => (hag.ban nD (same_upd nD)).more (by omega)) (fun i D H' H'' nD X hI kk => hag.put nD hI (.inr rfl) X kk) (fun D i nD hi H2 Nx hI X hacc hNx => ?_) (fun D H1 nD X1 hI h1' => ?_)
    · obtain ⟨acc, hacc⟩ := hacc
      obtain ⟨dx2, wa2, ra2, rv2, h12, _⟩ := hI.open_
      obtain ⟨kvs2, hkp2⟩ := hI.dT
      have hm := Nat.mul_le_mul_right (grow k) (show i + 1 ≤ 12 by omega)
      rw [Nat.succ_mul] at hm
      rw [Int.zero_add]
      walk_at "go"
      refine ⟨_, _, _, rfl, a, b, N, R, rl, G, kp, cc + i * grow k, (fun x => B x ∨ x = D), l, i, rfl, rfl, rfl, hI, W, X _ _ nbk hb, hl0, hlk, hl3, hi, by omega, fun x hx e => ?_, fun H3 X3 hag3 => ?_⟩
      · rcases hx with hx | hx
        · cases ex : H x with
          | none => exact hB x hx ex
          | some o =>
            by_cases z : x = kp
            · rw [z, hkp2] at e
              cases e
            · rw [X _ _ z ex] at e
              cases e
        · rw [hx, hacc] at e
          cases e
      · refine hNx H3 X3 ?_
        rw [Nat.succ_mul, ← Nat.add_assoc]
        exact hag3
    have hmn := Nat.mul_le_mul_right (grow k) hn
    have hI2 := hI.more (show cc + N.length * grow k ≤ cc + 12 * grow k by omega)
    have e0 : (List.range N.length).map (fun i => agV (AgM.settled N R rl G (AgM.T N R rl G) l i)) = (AgM.found0 N R rl G (AgM.T N R rl G) l).map agV := by
      unfold AgM.found0
      rw [List.map_map]
      rfl
    rw [e0] at h1'
    have hF0 : (AgM.found0 N R rl G (AgM.T N R rl G) l).length = N.length := AgM.found0_len _ _
    have eT := AgM.T_eq (nodes := N) (arrows := R) (rl := rl) (G := G) hl0
    unfold AgM.walked at eT
    generalize AgM.found0 N R rl G (AgM.T N R rl G) l = F0 at *
    obtain ⟨dx1, wa1, ra1, rv1, h11, w1, _⟩ := hI2.open_
    walk_at "go"
    refine ⟨_, rfl, by omega, by omega, ?_⟩
    rw [Int.toNat_natCast]
    refine lc_fmR (fun n => if F0.getD n none = some (-1) then some (nv n) else none) (by omega) (fun i hi H2 Nx S hNx => ?_) (fun q H2 n2 S2 h2 => ?_)
    · have e2 := ag_at (l := F0) (i := i) (by omega)
      have h1d := S _ _ h1'
      rw [Int.zero_add]
      walk_at "go"
      refine rd_eqAge ?_
      walk_at "go"
      refine ited (fun c => ?_) (fun c => ?_)
      · walk_at "go"
        rw [if_pos c] at hNx
        exact hNx _ (Same.refl _)
      · rw [if_neg c] at hNx
        walk_at "go"
        exact hNx _ (Same.refl _)
    rw [pass_fm] at h2
    have hps : ∀ n ∈ AgM.passing N F0, n < N.length := fun n hn => AgM.passing_lt hn
    generalize AgM.passing N F0 = PS at *
    walk_at "go"
    have nq : q ≠ D := fun z => by
      rw [z, h1'] at n2
      cases n2
    refine rd_I (.inl (by omega)) ?_
    walk_at "go"
    refine fo_range (n := 2 * N.length + 1) (by omega) (by omega) (fun t σ H3 => ∃ (x y z : Option V), σ = [some (.ref a), some (.ref b), some (.int N.length), some (.ref D), some (.ref q), x, y, z] ∧ Ex kp H H3 ∧ IsAg K H3 a N R rl G kp (cc + 12 * grow k) (fun x => B x ∨ x = D) ∧ H3 q = some (.lst (PS.map nv)) ∧ H3 D = some (.lst (((List.range t).foldl (fun f t => PS.foldl (AgM.relax R N.length t) f) F0).map agV)))
      ⟨_, _, _, rfl, X1.trans (Ex.of S2), hI2.same S2, h2, S2 _ _ h1'⟩ (fun t σ H3 ht hP => ?_) (fun σ H3 hP => ?_)
    · obtain ⟨x, y, z, rfl, X3, hag3, h3q, h3d⟩ := hP
      have hFt : ((List.range t).foldl (fun f t => PS.foldl (AgM.relax R N.length t) f) F0).length = N.length := by rw [AgM.passes_len]; exact hF0
      have et : (List.range (t + 1)).foldl (fun f t => PS.foldl (AgM.relax R N.length t) f) F0 = PS.foldl (AgM.relax R N.length t) ((List.range t).foldl (fun f t => PS.foldl (AgM.relax R N.length t) f) F0) := by
        rw [List.range_succ, List.foldl_append]
        rfl
      rw [et]
      generalize (List.range t).foldl (fun f t => PS.foldl (AgM.relax R N.length t) f) F0 = F at *
      walk_at "go"
      refine fo_list (xs := PS.map nv) (fun i σ H4 => ∃ (y z : Option V), σ = [some (.ref a), some (.ref b), some (.int N.length), some (.ref D), some (.ref q), some (.int t), y, z] ∧ Ex kp H H4 ∧ IsAg K H4 a N R rl G kp (cc + 12 * grow k) (fun x => B x ∨ x = D) ∧ H4 q = some (.lst (PS.map nv)) ∧ H4 D = some (.lst (((PS.take i).foldl (AgM.relax R N.length t) F).map agV)))
        (sql h3q) ⟨_, _, rfl, X3, hag3, h3q, h3d⟩ (fun i σ H4 _ hP => ?_) (fun i x σ H4 hi hP => ?_) (fun σ H4 hP => ?_)
      · obtain ⟨_, _, _, _, _, z, _⟩ := hP
        exact sql z
      · obtain ⟨y, z, rfl, X4, hag4, h4q, h4d⟩ := hP
        rw [List.getElem?_map] at hi
        obtain ⟨n, en, ex⟩ : ∃ n, PS[i]? = some n ∧ x = nv n := by
          cases e : PS[i]? with
          | none => rw [e] at hi; cases hi
          | some n => rw [e] at hi; exact ⟨n, rfl, (Option.some.inj hi).symm⟩
        subst ex
        have hnl : n < N.length := hps n (List.mem_of_getElem? en)
        have hl4 : ((PS.take i).foldl (AgM.relax R N.length t) F).length = N.length := by rw [AgM.relaxs_len]; exact hFt
        rw [foldl_snoc _ _ _ en]
        generalize (PS.take i).foldl (AgM.relax R N.length t) F = F2 at *
        obtain ⟨dx4, wa4, ra4, rv4, h14, _⟩ := hag4.open_
        unfold nv
        walk_at "go"
        refine c_arriving hag4 W h4d hl4 (fun H5 S5 => ?_)
        have e2 := ag_at (l := F2) (i := n) (by omega)
        have h5d := S5 _ _ h4d
        have h5q := S5 _ _ h4q
        have X5 := X4.trans (Ex.of S5)
        have hag5 := hag4.same S5
        walk_at "go"
        refine c_is_more ?_
        walk_at "go"
        unfold AgM.relax
        refine iteb (fun c => ?_) (fun c => ?_)
        · rw [if_pos c]
          have done : ∀ (v : Age) (H6 : Hp), Ex D H5 H6 → H6 D = some (.lst ((F2.map agV).set n (agV v))) → Ex kp H H6 ∧ IsAg K H6 a N R rl G kp (cc + 12 * grow k) (fun x => B x ∨ x = D) ∧ H6 q = some (.lst (PS.map nv)) ∧ H6 D = some (.lst ((F2.set n v).map agV)) := fun v H6 X6 h6 => by
            have XX : Ex kp H H6 := fun c o nc e => X6 _ _ (ne_of_none e nD) (X5 _ _ nc e)
            refine ⟨XX, hag.put nD hag5 (.inr rfl) XX (fun b o nb e => X6 _ _ nb e), X6 _ _ nq h5q, ?_⟩
            rw [ag_set] at h6
            exact h6
          walk_at "go"
          refine ited (fun c2 => ?_) (fun c2 => ?_)
          · walk_at "go"
            refine rd_setL h5d (j := n) (by rw [List.length_map]; exact ixN_nat (by omega)) (fun H6 X6 h6 => ?_)
            rw [if_pos (show t > N.length by omega)]
            exact ⟨_, _, rfl, done none H6 X6 h6⟩
          · walk_at "go"
            refine rd_setL h5d (j := n) (by rw [List.length_map]; exact ixN_nat (by omega)) (fun H6 X6 h6 => ?_)
            rw [if_neg (show ¬ t > N.length by omega)]
            exact ⟨_, _, rfl, done _ H6 X6 h6⟩
        · rw [if_neg (by rw [c]; exact Bool.false_ne_true)]
          walk_at "go"
          exact ⟨_, _, rfl, X5, hag5, h5q, h5d⟩
      · obtain ⟨y, z, rfl, X4, hag4, h4q, h4d⟩ := hP
        rw [List.length_map, List.take_length] at h4d
        exact ⟨_, _, _, rfl, X4, hag4, h4q, h4d⟩
    · obtain ⟨x, y, z, rfl, X3, hag3, h3q, h3d⟩ := hP
      walk_at "go"
      rw [← eT] at h3d
      exact h D H3 nD X3 hag3 h3d
  exact ⟨_, T.meth 142, F.1⟩
theorem rd_ninT {H : Hp} {Q : VK} {a b : Addr} {kvs : List (List Key × V)} {k : List Key} (h : H a = some (.dT kvs)) (hb : H b = some (.tup (k.map kV))) (q : Q (.bl (!(valV kvs k).isSome)) H) : kNin (.ref b) (.ref a) H Q := ⟨a, _, rfl, DGet.t h hb, q⟩
theorem rd_getT {H : Hp} {Q : VK} {a b : Addr} {kvs : List (List Key × V)} {k : List Key} {v : V} (h : H a = some (.dT kvs)) (hb : H b = some (.tup (k.map kV))) (e : valV kvs k = some v) (q : Q v H) : kGet (.ref a) (.ref b) H Q := ⟨a, v, rfl, e ▸ DGet.t h hb, q⟩
theorem rd_putT {H : Hp} {a b : Addr} {kvs : List (List Key × V)} {k : List Key} {v : V} {N : Hp → Prop} (h : H a = some (.dT kvs)) (hb : H b = some (.tup (k.map kV))) (l : kvs.length ≤ 60000) (q : ∀ H1, Ex a H H1 → H1 a = some (.dT (putK kvs k v)) → N H1) : kPut (.ref a) (.ref b) v H N := ⟨a, _, rfl, DPut.t h hb (smallB l), q _ ex_upd upd_same⟩
theorem kyL_inj {a b : List Mark} (h : kyL a = kyL b) : a = b := lv_inj (by rw [← kyL_v, ← kyL_v, h])
theorem sc_Ages_table : FnScope n_Ages_table p_Ages_table d_Ages_table.scope := ⟨rfl, rfl, rfl, by decide +kernel, rfl, by decide +kernel, by decide +kernel⟩
theorem ok_Ages_table (T : Tx K mg) (k kt : Nat) (h0 : 20 ≤ kt) (Gw : GM P w K mg base (He.ga K "Ages") "walked" kt (sp_wal K k)) : GM P w K mg base (He.ga K "Ages") "table" (kt + 1) (sp_tab K (k + 1)) := by
  have F := mkR (P := P) (w := w) (base := base) T 48 (d := d_Ages_table) rfl rfl sc_Ages_table (fun _ _ _ _ _ _ us hl => match us, hl with | [_, _], _ => rfl) len2 (k := kt) (sp := (sp_tab K (k + 1))) fun cdv A outer s H vs Q E hr h => by
    obtain ⟨self, looks, rfl, h⟩ := h
    refine ⟨_, (pss_cons (ps_if (pt_cmp (pc_dnotin (hu_of hr) (pv 1) (pe_f (pv 0) (T.cls 129) (T.noat 135))) (by with_unfolding_all rfl)) (pss_one (ps_dput (hu_of hr) (pe_f (pv 0) (T.cls 129) (T.noat 135)) (pv 1) (pe_gm (hk := by omega) (pv 0) (T.cls 129) Gw hr (pa_cons (pv 1) pa_nil)) (by rfl))) pss_nil)
      (pss_one (ps_ret (pe_dget (hu_of hr) (pe_f (pv 0) (T.cls 129) (T.noat 135)) (pv 1) (fun _ _ => rfl))))), ?_⟩
    obtain ⟨a, b, N, R, rl, G, kp, cc, B, l, rfl, rfl, hag, W, hb, hl0, hlk, hl3, hg, hB, h⟩ := h
    have eg : grow (k + 1) = 1 + 12 * grow k := rfl
    obtain ⟨dx, wa, ra, rv, kvs, h1, w, h3, h4, h5, h6, h7⟩ := id hag
    have hb' : H b = some (.tup ((kyL l).map kV)) := by rw [kyL_v]; exact hb
    walk_at "go"
    refine rd_ninT (k := kyL l) h5 hb' ?_
    walk_at "go"
    cases e : valV kvs (kyL l) with
    | some v =>
      obtain ⟨l2, p, e1, e2, e3, e4⟩ := h7 _ _ e
      have e5 := kyL_inj e1
      subst e5
      subst e2
      walk_at "go"
      refine rd_getT (k := kyL l) h5 hb' e ?_
      exact h p H Ex.refl (hag.more (by omega)) e4
    | none =>
      refine iteT ?_
      walk_at "go"
      refine ⟨_, _, rfl, a, b, N, R, rl, G, kp, cc, B, l, rfl, rfl, hag, W, hb, hl0, hlk, hl3, by omega, hB, fun p H1 np X1 hag1 hp => ?_⟩
      obtain ⟨dx1, wa1, ra1, rv1, kvs1, g1, g2, g3, g4, g5, g6, g7⟩ := id hag1
      have nbk : b ≠ kp := ne_of hb h5 (by intro z; cases z)
      have npk : p ≠ kp := (ne_of_none h5 np).symm
      have hb1 : H1 b = some (.tup ((kyL l).map kV)) := X1 _ _ nbk hb'
      walk_at "go"
      refine rd_putT (k := kyL l) g5 hb1 (by omega) (fun H2 X2 h2 => ?_)
      have K2 : Kp H1 H2 := Kp.ex X2 g5 rfl
      have hag2 : IsAg K H2 a N R rl G kp (cc + grow (k + 1)) B := by
        refine ⟨dx1, wa1, ra1, rv1, _, K2 _ _ (by decide +kernel : skKeys.contains "way" = true) g1, g2.kp K2, g3.kp K2, g4.kp K2, h2, ?_, fun ky v e => ?_⟩
        · have := length_putK kvs1 (kyL l) (V.ref p)
          omega
        · rw [valV_put] at e
          by_cases c : ky = kyL l
          · rw [if_pos c] at e
            cases e
            exact ⟨l, p, c, rfl, fun z => hB p z np, X2 _ _ npk hp⟩
          · rw [if_neg c] at e
            obtain ⟨l2, p2, e1, e2, e3, e4⟩ := g7 _ _ e
            exact ⟨l2, p2, e1, e2, fun z => e3 (.inl z), X2 _ _ (ne_of e4 g5 (by intro z; cases z)) e4⟩
      obtain ⟨dx2, wa2, ra2, rv2, kvs2, f1, _⟩ := id hag2
      walk_at "go"
      refine rd_getT (k := kyL l) h2 (X2 _ _ nbk hb1) (v := .ref p) (by rw [valV_put, if_pos rfl]) ?_
      exact h p H2 (X1.trans X2) hag2 (X2 _ _ npk hp)
  exact ⟨_, T.meth 141, F.1⟩
theorem ok_tab0 (T : Tx K mg) : GM P w K mg base (He.ga K "Ages") "table" 20 (sp_tab K 0) := by
  have F := mkR (P := P) (w := w) (base := base) T 48 (d := d_Ages_table) rfl rfl sc_Ages_table (fun _ _ _ _ _ _ us hl => match us, hl with | [_, _], _ => rfl) len2 (k := 19) (sp := (sp_tab K 0)) fun cdv A outer s H vs Q E hr h => by
    obtain ⟨_, _, rfl, a, b, N, R, rl, G, kp, cc, B, l, _, _, _, _, _, hl0, hlk, _⟩ := h
    exact absurd (List.eq_nil_of_length_eq_zero (by omega)) hl0
  exact ⟨_, T.meth 141, F.1⟩
theorem ok_tab1 (T : Tx K mg) : GM P w K mg base (He.ga K "Ages") "table" 23 (sp_tab K 1) := ok_Ages_table T 0 22 (by decide) (ok_Ages_walked T 0 21 (by decide) (ok_Ages_settled T 0 20 (by decide) (ok_tab0 T)))
theorem ok_tab2 (T : Tx K mg) : GM P w K mg base (He.ga K "Ages") "table" 26 (sp_tab K 2) := ok_Ages_table T 1 25 (by decide) (ok_Ages_walked T 1 24 (by decide) (ok_Ages_settled T 1 23 (by decide) (ok_tab1 T)))
theorem ok_tab3 (T : Tx K mg) : GM P w K mg base (He.ga K "Ages") "table" 29 (sp_tab K 3) := ok_Ages_table T 2 28 (by decide) (ok_Ages_walked T 2 27 (by decide) (ok_Ages_settled T 2 26 (by decide) (ok_tab2 T)))
theorem c_table {K : PySem.W.Frag} {H : Hp} {Q : VK} {E : XK} {a b : Addr} {N : List Deed} {R : List Arr} {rl : Rl} {G : Nat → Age} {kp : Addr} {l : List Mark} (hag : IsAg K H a N R rl G kp 0 (fun _ => False)) (W : WOk N R) (hb : H b = some (.tup (lv l))) (h0 : l ≠ []) (h3 : l.length ≤ 3)
    (q : ∀ p H', Ex kp H H' → H' p = some (.lst ((AgM.T N R rl G l).map agV)) → Q (.ref p) H') : sp_tab K 3 [.ref a, .ref b] H Q E :=
  ⟨_, _, rfl, a, b, N, R, rl, G, kp, 0, fun _ => False, l, rfl, rfl, hag, W, hb, h0, h3, h3, by decide, fun _ z => z.elim, fun p H' X _ hp => q p H' X hp⟩
def kFrz (x : V) (H : Hp) (Q : VK) : Prop := ∃ (d : Addr) (u : HO), x = .ref d ∧ H d = some u ∧ Mut (some u) ∧ ∀ od, Q x (upd H d (.frz od u))
theorem rd_frz {td : TE} {σ : L2.St} {H : Hp} {Q : VK} (h : td σ H fun x H1 => kFrz x H1 Q) : tFrz td σ H Q := h
local macro_rules | `(tactic| walk_at "call") => `(tactic| ((with_reducible apply rd_frz)))
theorem rd_kFrz {H : Hp} {Q : VK} {d : Addr} {kvs : List (Key × V)} (h : H d = some (.dK kvs)) (q : ∀ od H1, Ex d H H1 → H1 d = some (.frz od (.dK kvs)) → Q (.ref d) H1) : kFrz (.ref d) H Q := ⟨d, _, rfl, h, True.intro, fun od => q od _ ex_upd upd_same⟩
local macro_rules | `(tactic| walk_at "call") => `(tactic| ((with_reducible apply rd_kFrz); (· walk_at "hp")))
theorem rd_iItems {td : TE} {σ : L2.St} {H : Hp} {R : It → Hp → Prop} (h : td σ H fun x H1 => ∃ d o kvs, x = .ref d ∧ H1 d = some (.frz o (.dK kvs)) ∧ R (Iti d o kvs) H1) : iItems td σ H R := h
local macro_rules | `(tactic| walk_at "call") => `(tactic| ((with_reducible apply rd_iItems)))
def kUnlS (d : Addr) (od : Obj) (kvs : List (Key × V)) (H : Hp) (N : Hp → Prop) : Prop := H d = some (.frz od (.dK kvs)) ∧ N (upd H d (.dK kvs))
theorem rd_kUnlS {d : Addr} {od : Obj} {kvs : List (Key × V)} {H : Hp} {N : Hp → Prop} (h : H d = some (.frz od (.dK kvs))) (q : ∀ H1, Ex d H H1 → H1 d = some (.dK kvs) → N H1) : kUnlS d od kvs H N := ⟨h, q _ ex_upd upd_same⟩
theorem rd_lockS {t : TS} {nx bk ct : L2.St → Hp → Prop} {rt : VK} {σ : L2.St} {H : Hp} {d : Addr} {kvs : List (Key × V)} (h : H d = some (.dK kvs)) (q : ∀ od H1, Ex d H H1 → H1 d = some (.frz od (.dK kvs)) →
    t ⟨fun σ' H' => kUnlS d od kvs H' (nx σ'), fun v H' => kUnlS d od kvs H' (rt v), fun σ' H' => kUnlS d od kvs H' (bk σ'), fun σ' H' => kUnlS d od kvs H' (ct σ')⟩ σ H1) : tLock t ⟨nx, rt, bk, ct⟩ σ H := ⟨d, _, h, True.intro, fun od => q od _ ex_upd upd_same⟩
local macro_rules | `(tactic| walk_at "call") => `(tactic| ((with_reducible apply rd_lockS); (· walk_at "hp")))
def kPW (C : Addr) (sp : Sp) (y x : V) (H : Hp) (N : Hp → Prop) : Prop := ∃ (a dx : Addr) (fs : List (Str × V)), x = V.ref a ∧ H a = some (.ins C dx fs) ∧ sp [.ref a, y] H (fun _ H3 => N H3) E0
theorem rd_propSet {C : Addr} {sp : Sp} {ta tv : TE} {nx bk ct : L2.St → Hp → Prop} {rt : VK} {σ : L2.St} {H : Hp} (h : tv σ H fun y H1 => ta σ H1 fun x H2 => kPW C sp y x H2 fun H3 => nx σ H3) : sPropSet C sp E0 ta tv ⟨nx, rt, bk, ct⟩ σ H := h
local macro_rules | `(tactic| walk_at "call") => `(tactic| ((with_reducible apply rd_propSet)))
theorem rd_kPW {C : Addr} {sp : Sp} {y : V} {H : Hp} {N : Hp → Prop} {a dx : Addr} {fs : List (Str × V)} (h : H a = some (.ins C dx fs)) (q : sp [.ref a, y] H (fun _ H3 => N H3) E0) : kPW C sp y (.ref a) H N := ⟨a, dx, fs, rfl, h, q⟩
local macro_rules | `(tactic| walk_at "call") => `(tactic| ((with_reducible apply rd_kPW); (· walk_at "hp")))
theorem rd_listD {H : Hp} {Q : VK} {p : Addr} {kvs : List (Key × V)} (h : H p = some (.dK kvs)) (q : ∀ l H1, H l = none → Same H H1 → Q (.ref l) H1) : rListD [.ref p] H Q := ⟨p, kvs, rfl, h, fun l n => q l _ n (same_upd n)⟩
local macro_rules | `(tactic| walk_at "call") => `(tactic| ((with_reducible apply rd_listD); (· walk_at "hp")))
/-- all but what stands at a and b -/
def Ex2 (a b : Addr) (H H' : Hp) : Prop := ∀ c o, c ≠ a → c ≠ b → H c = some o → H' c = some o
theorem Ex2.trans {a b : Addr} {H H1 H2 : Hp} (x : Ex2 a b H H1) (y : Ex2 a b H1 H2) : Ex2 a b H H2 := fun c o n1 n2 h => y c o n1 n2 (x c o n1 n2 h)
theorem Ex.l2 {a b : Addr} {H H1 : Hp} (x : Ex a H H1) : Ex2 a b H H1 := fun c o n1 _ h => x c o n1 h
theorem Ex.r2 {a b : Addr} {H H1 : Hp} (x : Ex b H H1) : Ex2 a b H H1 := fun c o _ n2 h => x c o n2 h
theorem Ex2.of {a b : Addr} {H H1 : Hp} (x : Same H H1) : Ex2 a b H H1 := fun c o _ _ h => x c o h
theorem Ex2.same {a b : Addr} {H H1 H2 : Hp} (n1 : H a = none) (n2 : H b = none) (x : Same H H1) (y : Ex2 a b H1 H2) : Same H H2 := fun c o h => y c o (ne_of_none h n1) (ne_of_none h n2) (x c o h)
def fv (ru tp : Addr) (held : Bool) (t : Int) : List (Str × V) := [("rule", .ref ru), ("own_held", .bl held), ("own_last", .int t), ("own_table", .ref tp)]
def IsF (K : PySem.W.Frag) (H : Hp) (a ru tp : Addr) (held : Bool) (t : Int) (tb : Tb) : Prop := ∃ dx, H a = some (.ins (He.ga K "File") dx (fv ru tp held t)) ∧ H tp = some (.dK (tbk tb))
theorem IsF.same {K : PySem.W.Frag} {H H' : Hp} {a ru tp : Addr} {held : Bool} {t : Int} {tb : Tb} (S : Same H H') (h : IsF K H a ru tp held t tb) : IsF K H' a ru tp held t tb := by
  obtain ⟨dx, h1, h2⟩ := h
  exact ⟨dx, S _ _ h1, S _ _ h2⟩
theorem bk_get {s : List (Mark × Int)} {i : Nat} {k : Key} {v : V} (h : (bk s)[i]? = some (k, v)) : ∃ m b, s[i]? = some (m, b) ∧ k = Sum.inr (mk m) ∧ v = .int b := by
  unfold bk at h
  rw [List.getElem?_map] at h
  cases e : s[i]? with
  | none => rw [e] at h; cases h
  | some p =>
    rw [e] at h
    obtain ⟨m, b⟩ := p
    cases (Option.some.inj h)
    exact ⟨m, b, rfl, rfl, rfl⟩
def tkb (s : List (Mark × Int)) (t : Int) : List (Key × V) := s.map fun p => ((Sum.inr (mk p.1) : Key), V.int (t - p.2))
theorem tk_put {d : Deed} (hm : d.makes = true) {t : Int} {i : Nat} {m : Mark} {b : Int} (e : d.backs[i]? = some (m, b)) : putK (tkb (d.backs.take i) t) (Sum.inr (mk m)) (.int (t - b)) = tkb (d.backs.take (i + 1)) t := by
  have hno : ∀ (s : List (Mark × Int)), (∀ p ∈ s, p.1 ≠ m) → valV (tkb s t) (Sum.inr (mk m)) = none := fun s => by
    induction s with
    | nil => exact fun _ => rfl
    | cons p r ih =>
      intro h
      have h1 : ¬ ((Sum.inr (mk p.1) : Key) = Sum.inr (mk m)) := fun z => h p List.mem_cons_self (mk_inj (Sum.inr.inj z))
      show valV ((Sum.inr (mk p.1), V.int (t - p.2)) :: tkb r t) _ = none
      rw [valV_neg h1]
      exact ih fun q hq => h q (List.mem_cons_of_mem _ hq)
  have h2 : ∀ p ∈ d.backs.take i, p.1 ≠ m := by
    cases d <;> cases hm <;> (rcases i with _ | _ | _ | i) <;> first | (cases e; simp [Deed.backs]; done) | (simp [Deed.backs] at e; done)
  rw [putK_new _ (hno _ h2), List.take_add_one, e]
  unfold tkb
  rw [List.map_append]
  rfl
theorem tk_all {d : Deed} (hm : d.makes = true) (t : Int) (rl : Rl) (tb0 : Tb) : tkb d.backs t = tbk (AgM.doDeed rl d t tb0) := by
  cases d <;> cases hm <;> simp [AgM.doDeed, AgM.settingOf, AgM.setAll, Deed.backs, tkb, tbk, Tb.put, mk]
def TOk (t : Int) : Prop := -1000000000000000000000000000000 ≤ t ∧ t ≤ 1000000000000000000000000000000
def sp_File_init (K : PySem.W.Frag) : Sp := sp4 fun self rule deed at_ H Q => ∃ (a dx ru dp dr : Addr) (rf : List (Str × V)) (d : Deed) (t : Int), self = .ref a ∧ rule = .ref ru ∧ deed = .ref dp ∧ at_ = .int t ∧ H a = some (.ins (He.ga K "File") dx []) ∧ H ru = some (.ins (He.ga K "Rule") dr rf) ∧ H dp = some (.tup (dv d)) ∧ d.ok ∧ d.makes = true ∧ TOk t ∧ ∀ tp tb H', Ex a H H' → H tp = none → IsF K H' a ru tp false t tb → (∀ rl tb0, AgM.doDeed rl d t tb0 = tb) → Q .non H'
theorem sc_File_init : FnScope n_File_init p_File_init d_File_init.scope := ⟨rfl, rfl, rfl, by decide +kernel, rfl, by decide +kernel, by decide +kernel⟩
theorem ok_File_init (T : Tx K mg) : GC P w K mg base "File" (He.ga K "File") 6 (sp_File_init K) := by
  have F := mkR (P := P) (w := w) (base := base) T 50 (d := d_File_init) rfl rfl sc_File_init (fun _ _ _ _ _ _ us hl => match us, hl with | [_, _, _, _], _ => rfl) len4 (k := 5) (sp := (sp_File_init K)) fun cdv A outer s H vs Q E hr h => by
    obtain ⟨self, rule, deed, at_, rfl, h⟩ := h
    refine ⟨_, (pss_cons (ps_expr (pe_gf (ok_check_rule (K := K) T) hr (pa_cons (pv 1) pa_nil)))
      (pss_cons (ps_if (pt_not (pt_val (pe_gf (ok_makes (K := K) T) hr (pa_cons (pv 2) pa_nil)))) (pss_one ps_never) pss_nil)
      (pss_cons (ps_set (i := 4) sc_File_init.nd rfl (Or.inl rfl) (pe_gf (ok_seconds_of (K := K) T) hr (pa_cons (pv 3) pa_nil)))
      (pss_cons (ps_if (pt_cmpR op_isN' (pv 4) pe_non (nomark _)) (pss_one ps_never) pss_nil)
      (pss_cons (ps_f (pv 0) (pv 1) (T.cls 143) (T.noat 146))
      (pss_cons (ps_f (pv 0) pe_bl (T.cls 143) (T.noat 147))
      (pss_cons (ps_f (pv 0) (pv 4) (T.cls 143) (T.noat 148))
      (pss_cons (ps_f (pv 0) pe_dnewK (T.cls 143) (T.noat 149))
      (pss_one (ps_for PassesOwn.never rfl (pi_items (pe_frz (pe_gf (ok_backs (K := K) T) hr (pa_cons (pv 2) pa_nil)))) (jg_tup (K := K) (n := 2) rfl (pgs_cons (pg_name (i := 5) sc_File_init.nd rfl (Or.inl rfl)) (pgs_cons (pg_name (i := 6) sc_File_init.nd rfl (Or.inl rfl)) pgs_nil))) (pss_one (ps_dput (hu_of hr) (pe_f (pv 0) (T.cls 143) (T.noat 149)) (pv 5) (pe_op op_sub (pv 4) (pv 6)) (by rfl))))))))))))), ?_⟩
    obtain ⟨a, dx, ru, dp, dr, rf, d, t, rfl, rfl, rfl, rfl, ha, hru, hdp, hdo, hdm, ⟨t1, t2⟩, h⟩ := h
    have ht : -1000000000000000000000000000000 ≤ t ∧ t ≤ 1000000000000000000000000000000 := ⟨t1, t2⟩
    have nda : dp ≠ a := ne_of hdp ha (by intro z; cases z)
    walk_at "go"
    intro H1 S1
    rw [hdm]
    walk_at "go"
    intro H2 X2 h2
    walk_at "go"
    intro H3 X3 h3
    walk_at "go"
    intro H4 X4 h4
    walk_at "go"
    intro tp H5 n5 S5 h5
    walk_at "go"
    intro H6 X6 h6
    have X06 : Ex a H H6 := (Ex.of S1).trans (X2.trans (X3.trans (X4.trans ((Ex.of S5).trans X6))))
    have hdp6 := X06 _ _ nda hdp
    have h5a := S5 _ _ h4
    have ntp : tp ≠ a := ne_of h5 h5a (by intro z; cases z)
    have ntp0 : H tp = none := by
      cases e : H tp with
      | none => rfl
      | some o =>
        rw [X4 _ _ ntp (X3 _ _ ntp (X2 _ _ ntp (S1 _ _ e)))] at n5
        cases n5
    have h6t := X6 _ _ ntp h5
    walk_at "go"
    intro bp H7 n7 S7 h7
    walk_at "go"
    intro od H8 X8 h8
    have h7a := S7 _ _ h6
    have h7t := S7 _ _ h6t
    have nb : bp ≠ a := (ne_of_none h6 n7).symm
    have nbt : bp ≠ tp := (ne_of_none h6t n7).symm
    have nb0 : H bp = none := by
      cases e : H bp with
      | none => rfl
      | some o =>
        rw [X06 _ _ nb e] at n7
        cases n7
    have X08 : Ex a H H8 := fun c o nc e => X8 _ _ (ne_of_none e nb0) (S7 _ _ (X06 _ _ nc e))
    refine fo_items (kvs := bk d.backs) (fun i σ H9 => ∃ x y, σ = [some (.ref a), some (.ref ru), some (.ref dp), some (.int t), some (.int t), x, y] ∧ Ex a H H9 ∧ H9 a = some (.ins (He.ga K "File") dx (fv ru tp false t)) ∧ H9 bp = some (.frz od (.dK (bk d.backs))) ∧ H9 tp = some (.dK (tkb (d.backs.take i) t)))
      h8 ⟨_, _, rfl, X08, X8 _ _ nb.symm h7a, h8, X8 _ _ nbt.symm h7t⟩ (fun i σ H9 _ hP => ?_) (fun i k v σ H9 p H10 hi hP n10 S10 h10 => ?_) (fun σ H9 hP => ?_)
    · obtain ⟨_, _, _, _, _, z, _⟩ := hP
      exact z
    · obtain ⟨x, y, rfl, X9, h9a, h9b, h9t⟩ := hP
      obtain ⟨m, b, es, rfl, rfl⟩ := bk_get hi
      have h10a := S10 _ _ h9a
      have h10t := S10 _ _ h9t
      have h10b := S10 _ _ h9b
      dsimp only [kV] at h10
      unfold fv at h10a
      walk_at "go"
      refine rd_putS h10t ?_ (fun H11 X11 h11 => ?_)
      · unfold tkb
        rw [List.length_map, List.length_take]
        have : i < d.backs.length := (List.getElem?_eq_some_iff.mp es).1
        have : d.backs.length ≤ 3 := by cases d <;> simp [Deed.backs]
        omega
      rw [tk_put hdm es] at h11
      exact ⟨_, _, rfl, fun c o nc e => X11 _ _ (ne_of_none e ntp0) (S10 _ _ (X9 _ _ nc e)), X11 _ _ ntp.symm h10a, X11 _ _ nbt h10b, h11⟩
    · obtain ⟨x, y, rfl, X9, h9a, h9b, h9t⟩ := hP
      have e3 : d.backs.take (bk d.backs).length = d.backs := by
        unfold bk
        rw [List.length_map, List.take_length]
      rw [e3] at h9t
      walk_at "go"
      refine h tp (AgM.doDeed .always d t ⟨0, 0, 0⟩) H9 X9 ntp0 ⟨dx, h9a, ?_⟩ (fun rl tb0 => ?_)
      · rw [← tk_all hdm]
        exact h9t
      · cases d <;> cases hdm <;> rfl
  exact ⟨_, T.glo 66, T.mkr 144, F.1⟩
theorem tbk_put (t : Tb) (m : Mark) (v : Int) : putK (tbk t) (Sum.inr (mk m)) (.int v) = tbk (t.put m v) := by cases m <;> rfl
def sp_File_do (K : PySem.W.Frag) : Sp := sp3 fun self deed at_ H Q => ∃ (a ru tp dp : Addr) (held : Bool) (t0 : Int) (tb : Tb) (rl : Rl) (d : Deed) (t : Int), self = .ref a ∧ deed = .ref dp ∧ at_ = .int t ∧ IsF K H a ru tp held t0 tb ∧ IsRl K H ru rl ∧ H dp = some (.tup (dv d)) ∧ d.ok ∧ t0 < t ∧ TOk t ∧ ∀ v H', Ex2 a tp H H' → IsF K H' a ru tp (held && !d.makes) t (AgM.doDeed rl d t tb) → Q v H'
theorem sc_File_do : FnScope n_File_do p_File_do d_File_do.scope := ⟨rfl, rfl, rfl, by decide +kernel, rfl, by decide +kernel, by decide +kernel⟩
theorem ok_File_do (T : Tx K mg) : GM P w K mg base (He.ga K "File") "do" 6 (sp_File_do K) := by
  have F := mkR (P := P) (w := w) (base := base) T 51 (d := d_File_do) rfl rfl sc_File_do (fun _ _ _ _ _ _ us hl => match us, hl with | [_, _, _], _ => rfl) len3 (k := 5) (sp := (sp_File_do K)) fun cdv A outer s H vs Q E hr h => by
    obtain ⟨self, deed, at_, rfl, h⟩ := h
    refine ⟨_, (pss_cons (ps_if (pt_not (pt_val (pe_gf (ok_is_deed (K := K) T) hr (pa_cons (pv 1) pa_nil)))) (pss_one ps_never) pss_nil)
      (pss_cons (ps_set (i := 3) sc_File_do.nd rfl (Or.inl rfl) (pe_gf (ok_seconds_of (K := K) T) hr (pa_cons (pv 2) pa_nil)))
      (pss_cons (ps_if (PW.pt (pw_or (pt_cmpR op_isN' (pv 3) pe_non (nomark _)) (pw_or1 (pt_cmpR op_le (pv 3) (pe_f (pv 0) (T.cls 143) (T.noat 148)) (nomark _))))) (pss_one ps_never) pss_nil)
      (pss_cons (ps_set (i := 4) sc_File_do.nd rfl (Or.inl rfl) (pe_gf (ok_backs (K := K) T) hr (pa_cons (pv 1) pa_nil)))
      (pss_cons (ps_if (PW.pt (pw_and (pt_cmpR op_eq (pe_ix (jx_tup (K := K)) (pv 1) pe_int (fun _ _ => rfl)) pe_str (nomark _)) (pw_and1 (pt_val (pe_gm (pe_f (pv 0) (T.cls 143) (T.noat 146)) (T.cls 100) (ok_Rule_sets (K := K) T) hr (pa_cons (pe_f (pv 0) (T.cls 143) (T.noat 149)) (pa_cons (pv 3) pa_nil))))))) (pss_one (ps_set (i := 4) sc_File_do.nd rfl (Or.inl rfl) (pe_disp (pps_cons pe_str pe_int pps_nil) (by rfl) (by rfl) (fun z => by cases z) (by decide)))) pss_nil)
      (pss_cons (ps_lock (ps_for PassesOwn.never rfl (pi_items (pv 4)) (jg_tup (K := K) (n := 2) rfl (pgs_cons (pg_name (i := 5) sc_File_do.nd rfl (Or.inl rfl)) (pgs_cons (pg_name (i := 6) sc_File_do.nd rfl (Or.inl rfl)) pgs_nil))) (pss_one (ps_dput (hu_of hr) (pe_f (pv 0) (T.cls 143) (T.noat 149)) (pv 5) (pe_op op_sub (pv 3) (pv 6)) (by rfl)))))
      (pss_cons (ps_if (pt_val (pe_gf (ok_makes (K := K) T) hr (pa_cons (pv 1) pa_nil))) (pss_one (ps_f (pv 0) pe_bl (T.cls 143) (T.noat 147))) pss_nil)
      (pss_cons (ps_f (pv 0) (pv 3) (T.cls 143) (T.noat 148))
      (pss_one (ps_ret (pe_ct (call_list_dK rfl) (T.free 79) (pa_cons (pv 4) pa_nil)))))))))))), ?_⟩
    obtain ⟨a, ru, tp, dp, held, t0, tb, rl, d, t, rfl, rfl, rfl, ⟨dx, hfa, hft⟩, ⟨dr, hru⟩, hdp, hdo, hlt, ⟨t1, t2⟩, h⟩ := h
    have ht : -1000000000000000000000000000000 ≤ t ∧ t ≤ 1000000000000000000000000000000 := ⟨t1, t2⟩
    have e0 := at0 d
    have e1 := dz_read d
    unfold fv at hfa
    walk_at "go"
    intro H1 S1
    walk_at "go"
    refine iteDF (by omega) ?_
    walk_at "go"
    intro bp2 H2 n2 S2 h2
    have S02 := S1.trans S2
    walk_at "go"
    rw [e1]
    refine ited (fun c1 => ?cA) (fun c1 => ?cB)
    case' cA =>
      walk_at "go"
      refine iteb (fun c2 => ?cA1) (fun c2 => ?cA2)
      case' cA1 =>
        walk_at "go"
        intro bp3 H3 n3 S3 h3
        walk_at "go"
        intro H4 X4 h4
        have hs : AgM.settingOf rl d tb t = [(.read, 0)] := by
          unfold AgM.settingOf
          rw [if_pos ⟨c1, c2⟩]
        have h4 : H4 bp3 = some (.dK (bk [(Mark.read, 0)])) := h4
        rw [← hs] at h4
        have S4 : Same H H4 := Ex.same (S02.free n3) (S02.trans S3) X4
        have nb0 : H bp3 = none := S02.free n3
        generalize bp3 = bp at *
        clear S3 h3 X4 n3
      case' cA2 =>
        have hs : AgM.settingOf rl d tb t = d.backs := by
          unfold AgM.settingOf
          rw [if_neg fun z => by rw [c2] at z; cases z.2]
        have h4 := h2
        rw [← hs] at h4
        have S4 := S02
        have nb0 : H bp2 = none := S1.free n2
        generalize bp2 = bp at *
    case' cB =>
      have hs : AgM.settingOf rl d tb t = d.backs := by
        unfold AgM.settingOf
        rw [if_neg fun z => c1 z.1]
      have h4 := h2
      rw [← hs] at h4
      have S4 := S02
      have nb0 : H bp2 = none := S1.free n2
      generalize bp2 = bp at *
    all_goals
      walk_at "go"
      intro od H5 X5 h5
      have h4a := S4 _ _ hfa
      have h4t := S4 _ _ hft
      have hpd := S4 _ _ hdp
      have nta : tp ≠ a := ne_of h4t h4a (by intro z; cases z)
      have nda : dp ≠ a := ne_of hpd h4a (by intro z; cases z)
      have ndt : dp ≠ tp := ne_of hpd h4t (by intro z; cases z)
      have nbt : bp ≠ tp := (ne_of_none hft nb0).symm
      have nab : a ≠ bp := ne_of_none hfa nb0
      have S5 : Same H H5 := Ex.same nb0 S4 X5
      clear h4
      have hsl : (AgM.settingOf rl d tb t).length ≤ 3 := by
        rw [hs]
        first | exact (by decide) | (cases d <;> simp [Deed.backs])
      have edo : AgM.doDeed rl d t tb = AgM.setAll tb t (AgM.settingOf rl d tb t) := rfl
      rw [edo] at h
      generalize AgM.settingOf rl d tb t = s0 at *
      walk_at "go"
      refine fo_items (kvs := bk s0) (fun i σ H9 => ∃ x y, σ = [some (.ref a), some (.ref dp), some (.int t), some (.int t), some (.ref bp), x, y] ∧ Ex tp H H9 ∧ H9 bp = some (.frz od (.dK (bk s0))) ∧ H9 tp = some (.dK (tbk (AgM.setAll tb t (s0.take i)))))
        h5 ⟨_, _, rfl, Ex.of S5, h5, S5 _ _ hft⟩ (fun i σ H9 _ hP => ?_) (fun i k v σ H9 p H10 hi hP n10 S10 h10 => ?_) (fun σ H9 hP => ?_)
      · obtain ⟨_, _, _, _, z, _⟩ := hP
        exact z
      · obtain ⟨x, y, rfl, X9, h9b, h9t⟩ := hP
        obtain ⟨m, b, es, rfl, rfl⟩ := bk_get hi
        have h10a := S10 _ _ (X9 _ _ nta.symm hfa)
        have h10t := S10 _ _ h9t
        have h10b := S10 _ _ h9b
        dsimp only [kV] at h10
        walk_at "go"
        refine rd_putS h10t (by show 3 ≤ 60000; omega) (fun H11 X11 h11 => ?_)
        rw [tbk_put] at h11
        refine ⟨_, _, rfl, X9.trans ((Ex.of S10).trans X11), X11 _ _ nbt h10b, ?_⟩
        rw [List.take_add_one, es]
        unfold AgM.setAll
        rw [List.foldl_append]
        exact h11
      · obtain ⟨x, y, rfl, X9, h9b, h9t⟩ := hP
        have e3 : s0.take (bk s0).length = s0 := by
          unfold bk
          rw [List.length_map, List.take_length]
        rw [e3] at h9t
        refine rd_kUnlS h9b (fun H10 X10 h10 => ?_)
        have h10a := X10 _ _ nab (X9 _ _ nta.symm hfa)
        have h10t := X10 _ _ nbt.symm h9t
        have h10d := X10 _ _ (ne_of_none hdp nb0) (X9 _ _ ndt hdp)
        have X010 : Ex tp H H10 := fun c o nc e => X10 _ _ (ne_of_none e nb0) (X9 _ _ nc e)
        walk_at "go"
        intro H11 S11
        walk_at "go"
        refine iteb (fun c5 => ?_) (fun c5 => ?_)
        · walk_at "go"
          intro H12 X12 h12
          walk_at "go"
          intro H13 X13 h13
          have h13b := X13 _ _ nab.symm (X12 _ _ nab.symm (S11 _ _ h10))
          walk_at "go"
          intro l H14 n14 S14
          rw [c5, Bool.not_true, Bool.and_false] at h
          have XX := X12.trans X13
          exact h _ H14 (Ex2.trans (Ex.r2 (X010.trans (Ex.of S11))) (Ex2.trans (Ex.l2 XX) (Ex2.of S14))) ⟨dx, S14 _ _ h13, S14 _ _ (XX _ _ nta (S11 _ _ h10t))⟩
        · walk_at "go"
          intro H13 X13 h13
          have h13b := X13 _ _ nab.symm (S11 _ _ h10)
          walk_at "go"
          intro l H14 n14 S14
          rw [c5, Bool.not_false, Bool.and_true] at h
          exact h _ H14 (Ex2.trans (Ex.r2 (X010.trans (Ex.of S11))) (Ex2.trans (Ex.l2 X13) (Ex2.of S14))) ⟨dx, S14 _ _ h13, S14 _ _ (X13 _ _ nta (S11 _ _ h10t))⟩
  exact ⟨_, T.meth 150, F.1⟩
def sp_File_held_g (K : PySem.W.Frag) : Sp := sp1 fun self H Q => ∃ a ru tp held t tb, self = .ref a ∧ IsF K H a ru tp held t tb ∧ Q (.bl held) H
theorem sc_File_held_g : FnScope n_File_held_g p_File_held_g d_File_held_g.scope := ⟨rfl, rfl, rfl, by decide +kernel, rfl, by decide +kernel, by decide +kernel⟩
theorem ok_File_held_g (T : Tx K mg) : GP P w K mg base (He.ga K "File") "held" 1 (sp_File_held_g K) := by
  have F := mkR (P := P) (w := w) (base := base) T 52 (d := d_File_held_g) rfl rfl sc_File_held_g (fun _ _ _ _ _ _ us hl => match us, hl with | [_], _ => rfl) len1 (k := 0) (sp := (sp_File_held_g K)) fun cdv A outer s H vs Q E hr h => by
    obtain ⟨self, rfl, h⟩ := h
    refine ⟨_, (pss_one (ps_ret (pe_f (pv 0) (T.cls 143) (T.noat 147)))), ?_⟩
    obtain ⟨a, ru, tp, held, t, tb, rfl, ⟨dx, h1, h2⟩, h⟩ := h
    unfold fv at h1
    walk_at "go"
    exact h
  exact ⟨_, _, T.prop 151, F.1⟩
def sp_File_held_s (K : PySem.W.Frag) : Sp := sp2 fun self value H Q => ∃ a ru tp held t tb v, self = .ref a ∧ value = .bl v ∧ IsF K H a ru tp held t tb ∧ ∀ H', Ex a H H' → IsF K H' a ru tp v t tb → Q .non H'
theorem sc_File_held_s : FnScope n_File_held_s p_File_held_s d_File_held_s.scope := ⟨rfl, rfl, rfl, by decide +kernel, rfl, by decide +kernel, by decide +kernel⟩
theorem ok_File_held_s (T : Tx K mg) : GW P w K mg base (He.ga K "File") "held" 1 (sp_File_held_s K) := by
  have F := mkR (P := P) (w := w) (base := base) T 53 (d := d_File_held_s) rfl rfl sc_File_held_s (fun _ _ _ _ _ _ us hl => match us, hl with | [_, _], _ => rfl) len2 (k := 0) (sp := (sp_File_held_s K)) fun cdv A outer s H vs Q E hr h => by
    obtain ⟨self, value, rfl, h⟩ := h
    refine ⟨_, (pss_cons (ps_if (pt_not (pt_val (pe_cb (jc_isi (K := K)) (T.free 70) (pa_cons (pv 1) (pa_cons (pe_gty (T := "bool") (T.free 82)) pa_nil))))) (pss_one ps_never) pss_nil)
      (pss_one (ps_f (pv 0) (pv 1) (T.cls 143) (T.noat 147)))), ?_⟩
    obtain ⟨a, ru, tp, held, t, tb, v, rfl, rfl, ⟨dx, h1, h2⟩, h⟩ := h
    unfold fv at h1
    walk_at "go"
    intro H1 X1 e1
    exact h H1 X1 ⟨dx, e1, X1 _ _ (ne_of h2 h1 (by intro z; cases z)) h2⟩
  exact ⟨_, _, T.pset 152, F.1⟩
/-! ### books -/
inductive PV (K : PySem.W.Frag) (H : Hp) : Str → V → Prop
  | bound {i : Int} (h1 : 0 ≤ i) (h2 : i ≤ 1000000000000) : PV K H "bound" (.int i)
  | looks {a : Addr} {l : List Mark} (h : H a = some (.tup (lv l))) (hl : l ∈ looksAll) : PV K H "looks" (.ref a)
  | above : PV K H "how" (.str "above")
  | from_ : PV K H "how" (.str "from")
  | day {i : Int} (h1 : 1 ≤ i) (h2 : i ≤ 1000000000) : PV K H "day" (.int i)
  | period {i : Int} (h1 : 1 ≤ i) (h2 : i ≤ 1000000000) : PV K H "period" (.int i)
  | grain {i : Int} (h1 : 1 ≤ i) (h2 : i ≤ 1000000) : PV K H "grain" (.int i)
  | late {i : Int} (h1 : 0 ≤ i) (h2 : i ≤ 1000000000) : PV K H "late" (.int i)
  | spares {b : Bool} : PV K H "spares" (.bl b)
  | again {b : Bool} : PV K H "again" (.bl b)
theorem PV.same {K : PySem.W.Frag} {H H' : Hp} {z : Str} {v : V} (S : Same H H') (h : PV K H z v) : PV K H' z v := by
  cases h with
  | looks h hl => exact .looks (S _ _ h) hl
  | bound h1 h2 => exact .bound h1 h2
  | above => exact .above
  | from_ => exact .from_
  | day h1 h2 => exact .day h1 h2
  | period h1 h2 => exact .period h1 h2
  | grain h1 h2 => exact .grain h1 h2
  | late h1 h2 => exact .late h1 h2
  | spares => exact .spares
  | again => exact .again
theorem c_is_looks {H : Hp} {Q : VK} {E : XK} {a : Addr} {l : List Mark} (ha : H a = some (.tup (lv l))) (hl : l ∈ looksAll) (q : ∀ H', Same H H' → Q (.bl true) H') : sp_is_looks [.ref a] H Q E := ⟨_, rfl, a, l, rfl, ha, hl, q⟩
local macro_rules | `(tactic| walk_at "call") => `(tactic| ((with_reducible apply c_is_looks); (· walk_at "hp"); (· assumption)))
theorem c_part_of {K : PySem.W.Frag} {H : Hp} {Q : VK} {E : XK} {z : Str} {a : Addr} {zs : List Str} (h : SqT K H a (zs.map V.str)) (q : Q (.bl (inV (.str z) (zs.map V.str))) H) : sp_is_part_of K [.str z, .ref a] H Q E := ⟨_, _, rfl, z, a, zs, rfl, rfl, h, q⟩
def sp_is_value (K : PySem.W.Frag) : Sp := sp2 fun part value H Q => ∃ (z : Str), part = .str z ∧ PV K H z value ∧ ∀ H', Same H H' → Q (.bl true) H'
theorem sc_is_value : FnScope n_is_value p_is_value d_is_value.scope := ⟨rfl, rfl, rfl, by decide +kernel, rfl, by decide +kernel, by decide +kernel⟩
theorem ok_is_value (T : Tx K mg) : GF P w K mg base "is_value" 4 (sp_is_value K) := by
  have F := mkR (P := P) (w := w) (base := base) T 54 (d := d_is_value) rfl rfl sc_is_value (fun _ _ _ _ _ _ us hl => match us, hl with | [_, _], _ => rfl) len2 (k := 3) (sp := (sp_is_value K)) fun cdv A outer s H vs Q E hr h => by
    obtain ⟨part, value, rfl, h⟩ := h
    refine ⟨_, (pss_cons (ps_if (pt_cmpR op_eq (pv 0) pe_str (nomark _)) (pss_one (ps_ret (pe_gf (ok_is_between (K := K) T) hr (pa_cons (pv 1) (pa_cons pe_int (pa_cons (pe_gint (T.int 90)) pa_nil)))))) pss_nil)
      (pss_cons (ps_if (pt_cmpR op_eq (pv 0) pe_str (nomark _)) (pss_one (ps_ret (pe_gf (ok_is_looks (K := K) T) hr (pa_cons (pv 1) pa_nil)))) pss_nil)
      (pss_cons (ps_if (pt_cmpR op_eq (pv 0) pe_str (nomark _)) (pss_one (ps_ret (pe_gf (ok_is_part_of (K := K) T) hr (pa_cons (pv 1) (pa_cons (pe_tup (pa_cons pe_str (pa_cons pe_str pa_nil))) pa_nil))))) pss_nil)
      (pss_cons (ps_if (pt_cmpR (jo_in (K := K)) (pv 0) (pe_tup (pa_cons pe_str (pa_cons pe_str pa_nil))) (by with_unfolding_all rfl)) (pss_one (ps_ret (pe_gf (ok_is_time (K := K) T) hr (pa_cons (pv 1) pa_nil)))) pss_nil)
      (pss_cons (ps_if (pt_cmpR op_eq (pv 0) pe_str (nomark _)) (pss_one (ps_ret (pe_gf (ok_is_between (K := K) T) hr (pa_cons (pv 1) (pa_cons pe_int (pa_cons (pe_gint (T.int 86)) pa_nil)))))) pss_nil)
      (pss_cons (ps_if (pt_cmpR op_eq (pv 0) pe_str (nomark _)) (pss_one (ps_ret (pe_gf (ok_is_between (K := K) T) hr (pa_cons (pv 1) (pa_cons pe_int (pa_cons (pe_gint (T.int 91)) pa_nil)))))) pss_nil)
      (pss_one (ps_ret (pe_cb (jc_isi (K := K)) (T.free 70) (pa_cons (pv 1) (pa_cons (pe_gty (T := "bool") (T.free 82)) pa_nil))))))))))), ?_⟩
    obtain ⟨z, rfl, hv, h⟩ := h
    cases hv with
    | bound h1 h2 =>
      walk_at "go"
      rw [decide_eq_true h1, decide_eq_true h2]
      exact h H (Same.refl _)
    | looks hl hm =>
      walk_at "go"
      exact h
    | above =>
      walk_at "go"
      intro p H1 n1 S1 h1
      refine c_part_of (zs := ["above", "from"]) (sqt h1) ?_
      rw [show inV (.str "above") ((["above", "from"] : List Str).map V.str) = true by decide +kernel]
      exact h H1 S1
    | from_ =>
      walk_at "go"
      intro p H1 n1 S1 h1
      refine c_part_of (zs := ["above", "from"]) (sqt h1) ?_
      rw [show inV (.str "from") ((["above", "from"] : List Str).map V.str) = true by decide +kernel]
      exact h H1 S1
    | day h1 h2 =>
      walk_at "go"
      intro p H1 n1 S1 hp1
      walk_at "go"
      rw [decide_eq_true h1, decide_eq_true h2]
      exact h H1 S1
    | period h1 h2 =>
      walk_at "go"
      intro p H1 n1 S1 hp1
      walk_at "go"
      rw [decide_eq_true h1, decide_eq_true h2]
      exact h H1 S1
    | grain h1 h2 =>
      walk_at "go"
      intro p H1 n1 S1 hp1
      walk_at "go"
      rw [decide_eq_true h1, decide_eq_true h2]
      exact h H1 S1
    | late h1 h2 =>
      walk_at "go"
      intro p H1 n1 S1 hp1
      walk_at "go"
      rw [decide_eq_true h1, decide_eq_true h2]
      exact h H1 S1
    | spares =>
      walk_at "go"
      intro p H1 n1 S1 hp1
      walk_at "go"
      exact h H1 S1
    | again =>
      walk_at "go"
      intro p H1 n1 S1 hp1
      walk_at "go"
      exact h H1 S1
  exact ⟨_, T.glo 26, F.2, F.1⟩
theorem c_is_value {K : PySem.W.Frag} {H : Hp} {Q : VK} {E : XK} {z : Str} {v : V} (hv : PV K H z v) (q : ∀ H', Same H H' → Q (.bl true) H') : sp_is_value K [.str z, v] H Q E := ⟨_, _, rfl, z, rfl, hv, q⟩
def partsZ : List Str := ["bound", "looks", "how", "day", "grain", "spares", "late", "again", "period"]
def sp_check_parts (K : PySem.W.Frag) : Sp := sp1 fun parts H Q => ∃ (p : Addr) (kvs : List (Key × V)), parts = .ref p ∧ H p = some (.dK kvs) ∧ (∀ z ∈ partsZ, ∃ v, valV kvs (Sum.inr z) = some v ∧ PV K H z v) ∧ ∀ H', Same H H' → Q .non H'
theorem sc_check_parts : FnScope n_check_parts p_check_parts d_check_parts.scope := ⟨rfl, rfl, rfl, by decide +kernel, rfl, by decide +kernel, by decide +kernel⟩
theorem ok_check_parts (T : Tx K mg) : GF P w K mg base "check_parts" 5 (sp_check_parts K) := by
  have F := mkR (P := P) (w := w) (base := base) T 55 (d := d_check_parts) rfl rfl sc_check_parts (fun _ _ _ _ _ _ us hl => match us, hl with | [_], _ => rfl) len1 (k := 4) (sp := (sp_check_parts K)) fun cdv A outer s H vs Q E hr h => by
    obtain ⟨parts, rfl, h⟩ := h
    refine ⟨_, (pss_one (ps_for PassesOwn.never rfl (ji_tup (K := K) (pe_gref (T.glo 98))) (pg_name (i := 1) sc_check_parts.nd rfl (Or.inl rfl)) (pss_one (ps_if (pt_not (pt_val (pe_gf (ok_is_value (K := K) T) hr (pa_cons (pv 1) (pa_cons (pe_dget (hu_of hr) (pv 0) (pv 1) (fun _ _ => rfl)) pa_nil))))) (pss_one ps_never) pss_nil)))), ?_⟩
    obtain ⟨p, kvs, rfl, hp, hv, h⟩ := h
    have hW : ∀ H, SqT K H (He.ga K "PARTS") (partsZ.map V.str) := fun H => T.tup 99 H
    walk_at "go"
    refine fo_tup (xs := partsZ.map V.str) (fun i σ H2 => ∃ x, σ = [some (.ref p), x] ∧ Same H H2) (hW _) ⟨_, rfl, Same.refl _⟩ (fun i σ H2 _ hP => hW _) (fun i x σ H2 hi hP => ?_) (fun σ H2 hP => ?_)
    · obtain ⟨x1, rfl, S2⟩ := hP
      rw [List.getElem?_map] at hi
      obtain ⟨z, ez, rfl⟩ : ∃ z, partsZ[i]? = some z ∧ x = .str z := by
        cases e : partsZ[i]? with
        | none => rw [e] at hi; cases hi
        | some z => rw [e] at hi; exact ⟨z, rfl, (Option.some.inj hi).symm⟩
      obtain ⟨v, e1, e2⟩ := hv z (List.mem_of_getElem? ez)
      walk_at "go"
      refine c_is_value (e2.same S2) (fun H3 S3 => ?_)
      walk_at "go"
      exact ⟨_, rfl, S2.trans S3⟩
    · obtain ⟨x1, rfl, S2⟩ := hP
      walk_at "go"
      exact h H2 S2
  exact ⟨_, T.glo 27, F.2, F.1⟩
/-! ### a class whose __init__ has keyword-only parameters -/
def sp10 (f : V → V → V → V → V → V → V → V → V → V → Hp → VK → Prop) : Sp := fun vs H Q _ => ∃ a b c d e g i j k l, vs = [a, b, c, d, e, g, i, j, k, l] ∧ f a b c d e g i j k l H Q
theorem bq0_0 : ((Str.ofString "self") == (Str.ofString "self")) = true := by decide
theorem bq0_1 : ((Str.ofString "self") == (Str.ofString "bound")) = false := by decide
theorem bq0_2 : ((Str.ofString "self") == (Str.ofString "looks")) = false := by decide
theorem bq0_3 : ((Str.ofString "self") == (Str.ofString "how")) = false := by decide
theorem bq0_4 : ((Str.ofString "self") == (Str.ofString "day")) = false := by decide
theorem bq0_5 : ((Str.ofString "self") == (Str.ofString "grain")) = false := by decide
theorem bq0_6 : ((Str.ofString "self") == (Str.ofString "spares")) = false := by decide
theorem bq0_7 : ((Str.ofString "self") == (Str.ofString "late")) = false := by decide
theorem bq0_8 : ((Str.ofString "self") == (Str.ofString "again")) = false := by decide
theorem bq0_9 : ((Str.ofString "self") == (Str.ofString "period")) = false := by decide
theorem bq1_0 : ((Str.ofString "bound") == (Str.ofString "self")) = false := by decide
theorem bq1_1 : ((Str.ofString "bound") == (Str.ofString "bound")) = true := by decide
theorem bq1_2 : ((Str.ofString "bound") == (Str.ofString "looks")) = false := by decide
theorem bq1_3 : ((Str.ofString "bound") == (Str.ofString "how")) = false := by decide
theorem bq1_4 : ((Str.ofString "bound") == (Str.ofString "day")) = false := by decide
theorem bq1_5 : ((Str.ofString "bound") == (Str.ofString "grain")) = false := by decide
theorem bq1_6 : ((Str.ofString "bound") == (Str.ofString "spares")) = false := by decide
theorem bq1_7 : ((Str.ofString "bound") == (Str.ofString "late")) = false := by decide
theorem bq1_8 : ((Str.ofString "bound") == (Str.ofString "again")) = false := by decide
theorem bq1_9 : ((Str.ofString "bound") == (Str.ofString "period")) = false := by decide
theorem bq2_0 : ((Str.ofString "looks") == (Str.ofString "self")) = false := by decide
theorem bq2_1 : ((Str.ofString "looks") == (Str.ofString "bound")) = false := by decide
theorem bq2_2 : ((Str.ofString "looks") == (Str.ofString "looks")) = true := by decide
theorem bq2_3 : ((Str.ofString "looks") == (Str.ofString "how")) = false := by decide
theorem bq2_4 : ((Str.ofString "looks") == (Str.ofString "day")) = false := by decide
theorem bq2_5 : ((Str.ofString "looks") == (Str.ofString "grain")) = false := by decide
theorem bq2_6 : ((Str.ofString "looks") == (Str.ofString "spares")) = false := by decide
theorem bq2_7 : ((Str.ofString "looks") == (Str.ofString "late")) = false := by decide
theorem bq2_8 : ((Str.ofString "looks") == (Str.ofString "again")) = false := by decide
theorem bq2_9 : ((Str.ofString "looks") == (Str.ofString "period")) = false := by decide
theorem bq3_0 : ((Str.ofString "how") == (Str.ofString "self")) = false := by decide
theorem bq3_1 : ((Str.ofString "how") == (Str.ofString "bound")) = false := by decide
theorem bq3_2 : ((Str.ofString "how") == (Str.ofString "looks")) = false := by decide
theorem bq3_3 : ((Str.ofString "how") == (Str.ofString "how")) = true := by decide
theorem bq3_4 : ((Str.ofString "how") == (Str.ofString "day")) = false := by decide
theorem bq3_5 : ((Str.ofString "how") == (Str.ofString "grain")) = false := by decide
theorem bq3_6 : ((Str.ofString "how") == (Str.ofString "spares")) = false := by decide
theorem bq3_7 : ((Str.ofString "how") == (Str.ofString "late")) = false := by decide
theorem bq3_8 : ((Str.ofString "how") == (Str.ofString "again")) = false := by decide
theorem bq3_9 : ((Str.ofString "how") == (Str.ofString "period")) = false := by decide
theorem bq4_0 : ((Str.ofString "day") == (Str.ofString "self")) = false := by decide
theorem bq4_1 : ((Str.ofString "day") == (Str.ofString "bound")) = false := by decide
theorem bq4_2 : ((Str.ofString "day") == (Str.ofString "looks")) = false := by decide
theorem bq4_3 : ((Str.ofString "day") == (Str.ofString "how")) = false := by decide
theorem bq4_4 : ((Str.ofString "day") == (Str.ofString "day")) = true := by decide
theorem bq4_5 : ((Str.ofString "day") == (Str.ofString "grain")) = false := by decide
theorem bq4_6 : ((Str.ofString "day") == (Str.ofString "spares")) = false := by decide
theorem bq4_7 : ((Str.ofString "day") == (Str.ofString "late")) = false := by decide
theorem bq4_8 : ((Str.ofString "day") == (Str.ofString "again")) = false := by decide
theorem bq4_9 : ((Str.ofString "day") == (Str.ofString "period")) = false := by decide
theorem bq5_0 : ((Str.ofString "grain") == (Str.ofString "self")) = false := by decide
theorem bq5_1 : ((Str.ofString "grain") == (Str.ofString "bound")) = false := by decide
theorem bq5_2 : ((Str.ofString "grain") == (Str.ofString "looks")) = false := by decide
theorem bq5_3 : ((Str.ofString "grain") == (Str.ofString "how")) = false := by decide
theorem bq5_4 : ((Str.ofString "grain") == (Str.ofString "day")) = false := by decide
theorem bq5_5 : ((Str.ofString "grain") == (Str.ofString "grain")) = true := by decide
theorem bq5_6 : ((Str.ofString "grain") == (Str.ofString "spares")) = false := by decide
theorem bq5_7 : ((Str.ofString "grain") == (Str.ofString "late")) = false := by decide
theorem bq5_8 : ((Str.ofString "grain") == (Str.ofString "again")) = false := by decide
theorem bq5_9 : ((Str.ofString "grain") == (Str.ofString "period")) = false := by decide
theorem bq6_0 : ((Str.ofString "spares") == (Str.ofString "self")) = false := by decide
theorem bq6_1 : ((Str.ofString "spares") == (Str.ofString "bound")) = false := by decide
theorem bq6_2 : ((Str.ofString "spares") == (Str.ofString "looks")) = false := by decide
theorem bq6_3 : ((Str.ofString "spares") == (Str.ofString "how")) = false := by decide
theorem bq6_4 : ((Str.ofString "spares") == (Str.ofString "day")) = false := by decide
theorem bq6_5 : ((Str.ofString "spares") == (Str.ofString "grain")) = false := by decide
theorem bq6_6 : ((Str.ofString "spares") == (Str.ofString "spares")) = true := by decide
theorem bq6_7 : ((Str.ofString "spares") == (Str.ofString "late")) = false := by decide
theorem bq6_8 : ((Str.ofString "spares") == (Str.ofString "again")) = false := by decide
theorem bq6_9 : ((Str.ofString "spares") == (Str.ofString "period")) = false := by decide
theorem bq7_0 : ((Str.ofString "late") == (Str.ofString "self")) = false := by decide
theorem bq7_1 : ((Str.ofString "late") == (Str.ofString "bound")) = false := by decide
theorem bq7_2 : ((Str.ofString "late") == (Str.ofString "looks")) = false := by decide
theorem bq7_3 : ((Str.ofString "late") == (Str.ofString "how")) = false := by decide
theorem bq7_4 : ((Str.ofString "late") == (Str.ofString "day")) = false := by decide
theorem bq7_5 : ((Str.ofString "late") == (Str.ofString "grain")) = false := by decide
theorem bq7_6 : ((Str.ofString "late") == (Str.ofString "spares")) = false := by decide
theorem bq7_7 : ((Str.ofString "late") == (Str.ofString "late")) = true := by decide
theorem bq7_8 : ((Str.ofString "late") == (Str.ofString "again")) = false := by decide
theorem bq7_9 : ((Str.ofString "late") == (Str.ofString "period")) = false := by decide
theorem bq8_0 : ((Str.ofString "again") == (Str.ofString "self")) = false := by decide
theorem bq8_1 : ((Str.ofString "again") == (Str.ofString "bound")) = false := by decide
theorem bq8_2 : ((Str.ofString "again") == (Str.ofString "looks")) = false := by decide
theorem bq8_3 : ((Str.ofString "again") == (Str.ofString "how")) = false := by decide
theorem bq8_4 : ((Str.ofString "again") == (Str.ofString "day")) = false := by decide
theorem bq8_5 : ((Str.ofString "again") == (Str.ofString "grain")) = false := by decide
theorem bq8_6 : ((Str.ofString "again") == (Str.ofString "spares")) = false := by decide
theorem bq8_7 : ((Str.ofString "again") == (Str.ofString "late")) = false := by decide
theorem bq8_8 : ((Str.ofString "again") == (Str.ofString "again")) = true := by decide
theorem bq8_9 : ((Str.ofString "again") == (Str.ofString "period")) = false := by decide
theorem bq9_0 : ((Str.ofString "period") == (Str.ofString "self")) = false := by decide
theorem bq9_1 : ((Str.ofString "period") == (Str.ofString "bound")) = false := by decide
theorem bq9_2 : ((Str.ofString "period") == (Str.ofString "looks")) = false := by decide
theorem bq9_3 : ((Str.ofString "period") == (Str.ofString "how")) = false := by decide
theorem bq9_4 : ((Str.ofString "period") == (Str.ofString "day")) = false := by decide
theorem bq9_5 : ((Str.ofString "period") == (Str.ofString "grain")) = false := by decide
theorem bq9_6 : ((Str.ofString "period") == (Str.ofString "spares")) = false := by decide
theorem bq9_7 : ((Str.ofString "period") == (Str.ofString "late")) = false := by decide
theorem bq9_8 : ((Str.ofString "period") == (Str.ofString "again")) = false := by decide
theorem bq9_9 : ((Str.ofString "period") == (Str.ofString "period")) = true := by decide
def ksB : List Str := ["bound", "looks", "how", "day", "grain"]
def msB : List Str := ["spares", "late", "again", "period"]
local macro_rules | `(tactic| walk_at "bs") => `(tactic| simp (config := { decide := true }) only [List.zip_cons_cons, List.zip_nil_right, List.zip_nil_left, List.forIn_cons, List.forIn_nil, pure_bind, List.nil_append, List.cons_append, List.lookup_cons, List.lookup_nil, if_true, if_false, ite_true, ite_false, Option.isSome_some, Option.isSome_none, Option.isNone_some, Option.isNone_none, Bool.false_eq_true, List.length_cons, List.length_nil, gt_iff_lt, Bool.and_true, Bool.and_false, Bool.not_true, Bool.not_false, List.drop_nil, List.drop_zero, List.take, List.filter_cons, List.filter_nil, List.isEmpty_nil, List.isEmpty_cons, Option.getD_none, Nat.sub_self, Nat.sub_zero, Nat.zero_sub, List.drop, bq0_0, bq0_1, bq0_2, bq0_3, bq0_4, bq0_5, bq0_6, bq0_7, bq0_8, bq0_9, bq1_0, bq1_1, bq1_2, bq1_3, bq1_4, bq1_5, bq1_6, bq1_7, bq1_8, bq1_9, bq2_0, bq2_1, bq2_2, bq2_3, bq2_4, bq2_5, bq2_6, bq2_7, bq2_8, bq2_9, bq3_0, bq3_1, bq3_2, bq3_3, bq3_4, bq3_5, bq3_6, bq3_7, bq3_8, bq3_9, bq4_0, bq4_1, bq4_2, bq4_3, bq4_4, bq4_5, bq4_6, bq4_7, bq4_8, bq4_9, bq5_0, bq5_1, bq5_2, bq5_3, bq5_4, bq5_5, bq5_6, bq5_7, bq5_8, bq5_9, bq6_0, bq6_1, bq6_2, bq6_3, bq6_4, bq6_5, bq6_6, bq6_7, bq6_8, bq6_9, bq7_0, bq7_1, bq7_2, bq7_3, bq7_4, bq7_5, bq7_6, bq7_7, bq7_8, bq7_9, bq8_0, bq8_1, bq8_2, bq8_3, bq8_4, bq8_5, bq8_6, bq8_7, bq8_8, bq8_9, bq9_0, bq9_1, bq9_2, bq9_3, bq9_4, bq9_5, bq9_6, bq9_7, bq9_8, bq9_9])
theorem bind_book (fd : FuncData) (h0 : fd.params.posonlyargs.map (·.arg) = []) (h1 : fd.params.args.map (·.arg) = (["self"] : List Str)) (h2 : fd.params.kwonlyargs.map (·.arg) = (["bound", "looks", "how", "day", "grain", "spares", "late", "again", "period"] : List Str)) (h3 : fd.params.kwarg = none) (h4 : fd.params.vararg = none) (h5 : fd.defaults = .none) (D : Addr) (h6 : fd.kwdefaults = .ref D)
    (a m1 m2 m3 m4 w1 w2 w3 w4 w5 : Value) : KwChain D (msB.zip [m1, m2, m3, m4]) (bindArgs fd ⟨[a], ksB.zip [w1, w2, w3, w4, w5]⟩) (p_Book_init.zip [a, w1, w2, w3, w4, w5, m1, m2, m3, m4]) := by
  unfold msB ksB bindArgs
  dsimp only
  rw [h0, h1, h2, h3, h4, h5, h6]
  have e2 : seqItems? .none = pure none := rfl
  rw [e2]
  walk_at "bs"
  refine ⟨_, _, _, _, _, _, rfl, rfl, ?_⟩
  walk_at "bs"
  refine ⟨_, _, _, _, _, _, rfl, rfl, ?_⟩
  walk_at "bs"
  refine ⟨_, _, _, _, _, _, rfl, rfl, ?_⟩
  walk_at "bs"
  refine ⟨_, _, _, _, _, _, rfl, rfl, ?_⟩
  walk_at "bs"
  rfl
def dfB : List V := [.bl false, .int 0, .bl true, .int 1]
def GCK (P : Program) (w : World) (K : PySem.W.Frag) (mg : Str → Option Value) (base : Heap) (x : Str) (C : Addr) (k : Nat) (sp : Sp) : Prop :=
  ∃ (f : Addr) (fd : FuncData) (g : List Value → List Value → List Value), mg x = some (.ref C) ∧ Mk K C f ∧ FnOk P w K mg base CX0 k f fd p_Book_init sp ∧ KBn K fd p_Book_init 1 ksB g (fun vs zs => vs ++ zs ++ dfB)
theorem mkK (T : Tx K mg) {k : Nat} {sp : Sp} (S : FnScope n_Book_init p_Book_init d_Book_init.scope) (len : ∀ vs H Q E, sp vs H Q E → vs.length = p_Book_init.length)
    (hbody : ∀ (cdv : Value) (A : Around) (outer : List Env) (s : Shared) (H : Hp) (vs : List V) (Q : VK) (E : XK), Room k (A.deeper (envOfC d_Book_init.qual d_Book_init.scope s.heap.objs.size (d_Book_init.at_ K) cdv)) → sp vs H Q E →
      ∃ t, PSs (cxOf CX0 P w K mg base n_Book_init d_Book_init.qual d_Book_init.scope (d_Book_init.at_ K) cdv A outer s H E).nox d_Book_init.body t ∧ t { nx := fun _ H' => Q .non H', rt := Q } (start n_Book_init vs) H)
    {x : Str} {C : Addr} (hm : mg x = some (.ref C)) (hM : Mk K C (d_Book_init.at_ K)) : GCK P w K mg base x C (k + 1) sp := by
  obtain ⟨fd, F⟩ := T.def_ 56 d_Book_init rfl
  have e : d_Book_init.dvs K = [] := rfl
  rw [e] at F
  have G : FnOk P w K mg base CX0 (k + 1) (d_Book_init.at_ K) fd p_Book_init sp := FunD.ok F S len fun cdv A outer s H vs Q E hr h => by
    obtain ⟨t, h1, h2⟩ := hbody cdv A outer s H vs Q E hr h
    exact ⟨t, h1.nox, h2⟩
  obtain ⟨mv, B⟩ := F.kbinds0 1 ksB [("spares", .bl false), ("late", .int 0), ("again", .bl true), ("period", .int 1)] (fun a b c => a ++ c ++ b) (fun z => nomatch z) (fun q hq => by
      simp only [List.mem_cons, List.not_mem_nil, or_false] at hq
      rcases hq with rfl | rfl | rfl | rfl <;> first | exact List.mem_of_getElem? (i := 4) rfl | exact List.mem_of_getElem? (i := 5) rfl | exact List.mem_of_getElem? (i := 6) rfl | exact List.mem_of_getElem? (i := 7) rfl) (fun r1 r2 r3 => (r1.append r3).append r2) (fun D doc pm an cdv ct us mv ws l1 l2 l3 =>
      match us, mv, ws, l1, l2, l3 with
      | [_], [_, _, _, _], [_, _, _, _, _], _, _, _ => bind_book _ rfl rfl rfl rfl rfl rfl D rfl _ _ _ _ _ _ _ _ _ _)
  exact ⟨_, fd, _, hm, hM, G, B⟩
def gB : List V → List V → List V := fun vs zs => vs ++ zs ++ dfB
def kMK (C : Addr) (sp : Sp) (zs : List V) (H : Hp) (Q : VK) : Prop := ([] : List V).length = 0 ∧ zs.length = ksB.length ∧ ∀ x dx, H x = none → H dx = none → dx ≠ x → sp (gB [V.ref x] zs) (upd (upd H dx (.own x)) x (.ins C dx [])) (fun v H3 => v = .non ∧ Q (.ref x) H3) E0
theorem pe_gck {X : Cx} {x : Str} {C : Addr} {k j : Nat} {sp : Sp} {kws : List Keyword} {tk : TA} {p pos : Pos} (G : GCK X.prog X.w X.K X.mg X.base x C k sp) (hr : Room j X.A) (hkw : PK X kws tk) (hk : k + 1 ≤ j := by decide) (hg : Gl X x := by rfl)
    (hall : (backToKw pos (keywordEach kws X.env)).all (·.1.isSome) = true := by rfl) (hks : (backToKw pos (keywordEach kws X.env)).filterMap (·.1) = ksB := by rfl) (hdb : (x == ("__debug__" : Str)) = false := by decide)
    (hpl : ((backTo pos (starEach [] X.env)).any (·.1) || (backToKw pos (keywordEach kws X.env)).any (·.1.isNone)) = false := by rfl) : PE X (.Call (.Name x p) [] kws pos) (tMakeK C 0 ksB.length sp gB E0 tNil tk) := by
  obtain ⟨f, fd, g, hm, M, F, B⟩ := G
  exact pe_makeK0 M F (hr.mono hk) hg hm B pass0 hkw hall hks hdb hpl
theorem rd_MK {C : Addr} {sp : Sp} {tk : TA} {σ : L2.St} {H : Hp} {Q : VK} (h : tk σ H fun zs H2 => kMK C sp zs H2 Q) : tMakeK C 0 ksB.length sp gB E0 tNil tk σ H Q := h
local macro_rules | `(tactic| walk_at "call") => `(tactic| ((with_reducible apply rd_MK)))
theorem rd_kMK {C : Addr} {sp : Sp} {zs : List V} {H : Hp} {Q : VK} (l : zs.length = 5) (h : ∀ x dx H1, H x = none → Same H H1 → H1 x = some (.ins C dx []) → sp (V.ref x :: (zs ++ dfB)) H1 (fun v H3 => v = .non ∧ Q (.ref x) H3) E0) : kMK C sp zs H Q :=
  ⟨rfl, l, fun x dx n1 n2 ne => h x dx _ n1 (fun b o e => by rw [upd_ne (ne_of_none e n1), upd_ne (ne_of_none e n2)]; exact e) upd_same⟩
def hz (above : Bool) : Str := if above = true then "above" else "from"
def bkd (b : Bk) (lo : Addr) (per : Int) : List (Key × V) := [(Sum.inr "bound", .int b.bound), (Sum.inr "looks", .ref lo), (Sum.inr "how", .str (hz b.above)), (Sum.inr "day", .int b.day), (Sum.inr "grain", .int b.grain), (Sum.inr "spares", .bl b.spares), (Sum.inr "late", .int b.late), (Sum.inr "again", .bl b.again), (Sum.inr "period", .int per)]
structure BOk (b : Bk) (per : Int) : Prop where
  b0 : 0 ≤ b.bound
  b1 : b.bound ≤ 1000000000000
  lk : b.looks ∈ looksAll
  d1 : 1 ≤ b.day
  d2 : b.day ≤ 1000000000
  g1 : 1 ≤ b.grain
  g2 : b.grain ≤ 1000000
  l1 : 0 ≤ b.late
  l2 : b.late ≤ 1000000000
  p1 : 1 ≤ per
  p2 : per ≤ 1000000000
def IsB (K : PySem.W.Frag) (H : Hp) (a : Addr) (b : Bk) (lo pp : Addr) (per : Int) : Prop := ∃ dx, H a = some (.ins (He.ga K "Book") dx [("own_parts", .ref pp)]) ∧ H pp = some (.dK (bkd b lo per)) ∧ H lo = some (.tup (lv b.looks))
theorem IsB.same {K : PySem.W.Frag} {H H' : Hp} {a lo pp : Addr} {b : Bk} {per : Int} (S : Same H H') (h : IsB K H a b lo pp per) : IsB K H' a b lo pp per := by
  obtain ⟨dx, h1, h2, h3⟩ := h
  exact ⟨dx, S _ _ h1, S _ _ h2, S _ _ h3⟩
theorem hz_ab (b : Bool) : decide (hz b = "above") = b := by cases b <;> decide +kernel
theorem hz_fr (b : Bool) : decide (hz b = "from") = !b := by cases b <;> decide +kernel
theorem pv_all {K : PySem.W.Frag} {H : Hp} {b : Bk} {lo : Addr} {per : Int} (o : BOk b per) (h : H lo = some (.tup (lv b.looks))) : ∀ z ∈ partsZ, ∃ v, valV (bkd b lo per) (Sum.inr z) = some v ∧ PV K H z v := by
  intro z hz
  simp only [partsZ, List.mem_cons, List.not_mem_nil, or_false] at hz
  rcases hz with rfl | rfl | rfl | rfl | rfl | rfl | rfl | rfl | rfl
  · exact ⟨_, rfl, .bound o.b0 o.b1⟩
  · exact ⟨_, rfl, .looks h o.lk⟩
  · refine ⟨_, rfl, ?_⟩
    cases b.above
    · exact .from_
    · exact .above
  · exact ⟨_, rfl, .day o.d1 o.d2⟩
  · exact ⟨_, rfl, .grain o.g1 o.g2⟩
  · exact ⟨_, rfl, .spares⟩
  · exact ⟨_, rfl, .late o.l1 o.l2⟩
  · exact ⟨_, rfl, .again⟩
  · exact ⟨_, rfl, .period o.p1 o.p2⟩
theorem rd_kUpd {H : Hp} {Q : VK} {a b : Addr} {kvs more : List (Key × V)} (h : H a = some (.dK kvs)) (h2 : H b = some (.dK more)) (ne : a ≠ b) (l : kvs.length + more.length ≤ 1000) (q : ∀ H1, Ex a H H1 → H1 a = some (.dK (mergeK kvs more)) → Q .non H1) : rUpd (.ref a) [.ref b] H Q :=
  ⟨a, b, kvs, more, rfl, rfl, h, h2, ne, l, q _ ex_upd upd_same⟩
theorem rd_kTyD {K : PySem.W.Frag} {H : Hp} {p : Addr} {kvs : List (Key × V)} {N : Prop} (h : H p = some (.dK kvs)) (q : N) : kTy K "dict" (.ref p) H N := ⟨.inr (.inr (.inl ⟨rfl, .inl ⟨_, h⟩⟩)), q⟩
local macro_rules | `(tactic| walk_at "call") => `(tactic| ((with_reducible apply rd_kTyD); (· walk_at "hp")))
theorem c_check_parts {K : PySem.W.Frag} {H : Hp} {Q : VK} {E : XK} {p : Addr} {kvs : List (Key × V)} (h : H p = some (.dK kvs)) (v : ∀ z ∈ partsZ, ∃ v, valV kvs (Sum.inr z) = some v ∧ PV K H z v) (q : ∀ H', Same H H' → Q .non H') : sp_check_parts K [.ref p] H Q E := ⟨_, rfl, p, kvs, rfl, h, v, q⟩
def sp_Book_init (K : PySem.W.Frag) : Sp := sp10 fun self bound looks how day grain spares late again period H Q => ∃ (a dx lo : Addr) (b : Bk) (per : Int), self = .ref a ∧ bound = .int b.bound ∧ looks = .ref lo ∧ how = .str (hz b.above) ∧ day = .int b.day ∧ grain = .int b.grain ∧ spares = .bl b.spares ∧ late = .int b.late ∧ again = .bl b.again ∧ period = .int per ∧ H a = some (.ins (He.ga K "Book") dx []) ∧ H lo = some (.tup (lv b.looks)) ∧ BOk b per ∧ ∀ pp H', Ex a H H' → H pp = none → IsB K H' a b lo pp per → Q .non H'
theorem sc_Book_init : FnScope n_Book_init p_Book_init d_Book_init.scope := ⟨rfl, rfl, rfl, by decide +kernel, rfl, by decide +kernel, by decide +kernel⟩
theorem ok_Book_init (T : Tx K mg) : GCK P w K mg base "Book" (He.ga K "Book") 6 (sp_Book_init K) := by
  have F := mkK (P := P) (w := w) (base := base) (x := "Book") (C := He.ga K "Book") T sc_Book_init (fun vs H Q E ⟨_, _, _, _, _, _, _, _, _, _, e, _⟩ => by rw [e]; rfl) (k := 5) (sp := (sp_Book_init K)) fun cdv A outer s H vs Q E hr h => by
    obtain ⟨self, bound, looks, how, day, grain, spares, late, again, period, rfl, h⟩ := h
    refine ⟨_, (pss_cons (ps_set (i := 10) sc_Book_init.nd rfl (Or.inl rfl) (pe_disp (pps_cons pe_str (pv 1) (pps_cons pe_str (pv 2) (pps_cons pe_str (pv 3) (pps_cons pe_str (pv 4) (pps_cons pe_str (pv 5) (pps_cons pe_str (pv 6) pps_nil)))))) (by rfl) (by rfl) (fun z => by cases z) (by decide)))
      (pss_cons (ps_expr (pe_bm PySem.F.plainAttrs_dict PySem.F.slot_dict_update PySem.F.type_dict_update mt_update (pv 10) (pa_cons (pe_disp (pps_cons pe_str (pv 7) (pps_cons pe_str (pv 8) (pps_cons pe_str (pv 9) pps_nil))) (by rfl) (by rfl) (fun z => by cases z) (by decide)) pa_nil)))
      (pss_cons (ps_expr (pe_gf (ok_check_parts (K := K) T) hr (pa_cons (pv 10) pa_nil)))
      (pss_one (ps_f (pv 0) (pv 10) (T.cls 153) (T.noat 156)))))), ?_⟩
    obtain ⟨a, dx, lo, b, per, rfl, rfl, rfl, rfl, rfl, rfl, rfl, rfl, rfl, rfl, ha, hlo, o, h⟩ := h
    walk_at "go"
    intro pp H1 n1 S1 h1
    walk_at "go"
    intro H2 X2 h2
    walk_at "go"
    intro p2 H3 n3 S3 h3
    walk_at "go"
    intro H4 X4 h4
    walk_at "go"
    have S02 : Same H H2 := Ex.same n1 S1 X2
    have n32 : p2 ≠ pp := (ne_of_none h2 n3).symm
    have h4p := X4 _ _ n32.symm (S3 _ _ h2)
    refine rd_kUpd h4p h4 n32.symm (Nat.le_of_ble_eq_true rfl) (fun H5 X5 h5 => ?_)
    have S04 : Same H H4 := Ex.same (S02.free n3) (S02.trans S3) X4
    have S05 : Same H H5 := Ex.same n1 S04 X5
    have h5 : H5 pp = some (.dK (bkd b lo per)) := h5
    walk_at "go"
    refine c_check_parts h5 (pv_all o (S05 _ _ hlo)) (fun H6 S6 => ?_)
    have h6a := S6 _ _ (S05 _ _ ha)
    have h6p := S6 _ _ h5
    have h6l := S6 _ _ (S05 _ _ hlo)
    walk_at "go"
    intro H7 X7 h7
    walk_at "go"
    exact h pp H7 ((Ex.of (S05.trans S6)).trans X7) n1 ⟨dx, h7, X7 _ _ (ne_of h6p h6a (by intro z; cases z)) h6p, X7 _ _ (ne_of h6l h6a (by intro z; cases z)) h6l⟩
  exact F (T.glo 67) (T.mkr 154)
local macro_rules | `(tactic| walk_at "ib") => `(tactic| first | assumption | (apply IsB.same; (· assumption); (· walk_at "ib")))
theorem pv_in {K : PySem.W.Frag} {H : Hp} {z : Str} {v : V} (h : PV K H z v) : inV (.str z) (partsZ.map V.str) = true := by cases h <;> decide +kernel
def sp_Book_change (K : PySem.W.Frag) : Sp := sp3 fun self part value H Q => ∃ (a lo pp : Addr) (b : Bk) (per : Int) (z : Str), self = .ref a ∧ part = .str z ∧ IsB K H a b lo pp per ∧ PV K H z value ∧ ∀ H', Ex pp H H' → H' pp = some (.dK (putK (bkd b lo per) (Sum.inr z) value)) → Q .non H'
theorem sc_Book_change : FnScope n_Book_change p_Book_change d_Book_change.scope := ⟨rfl, rfl, rfl, by decide +kernel, rfl, by decide +kernel, by decide +kernel⟩
theorem ok_Book_change (T : Tx K mg) : GM P w K mg base (He.ga K "Book") "change" 5 (sp_Book_change K) := by
  have F := mkR (P := P) (w := w) (base := base) T 57 (d := d_Book_change) rfl rfl sc_Book_change (fun _ _ _ _ _ _ us hl => match us, hl with | [_, _, _], _ => rfl) len3 (k := 4) (sp := (sp_Book_change K)) fun cdv A outer s H vs Q E hr h => by
    obtain ⟨self, part, value, rfl, h⟩ := h
    refine ⟨_, (pss_cons (ps_if (PW.pt (pw_or (pt_not (pt_val (pe_gf (ok_is_part_of (K := K) T) hr (pa_cons (pv 1) (pa_cons (pe_gref (T.glo 98)) pa_nil))))) (pw_or1 (pt_not (pt_val (pe_gf (ok_is_value (K := K) T) hr (pa_cons (pv 1) (pa_cons (pv 2) pa_nil)))))))) (pss_one ps_never) pss_nil)
      (pss_one (ps_dput (hu_of hr) (pe_f (pv 0) (T.cls 153) (T.noat 156)) (pv 1) (pv 2) (by rfl)))), ?_⟩
    obtain ⟨a, lo, pp, b, per, z, rfl, rfl, ⟨dx, h1, h2, h3⟩, hv, h⟩ := h
    have hW : ∀ H, SqT K H (He.ga K "PARTS") (partsZ.map V.str) := fun H => T.tup 99 H
    walk_at "go"
    refine c_part_of (zs := partsZ) (hW _) ?_
    rw [pv_in hv]
    walk_at "go"
    refine c_is_value hv (fun H1 S1 => ?_)
    walk_at "go"
    have h2' := S1 _ _ h2
    refine rd_putS h2' (by show 9 ≤ 60000; omega) (fun H2 X2 e2 => ?_)
    exact h H2 ((Ex.of S1).trans X2) e2
  exact ⟨_, T.meth 157, F.1⟩
def sp_Book_bound_g (K : PySem.W.Frag) : Sp := sp1 fun self H Q => ∃ (a lo pp : Addr) (b : Bk) (per : Int), self = .ref a ∧ IsB K H a b lo pp per ∧ Q (.int b.bound) H
theorem sc_Book_bound_g : FnScope n_Book_bound_g p_Book_bound_g d_Book_bound_g.scope := ⟨rfl, rfl, rfl, by decide +kernel, rfl, by decide +kernel, by decide +kernel⟩
theorem ok_Book_bound_g (T : Tx K mg) : GP P w K mg base (He.ga K "Book") "bound" 1 (sp_Book_bound_g K) := by
  have F := mkR (P := P) (w := w) (base := base) T 58 (d := d_Book_bound_g) rfl rfl sc_Book_bound_g (fun _ _ _ _ _ _ us hl => match us, hl with | [_], _ => rfl) len1 (k := 0) (sp := (sp_Book_bound_g K)) fun cdv A outer s H vs Q E hr h => by
    obtain ⟨self, rfl, h⟩ := h
    refine ⟨_, (pss_one (ps_ret (pe_dget (hu_of hr) (pe_f (pv 0) (T.cls 153) (T.noat 156)) pe_str (fun _ _ => rfl)))), ?_⟩
    obtain ⟨a, lo, pp, b, per, rfl, ⟨dx, h1, h2, h3⟩, h⟩ := h
    walk_at "go"
    exact h
  exact ⟨_, _, T.prop 158, F.1⟩
theorem c_Sbound {K : PySem.W.Frag} {H : Hp} {Q : VK} {E : XK} {a lo pp : Addr} {b : Bk} {per : Int} (w : IsB K H a b lo pp per) (q : Q (.int b.bound) H) : sp_Book_bound_g K [.ref a] H Q E := ⟨_, rfl, a, lo, pp, b, per, rfl, w, q⟩
local macro_rules | `(tactic| walk_at "call") => `(tactic| ((with_reducible apply c_Sbound); (· walk_at "ib")))
theorem c_Bbound {K : PySem.W.Frag} {H : Hp} {Q : VK} {a lo pp : Addr} {b : Bk} {per : Int} (w : IsB K H a b lo pp per) (q : Q (.int b.bound) H) : kPR (He.ga K "Book") (sp_Book_bound_g K) (.ref a) H Q := by
  obtain ⟨dx, h1, _⟩ := id w
  exact rd_kPR h1 ⟨_, rfl, a, lo, pp, b, per, rfl, w, q⟩
local macro_rules | `(tactic| walk_at "call") => `(tactic| ((with_reducible apply c_Bbound); (· walk_at "ib")))
def sp_Book_looks_g (K : PySem.W.Frag) : Sp := sp1 fun self H Q => ∃ (a lo pp : Addr) (b : Bk) (per : Int), self = .ref a ∧ IsB K H a b lo pp per ∧ Q (.ref lo) H
theorem sc_Book_looks_g : FnScope n_Book_looks_g p_Book_looks_g d_Book_looks_g.scope := ⟨rfl, rfl, rfl, by decide +kernel, rfl, by decide +kernel, by decide +kernel⟩
theorem ok_Book_looks_g (T : Tx K mg) : GP P w K mg base (He.ga K "Book") "looks" 1 (sp_Book_looks_g K) := by
  have F := mkR (P := P) (w := w) (base := base) T 59 (d := d_Book_looks_g) rfl rfl sc_Book_looks_g (fun _ _ _ _ _ _ us hl => match us, hl with | [_], _ => rfl) len1 (k := 0) (sp := (sp_Book_looks_g K)) fun cdv A outer s H vs Q E hr h => by
    obtain ⟨self, rfl, h⟩ := h
    refine ⟨_, (pss_one (ps_ret (pe_dget (hu_of hr) (pe_f (pv 0) (T.cls 153) (T.noat 156)) pe_str (fun _ _ => rfl)))), ?_⟩
    obtain ⟨a, lo, pp, b, per, rfl, ⟨dx, h1, h2, h3⟩, h⟩ := h
    walk_at "go"
    exact h
  exact ⟨_, _, T.prop 159, F.1⟩
theorem c_Slooks {K : PySem.W.Frag} {H : Hp} {Q : VK} {E : XK} {a lo pp : Addr} {b : Bk} {per : Int} (w : IsB K H a b lo pp per) (q : Q (.ref lo) H) : sp_Book_looks_g K [.ref a] H Q E := ⟨_, rfl, a, lo, pp, b, per, rfl, w, q⟩
local macro_rules | `(tactic| walk_at "call") => `(tactic| ((with_reducible apply c_Slooks); (· walk_at "ib")))
theorem c_Blooks {K : PySem.W.Frag} {H : Hp} {Q : VK} {a lo pp : Addr} {b : Bk} {per : Int} (w : IsB K H a b lo pp per) (q : Q (.ref lo) H) : kPR (He.ga K "Book") (sp_Book_looks_g K) (.ref a) H Q := by
  obtain ⟨dx, h1, _⟩ := id w
  exact rd_kPR h1 ⟨_, rfl, a, lo, pp, b, per, rfl, w, q⟩
local macro_rules | `(tactic| walk_at "call") => `(tactic| ((with_reducible apply c_Blooks); (· walk_at "ib")))
def sp_Book_how_g (K : PySem.W.Frag) : Sp := sp1 fun self H Q => ∃ (a lo pp : Addr) (b : Bk) (per : Int), self = .ref a ∧ IsB K H a b lo pp per ∧ Q (.str (hz b.above)) H
theorem sc_Book_how_g : FnScope n_Book_how_g p_Book_how_g d_Book_how_g.scope := ⟨rfl, rfl, rfl, by decide +kernel, rfl, by decide +kernel, by decide +kernel⟩
theorem ok_Book_how_g (T : Tx K mg) : GP P w K mg base (He.ga K "Book") "how" 1 (sp_Book_how_g K) := by
  have F := mkR (P := P) (w := w) (base := base) T 60 (d := d_Book_how_g) rfl rfl sc_Book_how_g (fun _ _ _ _ _ _ us hl => match us, hl with | [_], _ => rfl) len1 (k := 0) (sp := (sp_Book_how_g K)) fun cdv A outer s H vs Q E hr h => by
    obtain ⟨self, rfl, h⟩ := h
    refine ⟨_, (pss_one (ps_ret (pe_dget (hu_of hr) (pe_f (pv 0) (T.cls 153) (T.noat 156)) pe_str (fun _ _ => rfl)))), ?_⟩
    obtain ⟨a, lo, pp, b, per, rfl, ⟨dx, h1, h2, h3⟩, h⟩ := h
    walk_at "go"
    exact h
  exact ⟨_, _, T.prop 160, F.1⟩
theorem c_Show {K : PySem.W.Frag} {H : Hp} {Q : VK} {E : XK} {a lo pp : Addr} {b : Bk} {per : Int} (w : IsB K H a b lo pp per) (q : Q (.str (hz b.above)) H) : sp_Book_how_g K [.ref a] H Q E := ⟨_, rfl, a, lo, pp, b, per, rfl, w, q⟩
local macro_rules | `(tactic| walk_at "call") => `(tactic| ((with_reducible apply c_Show); (· walk_at "ib")))
theorem c_Bhow {K : PySem.W.Frag} {H : Hp} {Q : VK} {a lo pp : Addr} {b : Bk} {per : Int} (w : IsB K H a b lo pp per) (q : Q (.str (hz b.above)) H) : kPR (He.ga K "Book") (sp_Book_how_g K) (.ref a) H Q := by
  obtain ⟨dx, h1, _⟩ := id w
  exact rd_kPR h1 ⟨_, rfl, a, lo, pp, b, per, rfl, w, q⟩
local macro_rules | `(tactic| walk_at "call") => `(tactic| ((with_reducible apply c_Bhow); (· walk_at "ib")))
def sp_Book_day_g (K : PySem.W.Frag) : Sp := sp1 fun self H Q => ∃ (a lo pp : Addr) (b : Bk) (per : Int), self = .ref a ∧ IsB K H a b lo pp per ∧ Q (.int b.day) H
theorem sc_Book_day_g : FnScope n_Book_day_g p_Book_day_g d_Book_day_g.scope := ⟨rfl, rfl, rfl, by decide +kernel, rfl, by decide +kernel, by decide +kernel⟩
theorem ok_Book_day_g (T : Tx K mg) : GP P w K mg base (He.ga K "Book") "day" 1 (sp_Book_day_g K) := by
  have F := mkR (P := P) (w := w) (base := base) T 61 (d := d_Book_day_g) rfl rfl sc_Book_day_g (fun _ _ _ _ _ _ us hl => match us, hl with | [_], _ => rfl) len1 (k := 0) (sp := (sp_Book_day_g K)) fun cdv A outer s H vs Q E hr h => by
    obtain ⟨self, rfl, h⟩ := h
    refine ⟨_, (pss_one (ps_ret (pe_dget (hu_of hr) (pe_f (pv 0) (T.cls 153) (T.noat 156)) pe_str (fun _ _ => rfl)))), ?_⟩
    obtain ⟨a, lo, pp, b, per, rfl, ⟨dx, h1, h2, h3⟩, h⟩ := h
    walk_at "go"
    exact h
  exact ⟨_, _, T.prop 161, F.1⟩
theorem c_Sday {K : PySem.W.Frag} {H : Hp} {Q : VK} {E : XK} {a lo pp : Addr} {b : Bk} {per : Int} (w : IsB K H a b lo pp per) (q : Q (.int b.day) H) : sp_Book_day_g K [.ref a] H Q E := ⟨_, rfl, a, lo, pp, b, per, rfl, w, q⟩
local macro_rules | `(tactic| walk_at "call") => `(tactic| ((with_reducible apply c_Sday); (· walk_at "ib")))
theorem c_Bday {K : PySem.W.Frag} {H : Hp} {Q : VK} {a lo pp : Addr} {b : Bk} {per : Int} (w : IsB K H a b lo pp per) (q : Q (.int b.day) H) : kPR (He.ga K "Book") (sp_Book_day_g K) (.ref a) H Q := by
  obtain ⟨dx, h1, _⟩ := id w
  exact rd_kPR h1 ⟨_, rfl, a, lo, pp, b, per, rfl, w, q⟩
local macro_rules | `(tactic| walk_at "call") => `(tactic| ((with_reducible apply c_Bday); (· walk_at "ib")))
def sp_Book_grain_g (K : PySem.W.Frag) : Sp := sp1 fun self H Q => ∃ (a lo pp : Addr) (b : Bk) (per : Int), self = .ref a ∧ IsB K H a b lo pp per ∧ Q (.int b.grain) H
theorem sc_Book_grain_g : FnScope n_Book_grain_g p_Book_grain_g d_Book_grain_g.scope := ⟨rfl, rfl, rfl, by decide +kernel, rfl, by decide +kernel, by decide +kernel⟩
theorem ok_Book_grain_g (T : Tx K mg) : GP P w K mg base (He.ga K "Book") "grain" 1 (sp_Book_grain_g K) := by
  have F := mkR (P := P) (w := w) (base := base) T 62 (d := d_Book_grain_g) rfl rfl sc_Book_grain_g (fun _ _ _ _ _ _ us hl => match us, hl with | [_], _ => rfl) len1 (k := 0) (sp := (sp_Book_grain_g K)) fun cdv A outer s H vs Q E hr h => by
    obtain ⟨self, rfl, h⟩ := h
    refine ⟨_, (pss_one (ps_ret (pe_dget (hu_of hr) (pe_f (pv 0) (T.cls 153) (T.noat 156)) pe_str (fun _ _ => rfl)))), ?_⟩
    obtain ⟨a, lo, pp, b, per, rfl, ⟨dx, h1, h2, h3⟩, h⟩ := h
    walk_at "go"
    exact h
  exact ⟨_, _, T.prop 162, F.1⟩
theorem c_Sgrain {K : PySem.W.Frag} {H : Hp} {Q : VK} {E : XK} {a lo pp : Addr} {b : Bk} {per : Int} (w : IsB K H a b lo pp per) (q : Q (.int b.grain) H) : sp_Book_grain_g K [.ref a] H Q E := ⟨_, rfl, a, lo, pp, b, per, rfl, w, q⟩
local macro_rules | `(tactic| walk_at "call") => `(tactic| ((with_reducible apply c_Sgrain); (· walk_at "ib")))
theorem c_Bgrain {K : PySem.W.Frag} {H : Hp} {Q : VK} {a lo pp : Addr} {b : Bk} {per : Int} (w : IsB K H a b lo pp per) (q : Q (.int b.grain) H) : kPR (He.ga K "Book") (sp_Book_grain_g K) (.ref a) H Q := by
  obtain ⟨dx, h1, _⟩ := id w
  exact rd_kPR h1 ⟨_, rfl, a, lo, pp, b, per, rfl, w, q⟩
local macro_rules | `(tactic| walk_at "call") => `(tactic| ((with_reducible apply c_Bgrain); (· walk_at "ib")))
def sp_Book_spares_g (K : PySem.W.Frag) : Sp := sp1 fun self H Q => ∃ (a lo pp : Addr) (b : Bk) (per : Int), self = .ref a ∧ IsB K H a b lo pp per ∧ Q (.bl b.spares) H
theorem sc_Book_spares_g : FnScope n_Book_spares_g p_Book_spares_g d_Book_spares_g.scope := ⟨rfl, rfl, rfl, by decide +kernel, rfl, by decide +kernel, by decide +kernel⟩
theorem ok_Book_spares_g (T : Tx K mg) : GP P w K mg base (He.ga K "Book") "spares" 1 (sp_Book_spares_g K) := by
  have F := mkR (P := P) (w := w) (base := base) T 63 (d := d_Book_spares_g) rfl rfl sc_Book_spares_g (fun _ _ _ _ _ _ us hl => match us, hl with | [_], _ => rfl) len1 (k := 0) (sp := (sp_Book_spares_g K)) fun cdv A outer s H vs Q E hr h => by
    obtain ⟨self, rfl, h⟩ := h
    refine ⟨_, (pss_one (ps_ret (pe_dget (hu_of hr) (pe_f (pv 0) (T.cls 153) (T.noat 156)) pe_str (fun _ _ => rfl)))), ?_⟩
    obtain ⟨a, lo, pp, b, per, rfl, ⟨dx, h1, h2, h3⟩, h⟩ := h
    walk_at "go"
    exact h
  exact ⟨_, _, T.prop 163, F.1⟩
theorem c_Sspares {K : PySem.W.Frag} {H : Hp} {Q : VK} {E : XK} {a lo pp : Addr} {b : Bk} {per : Int} (w : IsB K H a b lo pp per) (q : Q (.bl b.spares) H) : sp_Book_spares_g K [.ref a] H Q E := ⟨_, rfl, a, lo, pp, b, per, rfl, w, q⟩
local macro_rules | `(tactic| walk_at "call") => `(tactic| ((with_reducible apply c_Sspares); (· walk_at "ib")))
theorem c_Bspares {K : PySem.W.Frag} {H : Hp} {Q : VK} {a lo pp : Addr} {b : Bk} {per : Int} (w : IsB K H a b lo pp per) (q : Q (.bl b.spares) H) : kPR (He.ga K "Book") (sp_Book_spares_g K) (.ref a) H Q := by
  obtain ⟨dx, h1, _⟩ := id w
  exact rd_kPR h1 ⟨_, rfl, a, lo, pp, b, per, rfl, w, q⟩
local macro_rules | `(tactic| walk_at "call") => `(tactic| ((with_reducible apply c_Bspares); (· walk_at "ib")))
def sp_Book_late_g (K : PySem.W.Frag) : Sp := sp1 fun self H Q => ∃ (a lo pp : Addr) (b : Bk) (per : Int), self = .ref a ∧ IsB K H a b lo pp per ∧ Q (.int b.late) H
theorem sc_Book_late_g : FnScope n_Book_late_g p_Book_late_g d_Book_late_g.scope := ⟨rfl, rfl, rfl, by decide +kernel, rfl, by decide +kernel, by decide +kernel⟩
theorem ok_Book_late_g (T : Tx K mg) : GP P w K mg base (He.ga K "Book") "late" 1 (sp_Book_late_g K) := by
  have F := mkR (P := P) (w := w) (base := base) T 64 (d := d_Book_late_g) rfl rfl sc_Book_late_g (fun _ _ _ _ _ _ us hl => match us, hl with | [_], _ => rfl) len1 (k := 0) (sp := (sp_Book_late_g K)) fun cdv A outer s H vs Q E hr h => by
    obtain ⟨self, rfl, h⟩ := h
    refine ⟨_, (pss_one (ps_ret (pe_dget (hu_of hr) (pe_f (pv 0) (T.cls 153) (T.noat 156)) pe_str (fun _ _ => rfl)))), ?_⟩
    obtain ⟨a, lo, pp, b, per, rfl, ⟨dx, h1, h2, h3⟩, h⟩ := h
    walk_at "go"
    exact h
  exact ⟨_, _, T.prop 164, F.1⟩
theorem c_Slate {K : PySem.W.Frag} {H : Hp} {Q : VK} {E : XK} {a lo pp : Addr} {b : Bk} {per : Int} (w : IsB K H a b lo pp per) (q : Q (.int b.late) H) : sp_Book_late_g K [.ref a] H Q E := ⟨_, rfl, a, lo, pp, b, per, rfl, w, q⟩
local macro_rules | `(tactic| walk_at "call") => `(tactic| ((with_reducible apply c_Slate); (· walk_at "ib")))
theorem c_Blate {K : PySem.W.Frag} {H : Hp} {Q : VK} {a lo pp : Addr} {b : Bk} {per : Int} (w : IsB K H a b lo pp per) (q : Q (.int b.late) H) : kPR (He.ga K "Book") (sp_Book_late_g K) (.ref a) H Q := by
  obtain ⟨dx, h1, _⟩ := id w
  exact rd_kPR h1 ⟨_, rfl, a, lo, pp, b, per, rfl, w, q⟩
local macro_rules | `(tactic| walk_at "call") => `(tactic| ((with_reducible apply c_Blate); (· walk_at "ib")))
def sp_Book_again_g (K : PySem.W.Frag) : Sp := sp1 fun self H Q => ∃ (a lo pp : Addr) (b : Bk) (per : Int), self = .ref a ∧ IsB K H a b lo pp per ∧ Q (.bl b.again) H
theorem sc_Book_again_g : FnScope n_Book_again_g p_Book_again_g d_Book_again_g.scope := ⟨rfl, rfl, rfl, by decide +kernel, rfl, by decide +kernel, by decide +kernel⟩
theorem ok_Book_again_g (T : Tx K mg) : GP P w K mg base (He.ga K "Book") "again" 1 (sp_Book_again_g K) := by
  have F := mkR (P := P) (w := w) (base := base) T 65 (d := d_Book_again_g) rfl rfl sc_Book_again_g (fun _ _ _ _ _ _ us hl => match us, hl with | [_], _ => rfl) len1 (k := 0) (sp := (sp_Book_again_g K)) fun cdv A outer s H vs Q E hr h => by
    obtain ⟨self, rfl, h⟩ := h
    refine ⟨_, (pss_one (ps_ret (pe_dget (hu_of hr) (pe_f (pv 0) (T.cls 153) (T.noat 156)) pe_str (fun _ _ => rfl)))), ?_⟩
    obtain ⟨a, lo, pp, b, per, rfl, ⟨dx, h1, h2, h3⟩, h⟩ := h
    walk_at "go"
    exact h
  exact ⟨_, _, T.prop 165, F.1⟩
theorem c_Sagain {K : PySem.W.Frag} {H : Hp} {Q : VK} {E : XK} {a lo pp : Addr} {b : Bk} {per : Int} (w : IsB K H a b lo pp per) (q : Q (.bl b.again) H) : sp_Book_again_g K [.ref a] H Q E := ⟨_, rfl, a, lo, pp, b, per, rfl, w, q⟩
local macro_rules | `(tactic| walk_at "call") => `(tactic| ((with_reducible apply c_Sagain); (· walk_at "ib")))
theorem c_Bagain {K : PySem.W.Frag} {H : Hp} {Q : VK} {a lo pp : Addr} {b : Bk} {per : Int} (w : IsB K H a b lo pp per) (q : Q (.bl b.again) H) : kPR (He.ga K "Book") (sp_Book_again_g K) (.ref a) H Q := by
  obtain ⟨dx, h1, _⟩ := id w
  exact rd_kPR h1 ⟨_, rfl, a, lo, pp, b, per, rfl, w, q⟩
local macro_rules | `(tactic| walk_at "call") => `(tactic| ((with_reducible apply c_Bagain); (· walk_at "ib")))
theorem c_bM {K : PySem.W.Frag} {H : Hp} {a lo pp : Addr} {b : Bk} {per : Int} {m : Str} {N : Prop} (w : IsB K H a b lo pp per) (m1 : m ≠ "own_parts") (q : N) : kM (He.ga K "Book") m (.ref a) H N := by
  obtain ⟨dx, h1, _⟩ := w
  refine rd_kM h1 ?_ q
  rw [List.lookup_cons, (beq_eq_false_iff_ne.mpr m1)]
  rfl
local macro_rules | `(tactic| walk_at "call") => `(tactic| ((with_reducible apply c_bM); (· walk_at "ib"); (· decide)))
def sp_Book_threshold (K : PySem.W.Frag) : Sp := sp1 fun self H Q => ∃ (a lo pp : Addr) (b : Bk) (per : Int), self = .ref a ∧ IsB K H a b lo pp per ∧ BOk b per ∧ Q (.int (AgM.threshold b)) H
theorem sc_Book_threshold : FnScope n_Book_threshold p_Book_threshold d_Book_threshold.scope := ⟨rfl, rfl, rfl, by decide +kernel, rfl, by decide +kernel, by decide +kernel⟩
theorem ok_Book_threshold (T : Tx K mg) : GM P w K mg base (He.ga K "Book") "threshold" 3 (sp_Book_threshold K) := by
  have F := mkR (P := P) (w := w) (base := base) T 66 (d := d_Book_threshold) rfl rfl sc_Book_threshold (fun _ _ _ _ _ _ us hl => match us, hl with | [_], _ => rfl) len1 (k := 2) (sp := (sp_Book_threshold K)) fun cdv A outer s H vs Q E hr h => by
    obtain ⟨self, rfl, h⟩ := h
    refine ⟨_, (pss_one (ps_ret (pe_op op_mul (pe_op op_add (pe_gp (pv 0) (T.cls 153) (ok_Book_bound_g (K := K) T) hr) (pe_ct jc_intb (T.free 73) (pa_cons (pe_cmpR op_eq (pe_gp (pv 0) (T.cls 153) (ok_Book_how_g (K := K) T) hr) pe_str (nomark _)) pa_nil))) (pe_gp (pv 0) (T.cls 153) (ok_Book_day_g (K := K) T) hr)))), ?_⟩
    obtain ⟨a, lo, pp, b, per, rfl, w, o, h⟩ := h
    have d1 := o.d1
    have d2 := o.d2
    walk_at "go"
    rw [hz_ab]
    refine rd_I (.inr ⟨by omega, by omega⟩) ?_
    exact h
  exact ⟨_, T.meth 166, F.1⟩
theorem c_threshold {K : PySem.W.Frag} {H : Hp} {Q : VK} {E : XK} {a lo pp : Addr} {b : Bk} {per : Int} (w : IsB K H a b lo pp per) (o : BOk b per) (q : Q (.int (AgM.threshold b)) H) : sp_Book_threshold K [.ref a] H Q E := ⟨_, rfl, a, lo, pp, b, per, rfl, w, o, q⟩
local macro_rules | `(tactic| walk_at "call") => `(tactic| ((with_reducible apply c_threshold); (· walk_at "ib"); (· assumption)))
theorem looks_ne {l : List Mark} (h : l ∈ looksAll) : l ≠ [] ∧ l.length ≤ 3 := by
  simp only [looksAll, List.mem_cons, List.not_mem_nil, or_false] at h
  rcases h with rfl | rfl | rfl | rfl | rfl | rfl | rfl <;> exact ⟨(fun z => nomatch z), by decide⟩
def fT (t : Tb) (v : V) : Option V := match v with
  | .str z => valV (tbk t) (Sum.inr z)
  | _ => none
theorem fT_all (t : Tb) (l : List Mark) : (lv l).filterMap (fT t) = (l.map t.get).map V.int := by
  unfold lv
  rw [List.filterMap_map, List.map_map, ← List.filterMap_eq_map]
  congr 1
  funext m
  show fT t (mv m) = _
  unfold fT mv
  simp only [tbk_get]
  rfl
def sp_seconds_old (K : PySem.W.Frag) : Sp := sp3 fun book marks at_ H Q => ∃ (a lo pp m : Addr) (b : Bk) (per t : Int) (tb : Tb), book = .ref a ∧ marks = .ref m ∧ at_ = .int t ∧ IsB K H a b lo pp per ∧ BOk b per ∧ H m = some (.dK (tbk tb)) ∧ ∀ L H', Same H H' → (∀ k ∈ b.looks, tb.get k ≤ L) → Q (.int (t - (L - L % b.grain))) H'
theorem sc_seconds_old : FnScope n_seconds_old p_seconds_old d_seconds_old.scope := ⟨rfl, rfl, rfl, by decide +kernel, rfl, by decide +kernel, by decide +kernel⟩
theorem ok_seconds_old (T : Tx K mg) : GF P w K mg base "seconds_old" 3 (sp_seconds_old K) := by
  have F := mkR (P := P) (w := w) (base := base) T 70 (d := d_seconds_old) rfl rfl sc_seconds_old (fun _ _ _ _ _ _ us hl => match us, hl with | [_, _, _], _ => rfl) len3 (k := 2) (sp := (sp_seconds_old K)) fun cdv A outer s H vs Q E hr h => by
    obtain ⟨book, marks, at_, rfl, h⟩ := h
    refine ⟨_, (pss_cons (ps_set (i := 3) sc_seconds_old.nd rfl (Or.inl rfl) (pe_cb (jc_max (K := K) rfl) (T.free 74) (pa_cons (pe_lc (own := [("mark", 4)]) (g := gName 4) (tt := tYes) rfl sc_seconds_old.nd (ji_tup (K := K) (pe_gp (pv 0) (T.cls 153) (ok_Book_looks_g (K := K) T) hr)) (blkOk_by (own := [("mark", 4)]) (N := n_seconds_old) (sc := d_seconds_old.scope) (by decide +kernel)) (fun _ _ _ _ _ => pg_name (i := 4) sc_seconds_old.nd rfl (Or.inl rfl)) (fun _ _ _ _ _ => pts_nil) (fun _ _ _ _ _ => (pe_ct jc_int (T.free 73) (pa_cons (pe_dget (hu_of hr) (pv 1) (pv 4) (fun _ _ => rfl)) pa_nil)))) pa_nil)))
      (pss_one (ps_ret (pe_op op_sub (pv 2) (pe_op op_sub (pv 3) (pe_op op_mod (pv 3) (pe_gp (pv 0) (T.cls 153) (ok_Book_grain_g (K := K) T) hr))))))), ?_⟩
    obtain ⟨a, lo, pp, m, b, per, t, tb, rfl, rfl, rfl, w, o, hm, h⟩ := h
    obtain ⟨l0, l3⟩ := looks_ne o.lk
    have g1 := o.g1
    obtain ⟨dx, h1, h2, h3⟩ := id w
    walk_at "go"
    refine ⟨_, rfl, ⟨_, sqt h3⟩, lc_fmt (fT tb) (sqt h3) (by unfold lv; rw [List.length_map]; omega) (fun x hx H2 Nx S hNx => ?_) (fun D H2 n2 S2 e2 => ?_)⟩
    · obtain ⟨k, _, rfl⟩ := List.mem_map.mp hx
      have eg := tbk_get tb k
      have ef : fT tb (mv k) = some (.int (tb.get k)) := eg
      rw [ef] at hNx
      have hm2 := S _ _ hm
      unfold mv
      walk_at "go"
      exact hNx _ (Same.refl _)
    rw [fT_all] at e2
    have lp : 0 < b.looks.length := by
      cases e : b.looks with
      | nil => exact absurd e l0
      | cons x r => exact Nat.succ_pos _
    walk_at "go"
    refine rd_max (sql e2) (by rw [List.length_map]; exact lp) (fun L _ m2 => ?_)
    walk_at "go"
    refine rd_I (show (0 : Int) < b.grain by omega) ?_
    walk_at "go"
    exact h L H2 S2 fun k hk => m2 _ (List.mem_map_of_mem hk)
  exact ⟨_, T.glo 29, F.2, F.1⟩
theorem c_seconds_old {K : PySem.W.Frag} {H : Hp} {Q : VK} {E : XK} {a lo pp m : Addr} {b : Bk} {per t : Int} {tb : Tb} (w : IsB K H a b lo pp per) (o : BOk b per) (hm : H m = some (.dK (tbk tb))) (q : ∀ L H', Same H H' → (∀ k ∈ b.looks, tb.get k ≤ L) → Q (.int (t - (L - L % b.grain))) H') : sp_seconds_old K [.ref a, .ref m, .int t] H Q E := ⟨_, _, _, rfl, a, lo, pp, m, b, per, t, tb, rfl, rfl, rfl, w, o, hm, q⟩
local macro_rules | `(tactic| walk_at "call") => `(tactic| ((with_reducible apply c_seconds_old); (· walk_at "ib"); (· assumption); (· walk_at "hp")))
/-- what a look answers -/
def DelOk (b : Bk) (tb : Tb) (held : Bool) (t : Int) (r : Bool) : Prop := (b.spares = true ∧ held = true ∧ r = false) ∨ (¬ (b.spares = true ∧ held = true) ∧ ∃ L, (∀ k ∈ b.looks, tb.get k ≤ L) ∧ r = decide (AgM.threshold b ≤ t - (L - L % b.grain)))
def sp_Book_deletes (K : PySem.W.Frag) : Sp := sp4 fun self marks held at_ H Q => ∃ (a lo pp m : Addr) (b : Bk) (per t : Int) (tb : Tb) (hd : Bool), self = .ref a ∧ marks = .ref m ∧ held = .bl hd ∧ at_ = .int t ∧ IsB K H a b lo pp per ∧ BOk b per ∧ H m = some (.dK (tbk tb)) ∧ ∀ r H', Same H H' → DelOk b tb hd t r → Q (.bl r) H'
theorem sc_Book_deletes : FnScope n_Book_deletes p_Book_deletes d_Book_deletes.scope := ⟨rfl, rfl, rfl, by decide +kernel, rfl, by decide +kernel, by decide +kernel⟩
theorem ok_Book_deletes (T : Tx K mg) : GM P w K mg base (He.ga K "Book") "deletes" 4 (sp_Book_deletes K) := by
  have F := mkR (P := P) (w := w) (base := base) T 67 (d := d_Book_deletes) rfl rfl sc_Book_deletes (fun _ _ _ _ _ _ us hl => match us, hl with | [_, _, _, _], _ => rfl) len4 (k := 3) (sp := (sp_Book_deletes K)) fun cdv A outer s H vs Q E hr h => by
    obtain ⟨self, marks, held, at_, rfl, h⟩ := h
    refine ⟨_, (pss_cons (ps_if (PW.pt (pw_and (pt_val (pe_gp (pv 0) (T.cls 153) (ok_Book_spares_g (K := K) T) hr)) (pw_and1 (pt_val (pv 2))))) (pss_one (ps_ret pe_bl)) pss_nil)
      (pss_one (ps_ret (pe_cmpR op_ge (pe_gf (ok_seconds_old (K := K) T) hr (pa_cons (pv 0) (pa_cons (pv 1) (pa_cons (pv 3) pa_nil)))) (pe_gm0 (pv 0) (T.cls 153) (ok_Book_threshold (K := K) T) hr) (nomark _))))), ?_⟩
    obtain ⟨a, lo, pp, m, b, per, t, tb, hd, rfl, rfl, rfl, rfl, w, o, hm, h⟩ := h
    walk_at "go"
    refine iteb (fun c1 => ?_) (fun c1 => ?_)
    · walk_at "go"
      refine iteb (fun c2 => ?_) (fun c2 => ?_)
      · walk_at "go"
        exact h _ H (Same.refl _) (.inl ⟨c1, c2, rfl⟩)
      · walk_at "go"
        intro L H1 S1 hL
        walk_at "go"
        exact h _ H1 S1 (.inr ⟨fun z => absurd (c2.symm.trans z.2) Bool.false_ne_true, L, hL, rfl⟩)
    · walk_at "go"
      intro L H1 S1 hL
      walk_at "go"
      exact h _ H1 S1 (.inr ⟨fun z => absurd (c1.symm.trans z.1) Bool.false_ne_true, L, hL, rfl⟩)
  exact ⟨_, T.meth 167, F.1⟩
theorem c_deletes {K : PySem.W.Frag} {H : Hp} {Q : VK} {E : XK} {a lo pp m : Addr} {b : Bk} {per t : Int} {tb : Tb} {hd : Bool} (w : IsB K H a b lo pp per) (o : BOk b per) (hm : H m = some (.dK (tbk tb))) (q : ∀ r H', Same H H' → DelOk b tb hd t r → Q (.bl r) H') : sp_Book_deletes K [.ref a, .ref m, .bl hd, .int t] H Q E := ⟨_, _, _, _, rfl, a, lo, pp, m, b, per, t, tb, hd, rfl, rfl, rfl, rfl, w, o, hm, q⟩
local macro_rules | `(tactic| walk_at "call") => `(tactic| ((with_reducible apply c_deletes); (· walk_at "ib"); (· assumption); (· walk_at "hp")))
theorem c_held {K : PySem.W.Frag} {H : Hp} {Q : VK} {E : XK} {a ru tp : Addr} {held : Bool} {t : Int} {tb : Tb} (w : IsF K H a ru tp held t tb) (q : Q (.bl held) H) : sp_File_held_g K [.ref a] H Q E := ⟨_, rfl, a, ru, tp, held, t, tb, rfl, w, q⟩
local macro_rules | `(tactic| walk_at "call") => `(tactic| ((with_reducible apply c_held); (· assumption)))
def sp_Book_call (K : PySem.W.Frag) : Sp := sp3 fun self file at_ H Q => ∃ (a lo pp f ru tp : Addr) (b : Bk) (per t t0 : Int) (tb : Tb) (hd : Bool), self = .ref a ∧ file = .ref f ∧ at_ = .int t ∧ IsB K H a b lo pp per ∧ BOk b per ∧ IsF K H f ru tp hd t0 tb ∧ TOk t ∧ ∀ r H', Same H H' → DelOk b tb hd t r → Q (.bl r) H'
theorem sc_Book_call : FnScope n_Book_call p_Book_call d_Book_call.scope := ⟨rfl, rfl, rfl, by decide +kernel, rfl, by decide +kernel, by decide +kernel⟩
theorem ok_Book_call (T : Tx K mg) : GO P w K mg base (He.ga K "Book") "__call__" 5 (sp_Book_call K) := by
  have F := mkR (P := P) (w := w) (base := base) T 68 (d := d_Book_call) rfl rfl sc_Book_call (fun _ _ _ _ _ _ us hl => match us, hl with | [_, _, _], _ => rfl) len3 (k := 4) (sp := (sp_Book_call K)) fun cdv A outer s H vs Q E hr h => by
    obtain ⟨self, file, at_, rfl, h⟩ := h
    refine ⟨_, (pss_cons (ps_if (pt_not (pt_val (pe_cb (jc_isi (K := K)) (T.free 70) (pa_cons (pv 1) (pa_cons (pe_gref (T.glo 66)) pa_nil))))) (pss_one ps_never) pss_nil)
      (pss_cons (ps_set (i := 3) sc_Book_call.nd rfl (Or.inl rfl) (pe_gf (ok_seconds_of (K := K) T) hr (pa_cons (pv 2) pa_nil)))
      (pss_cons (ps_if (pt_cmpR op_isN' (pv 3) pe_non (nomark _)) (pss_one ps_never) pss_nil)
      (pss_one (ps_ret (pe_gm (pv 0) (T.cls 153) (ok_Book_deletes (K := K) T) hr (pa_cons (pe_f (pv 1) (T.cls 143) (T.noat 149)) (pa_cons (pe_gp (pv 1) (T.cls 143) (ok_File_held_g (K := K) T) hr) (pa_cons (pv 3) pa_nil))))))))), ?_⟩
    obtain ⟨a, lo, pp, f, ru, tp, b, per, t, t0, tb, hd, rfl, rfl, rfl, w, o, wf, ⟨t1, t2⟩, h⟩ := h
    have ht : -1000000000000000000000000000000 ≤ t ∧ t ≤ 1000000000000000000000000000000 := ⟨t1, t2⟩
    have kI : C8.InsC K (He.ga K "File") := (T.isi 145 143)
    obtain ⟨dx, h1, h2⟩ := id wf
    unfold fv at h1
    walk_at "go"
    exact h
  exact ⟨_, (T.own 169).1, (T.own 169).2.1, (T.own 169).2.2, F.1⟩
theorem c_bcall {K : PySem.W.Frag} {H : Hp} {Q : VK} {E : XK} {a lo pp f ru tp : Addr} {b : Bk} {per t t0 : Int} {tb : Tb} {hd : Bool} (w : IsB K H a b lo pp per) (o : BOk b per) (wf : IsF K H f ru tp hd t0 tb) (ht : TOk t) (q : ∀ r H', Same H H' → DelOk b tb hd t r → Q (.bl r) H') : sp_Book_call K [.ref a, .ref f, .int t] H Q E :=
  ⟨_, _, _, rfl, a, lo, pp, f, ru, tp, b, per, t, t0, tb, hd, rfl, rfl, rfl, w, o, wf, ht, q⟩
def sp_check_book (K : PySem.W.Frag) : Sp := sp1 fun value H Q => ∃ (a lo pp : Addr) (b : Bk) (per : Int), value = .ref a ∧ IsB K H a b lo pp per ∧ Q .non H
theorem sc_check_book : FnScope n_check_book p_check_book d_check_book.scope := ⟨rfl, rfl, rfl, by decide +kernel, rfl, by decide +kernel, by decide +kernel⟩
theorem ok_check_book (T : Tx K mg) : GF P w K mg base "check_book" 1 (sp_check_book K) := by
  have F := mkR (P := P) (w := w) (base := base) T 69 (d := d_check_book) rfl rfl sc_check_book (fun _ _ _ _ _ _ us hl => match us, hl with | [_], _ => rfl) len1 (k := 0) (sp := (sp_check_book K)) fun cdv A outer s H vs Q E hr h => by
    obtain ⟨value, rfl, h⟩ := h
    refine ⟨_, (pss_one (ps_if (pt_not (pt_val (pe_cb (jc_isi (K := K)) (T.free 70) (pa_cons (pv 0) (pa_cons (pe_gref (T.glo 67)) pa_nil))))) (pss_one ps_never) pss_nil)), ?_⟩
    obtain ⟨a, lo, pp, b, per, rfl, ⟨dx, h1, h2, h3⟩, h⟩ := h
    have kI : C8.InsC K (He.ga K "Book") := (T.isi 155 153)
    walk_at "go"
    exact h
  exact ⟨_, T.glo 28, F.2, F.1⟩
theorem c_check_book {K : PySem.W.Frag} {H : Hp} {Q : VK} {E : XK} {a lo pp : Addr} {b : Bk} {per : Int} (w : IsB K H a b lo pp per) (q : Q .non H) : sp_check_book K [.ref a] H Q E := ⟨_, rfl, a, lo, pp, b, per, rfl, w, q⟩
local macro_rules | `(tactic| walk_at "call") => `(tactic| ((with_reducible apply c_check_book); (· walk_at "ib")))
def sp_is_step (K : PySem.W.Frag) : Sp := sp2 fun way value H Q => ∃ (a p : Addr) (N : List Deed) (R : List Arr) (n : Nat) (t : Int), way = .ref a ∧ value = .ref p ∧ IsW K H a N R ∧ N.length ≤ 12 ∧ H p = some (.tup [.int n, .int t]) ∧ n < N.length ∧ TOk t ∧ Q (.bl true) H
theorem sc_is_step : FnScope n_is_step p_is_step d_is_step.scope := ⟨rfl, rfl, rfl, by decide +kernel, rfl, by decide +kernel, by decide +kernel⟩
theorem ok_is_step (T : Tx K mg) : GF P w K mg base "is_step" 3 (sp_is_step K) := by
  have F := mkR (P := P) (w := w) (base := base) T 71 (d := d_is_step) rfl rfl sc_is_step (fun _ _ _ _ _ _ us hl => match us, hl with | [_, _], _ => rfl) len2 (k := 2) (sp := (sp_is_step K)) fun cdv A outer s H vs Q E hr h => by
    obtain ⟨way, value, rfl, h⟩ := h
    refine ⟨_, (pss_cons (ps_if (PW.pt (pw_or (pt_not (pt_val (pe_cb (jc_isi (K := K)) (T.free 70) (pa_cons (pv 1) (pa_cons (pe_gty (T := "tuple") (T.free 78)) pa_nil))))) (pw_or (pt_cmpR op_ne (pe_cb (jc_ln (K := K)) (T.free 69) (pa_cons (pv 1) pa_nil)) pe_int (nomark _)) (pw_or1 (pt_not (pt_val (pe_gf (ok_is_between (K := K) T) hr (pa_cons (pe_ix (jx_tup (K := K)) (pv 1) pe_int (fun _ _ => rfl)) (pa_cons pe_int (pa_cons (pe_op op_sub (pe_gl (T.free 69) (ok_Way_len (K := K) T) hr (pa_cons (pv 0) pa_nil)) pe_int) pa_nil)))))))))) (pss_one (ps_ret pe_bl)) pss_nil)
      (pss_one (ps_ret (pe_gf (ok_is_between (K := K) T) hr (pa_cons (pe_ix (jx_tup (K := K)) (pv 1) pe_int (fun _ _ => rfl)) (pa_cons (pe_un un_neg (pe_gint (T.int 85))) (pa_cons (pe_gint (T.int 85)) pa_nil))))))), ?_⟩
    obtain ⟨a, p, N, R, n, t, rfl, rfl, w, hn, hp, hlt, ⟨t1, t2⟩, h⟩ := h
    walk_at "go"
    refine iteBF (by rw [decide_eq_true (show (0 : Int) ≤ n by omega), decide_eq_true (show (n : Int) ≤ N.length - 1 by omega)]; rfl) ?_
    walk_at "go"
    rw [decide_eq_true t1, decide_eq_true t2]
    exact h
  exact ⟨_, T.glo 30, F.2, F.1⟩
theorem c_is_step {K : PySem.W.Frag} {H : Hp} {Q : VK} {E : XK} {a p : Addr} {N : List Deed} {R : List Arr} {n : Nat} {t : Int} (w : IsW K H a N R) (hn : N.length ≤ 12) (hp : H p = some (.tup [.int n, .int t])) (hlt : n < N.length) (ht : TOk t) (q : Q (.bl true) H) : sp_is_step K [.ref a, .ref p] H Q E := ⟨_, _, rfl, a, p, N, R, n, t, rfl, rfl, w, hn, hp, hlt, ht, q⟩
def sp_leads (K : PySem.W.Frag) : Sp := sp3 fun way step later H Q => ∃ (a p q : Addr) (N : List Deed) (R : List Arr) (n n2 : Nat) (t t2 : Int) (r : Arr), way = .ref a ∧ step = .ref p ∧ later = .ref q ∧ IsW K H a N R ∧ N.length ≤ 12 ∧ H p = some (.tup [.int n, .int t]) ∧ H q = some (.tup [.int n2, .int t2]) ∧ n < N.length ∧ n2 < N.length ∧ R.find? (hit n n2) = some r ∧ r.l ≤ t2 - t ∧ t2 - t ≤ r.m ∧ ∀ H', Same H H' → Q (.bl true) H'
theorem sc_leads : FnScope n_leads p_leads d_leads.scope := ⟨rfl, rfl, rfl, by decide +kernel, rfl, by decide +kernel, by decide +kernel⟩
theorem ok_leads (T : Tx K mg) : GF P w K mg base "leads" 4 (sp_leads K) := by
  have F := mkR (P := P) (w := w) (base := base) T 72 (d := d_leads) rfl rfl sc_leads (fun _ _ _ _ _ _ us hl => match us, hl with | [_, _, _], _ => rfl) len3 (k := 3) (sp := (sp_leads K)) fun cdv A outer s H vs Q E hr h => by
    obtain ⟨way, step, later, rfl, h⟩ := h
    refine ⟨_, (pss_cons (ps_set (i := 3) sc_leads.nd rfl (Or.inl rfl) (pe_gm (pv 0) (T.cls 117) (ok_Way_arrow (K := K) T) hr (pa_cons (pe_ix (jx_tup (K := K)) (pv 1) pe_int (fun _ _ => rfl)) (pa_cons (pe_ix (jx_tup (K := K)) (pv 2) pe_int (fun _ _ => rfl)) pa_nil))))
      (pss_cons (ps_if (PW.pt (pw_or (pt_cmpR op_isN' (pv 3) pe_non (nomark _)) (pw_or1 (pt_cmpR op_lt (pe_op op_sub (pe_ix (jx_tup (K := K)) (pv 2) pe_int (fun _ _ => rfl)) (pe_ix (jx_tup (K := K)) (pv 1) pe_int (fun _ _ => rfl))) (pe_ix (jx_tup (K := K)) (pv 3) pe_int (fun _ _ => rfl)) (nomark _))))) (pss_one (ps_ret pe_bl)) pss_nil)
      (pss_one (ps_ret (pe_or (pe_cmpR op_isN' (pe_ix (jx_tup (K := K)) (pv 3) pe_int (fun _ _ => rfl)) pe_non (nomark _)) (pe_one (pe_cmpR op_le (pe_op op_sub (pe_ix (jx_tup (K := K)) (pv 2) pe_int (fun _ _ => rfl)) (pe_ix (jx_tup (K := K)) (pv 1) pe_int (fun _ _ => rfl))) (pe_ix (jx_tup (K := K)) (pv 3) pe_int (fun _ _ => rfl)) (nomark _)))))))), ?_⟩
    obtain ⟨a, p, q, N, R, n, n2, t, t2, r, rfl, rfl, rfl, w, hn, hp, hq, l1, l2, hf, h1, h2, h⟩ := h
    walk_at "go"
    intro v H1 S1 hv
    rw [hf] at hv
    obtain ⟨b, rfl, hb⟩ := hv
    walk_at "go"
    refine iteDF (by omega) ?_
    walk_at "go"
    rw [decide_eq_true h2]
    exact h H1 S1
  exact ⟨_, T.glo 31, F.2, F.1⟩
theorem c_leads {K : PySem.W.Frag} {H : Hp} {Q : VK} {E : XK} {a p q : Addr} {N : List Deed} {R : List Arr} {n n2 : Nat} {t t2 : Int} {r : Arr} (w : IsW K H a N R) (hn : N.length ≤ 12) (hp : H p = some (.tup [.int n, .int t])) (hq : H q = some (.tup [.int n2, .int t2])) (l1 : n < N.length) (l2 : n2 < N.length) (hf : R.find? (hit n n2) = some r) (h1 : r.l ≤ t2 - t) (h2 : t2 - t ≤ r.m)
    (k : ∀ H', Same H H' → Q (.bl true) H') : sp_leads K [.ref a, .ref p, .ref q] H Q E := ⟨_, _, _, rfl, a, p, q, N, R, n, n2, t, t2, r, rfl, rfl, rfl, w, hn, hp, hq, l1, l2, hf, h1, h2, k⟩
/-! ### rows -/
def stv (s : Nat × Int) : List V := [.int s.1, .int s.2]
theorem stv_pl (l : AgM.Row) : ∀ ys ∈ l.map stv, ys.all plV = true := fun ys h => by
  obtain ⟨p, _, rfl⟩ := List.mem_map.mp h
  rfl
theorem shtt {l : List (List V)} (h : ∀ xs ∈ l, xs.all plV = true) : SeqAt.shaped (.tuple (l.map fun xs => .tuple (xs.map fp))) = true := by
  obtain ⟨h1, h2⟩ := sht h
  show (PyData.canLay0 (.tuple (l.map fun xs => .tuple (xs.map fp))) && decide (PyData.depth (.tuple (l.map fun xs => .tuple (xs.map fp))) ≤ 64)) = true
  rw [Bool.and_eq_true]
  refine ⟨by simp only [PyData.canLay0]; exact h1, decide_eq_true ?_⟩
  simp only [PyData.depth]
  omega
theorem rd_eqTT0 {H : Hp} {Q : VK} {a b : Addr} {vs : List V} {l : List (List V)} (h : H a = some (.tup vs)) (k : H b = some (.tup [])) (t : Tups H vs l) (p2 : ∀ ys ∈ l, ys.all plV = true) (q : Q (.bl (decide (vs = []))) H) : rEqD K (.ref a) (.ref b) H Q :=
  rd_eqD (dp_tup h (t.dp p2)) (dp_tup k .nil) (shtt p2) (shtt (l := []) fun _ z => nomatch z) (by
    cases t with
    | nil => simpa [PyData.eqv, PyData.eqvAll] using q
    | cons _ _ => simpa [PyData.eqv, PyData.eqvAll] using q)
def IsRow (H : Hp) (p : Addr) (rw : AgM.Row) : Prop := ∃ vs, H p = some (.tup vs) ∧ Tups H vs (rw.map stv)
theorem IsRow.same {H H' : Hp} {p : Addr} {rw : AgM.Row} (S : Same H H') (h : IsRow H p rw) : IsRow H' p rw := by
  obtain ⟨vs, h1, h2⟩ := h
  exact ⟨vs, S _ _ h1, h2.same S⟩
theorem fm_true (vs : List V) : vs.filterMap (fun _ => some (V.bl true)) = (vs.map fun _ => true).map V.bl := by
  rw [List.map_map, ← List.filterMap_eq_map]
  rfl
theorem all_true {α : Type} (vs : List α) : ((vs.map fun _ => true).all fun b => b) = true := by
  rw [List.all_map, List.all_eq_true]
  exact fun _ _ => rfl
theorem ways_of {N : List Deed} {R : List Arr} (W : WOk N R) : AgM.Ways N R := by
  refine ⟨W.ok, fun a ha => ?_, fun a ha d hd => ?_, fun a ha c hc e1 e2 => ?_⟩
  · obtain ⟨o1, o2, o3, o4, _, _⟩ := W.ar a ha
    exact ⟨o3, o4, o1, o2⟩
  · obtain ⟨_, _, _, _, _, o6⟩ := W.ar a ha
    rw [getDr hd] at o6
    exact o6
  · obtain ⟨i, hi, ei⟩ := List.getElem_of_mem ha
    obtain ⟨j, hj, ej⟩ := List.getElem_of_mem hc
    have := W.di i j a c (by rw [List.getElem?_eq_getElem hi, ei]) (by rw [List.getElem?_eq_getElem hj, ej]) e1 e2
    subst this
    rw [← ei, ← ej]
theorem find_of {N : List Deed} {R : List Arr} (W : WOk N R) {r : Arr} (h : r ∈ R) : R.find? (hit r.s r.g) = some r := by
  cases e : R.find? (hit r.s r.g) with
  | none =>
    have := List.find?_eq_none.mp e r h
    exact absurd (by unfold hit; simp) this
  | some r2 =>
    have h2 := List.find?_some e
    unfold hit at h2
    rw [Bool.and_eq_true] at h2
    have h3 := List.mem_of_find?_eq_some e
    rw [(ways_of W).one r2 h3 r h (of_decide_eq_true h2.1) (of_decide_eq_true h2.2)]
/-- the arrow from a step to the next -/
theorem arr_at {N : List Deed} {R : List Arr} (W : WOk N R) {rw : AgM.Row} (L : AgM.Leads R rw) {i n n2 : Nat} {t t2 : Int} (h1 : rw[i]? = some (n, t)) (h2 : rw[i + 1]? = some (n2, t2)) : ∃ r, R.find? (hit n n2) = some r ∧ r ∈ R ∧ r.s = n ∧ r.g = n2 ∧ r.l ≤ t2 - t ∧ t2 - t ≤ r.m := by
  obtain ⟨r, hr, e1, e2, e3, e4⟩ := L.at_ h1 h2
  refine ⟨r, ?_, hr, e1, e2, e3, e4⟩
  have := find_of W hr
  rw [e1, e2] at this
  exact this
structure RwOk (N : List Deed) (R : List Arr) (rw : AgM.Row) : Prop where
  ok : AgM.RowOk N R rw
  tm : ∀ x ∈ rw, TOk x.2
  ln : rw.length ≤ 1000
def sp_is_row (K : PySem.W.Frag) : Sp := sp2 fun way value H Q => ∃ (a p : Addr) (N : List Deed) (R : List Arr) (rw : AgM.Row), way = .ref a ∧ value = .ref p ∧ IsW K H a N R ∧ WOk N R ∧ IsRow H p rw ∧ RwOk N R rw ∧ ∀ H', Same H H' → Q (.bl true) H'
theorem sc_is_row : FnScope n_is_row p_is_row d_is_row.scope := ⟨rfl, rfl, rfl, by decide +kernel, rfl, by decide +kernel, by decide +kernel⟩
theorem ok_is_row (T : Tx K mg) : GF P w K mg base "is_row" 6 (sp_is_row K) := by
  have F := mkR (P := P) (w := w) (base := base) T 73 (d := d_is_row) rfl rfl sc_is_row (fun _ _ _ _ _ _ us hl => match us, hl with | [_, _], _ => rfl) len2 (k := 5) (sp := (sp_is_row K)) fun cdv A outer s H vs Q E hr h => by
    obtain ⟨way, value, rfl, h⟩ := h
    refine ⟨_, (pss_cons (ps_expr (pe_gf (ok_check_way (K := K) T) hr (pa_cons (pv 0) pa_nil)))
      (pss_cons (ps_if (PW.pt (pw_or (pt_not (pt_val (pe_cb (jc_isi (K := K)) (T.free 70) (pa_cons (pv 1) (pa_cons (pe_gty (T := "tuple") (T.free 78)) pa_nil))))) (pw_or (pt_cmpR (jo_eqD (K := K) hr.units) (pv 1) (pe_tup pa_nil) (nomark _)) (pw_or1 (pt_not (pt_val (pe_cb (jc_all (K := K) rfl) (T.free 77) (pa_cons (pe_lc (own := [("step", 2)]) (g := gName 2) (tt := tYes) rfl sc_is_row.nd (ji_tup (K := K) (pv 1)) (blkOk_by (own := [("step", 2)]) (N := n_is_row) (sc := d_is_row.scope) (by decide +kernel)) (fun _ _ _ _ _ => pg_name (i := 2) sc_is_row.nd rfl (Or.inl rfl)) (fun _ _ _ _ _ => pts_nil) (fun _ _ _ _ _ => (pe_gf (ok_is_step (K := K) T) hr (pa_cons (pv 0) (pa_cons (pv 2) pa_nil))))) pa_nil)))))))) (pss_one (ps_ret pe_bl)) pss_nil)
      (pss_cons (ps_if (pt_not (pt_val (pe_gf (ok_makes (K := K) T) hr (pa_cons (pe_gi (pv 0) (pe_ix (jx_tup (K := K)) (pe_ix (jx_tup (K := K)) (pv 1) pe_int (fun _ _ => rfl)) pe_int (fun _ _ => rfl)) (ok_Way_getitem (K := K) T) hr) pa_nil)))) (pss_one (ps_ret pe_bl)) pss_nil)
      (pss_one (ps_ret (pe_cb (jc_all (K := K) rfl) (T.free 77) (pa_cons (pe_lc (own := [("at", 3)]) (g := gName 3) (tt := tYes) rfl sc_is_row.nd (pi_range1 (by rfl) (T.free 71) (pa_cons (pe_op op_sub (pe_cb (jc_ln (K := K)) (T.free 69) (pa_cons (pv 1) pa_nil)) pe_int) pa_nil)) (blkOk_by (own := [("at", 3)]) (N := n_is_row) (sc := d_is_row.scope) (by decide +kernel)) (fun _ _ _ _ _ => pg_name (i := 3) sc_is_row.nd rfl (Or.inl rfl)) (fun _ _ _ _ _ => pts_nil) (fun _ _ _ _ _ => (pe_gf (ok_leads (K := K) T) hr (pa_cons (pv 0) (pa_cons (pe_ix (jx_tup (K := K)) (pv 1) (pv 3) (fun _ _ => rfl)) (pa_cons (pe_ix (jx_tup (K := K)) (pv 1) (pe_op op_add (pv 3) pe_int) (fun _ _ => rfl)) pa_nil)))))) pa_nil))))))), ?_⟩
    obtain ⟨a, p, N, R, rw, rfl, rfl, w, W, ⟨vs, hp, tv⟩, O, h⟩ := h
    have hn := W.n2
    have hz : vs.length = rw.length := by rw [tv.len, List.length_map]
    have hl := O.ln
    obtain ⟨n0, t0, r0, d0, e0, hd0, hm0⟩ := O.ok.ne
    have hz0 : 0 < rw.length := by rw [e0]; exact Nat.succ_pos _
    walk_at "go"
    intro p1 H1 n1 S1 h1
    refine rd_eqTT0 (S1 _ _ hp) h1 (tv.same S1) (stv_pl rw) ?_
    walk_at "go"
    refine iteDF (fun z => by rw [z] at hz; simp at hz; omega) ?_
    have hp1 := S1 _ _ hp
    walk_at "go"
    refine ⟨_, rfl, ⟨_, sqt hp1⟩, lc_fmt (fun _ => some (.bl true)) (sqt hp1) (by omega) (fun x hx H2 Nx S hNx => ?_) (fun D H2 n2 S2 e2 => ?_)⟩
    · obtain ⟨i, hi, ei⟩ := List.getElem_of_mem hx
      obtain ⟨b, st, rfl, es, hb⟩ := (tv.same (S1.trans S)).got (i := i) (v := x) (by rw [List.getElem?_eq_getElem hi, ei])
      have hst := List.mem_of_getElem? es
      have hb : H2 b = some (.tup [.int st.1, .int st.2]) := hb
      walk_at "go"
      refine c_is_step ((w.same S1).same S) hn hb (O.ok.nd st hst) (O.tm st hst) ?_
      exact hNx _ (Same.refl _)
    rw [fm_true] at e2
    walk_at "go"
    refine rd_all (sql e2) ?_
    rw [all_true]
    walk_at "go"
    have S02 := S1.trans S2
    have w2 := w.same S02
    obtain ⟨b0, eb0, hb0⟩ := (tv.same S02).give (i := 0) (x := (n0, t0)) (by rw [e0]; rfl)
    have eb0' : atI vs 0 = some (.ref b0) := atI_nat (j := 0) eb0
    have hb0 : H2 b0 = some (.tup [.int (n0 : Nat), .int t0]) := hb0
    have hp2 := S02 _ _ hp
    have hdo0 := W.ok d0 (List.mem_of_getElem? hd0)
    walk_at "go"
    intro b1 hb1
    walk_at "go"
    intro H3 S3
    rw [hm0]
    walk_at "go"
    have S03 := S02.trans S3
    have hp3 := S03 _ _ hp
    refine ⟨_, rfl, by omega, by omega, ?_⟩
    rw [show ((vs.length : Int) - 1).toNat = rw.length - 1 by omega]
    refine lc_fmR (fun _ => some (.bl true)) (by omega) (fun i hi H4 Nx S hNx => ?_) (fun D2 H4 n4 S4 e4 => ?_)
    · obtain ⟨⟨na, ta⟩, ea⟩ := AgM.get_some (l := rw) (n := i) (by omega)
      obtain ⟨⟨nb, tb⟩, eb⟩ := AgM.get_some (l := rw) (n := i + 1) (by omega)
      obtain ⟨xa, exa, hxa⟩ := (tv.same (S03.trans S)).give ea
      obtain ⟨xb, exb, hxb⟩ := (tv.same (S03.trans S)).give eb
      have exa' := atI_of exa
      have exb' := atI_of exb
      have hxa : H4 xa = some (.tup [.int (na : Nat), .int ta]) := hxa
      have hxb : H4 xb = some (.tup [.int (nb : Nat), .int tb]) := hxb
      obtain ⟨r, f1, f2, f3, f4, f5, f6⟩ := arr_at W O.ok.ld ea eb
      have hp4 := S _ _ hp3
      rw [Int.zero_add]
      rw [show ((i + 1 : Nat) : Int) = (i : Int) + 1 by omega] at exb'
      walk_at "go"
      refine c_leads ((w.same S03).same S) hn hxa hxb (O.ok.nd _ (List.mem_of_getElem? ea)) (O.ok.nd _ (List.mem_of_getElem? eb)) f1 f5 f6 (fun H5 S5 => ?_)
      exact hNx _ S5
    have e5 : (List.range (rw.length - 1)).filterMap (fun _ => some (V.bl true)) = ((List.range (rw.length - 1)).map fun _ => true).map V.bl := by
      rw [List.map_map, ← List.filterMap_eq_map]
      rfl
    rw [e5] at e4
    walk_at "go"
    refine rd_all (sql e4) ?_
    rw [all_true]
    exact h H4 (S03.trans S4)
  exact ⟨_, T.glo 32, F.2, F.1⟩
theorem c_is_row {K : PySem.W.Frag} {H : Hp} {Q : VK} {E : XK} {a p : Addr} {N : List Deed} {R : List Arr} {rw : AgM.Row} (w : IsW K H a N R) (W : WOk N R) (hr : IsRow H p rw) (O : RwOk N R rw) (q : ∀ H', Same H H' → Q (.bl true) H') : sp_is_row K [.ref a, .ref p] H Q E := ⟨_, _, rfl, a, p, N, R, rw, rfl, rfl, w, W, hr, O, q⟩
open Classical in
noncomputable def fU (H : Hp) (t : Int) (v : V) : Option V := if ∃ b n u, v = .ref b ∧ H b = some (.tup [.int n, .int u]) ∧ u ≤ t then some v else none
theorem fU_len {H : Hp} {t : Int} : ∀ {rw : AgM.Row} {vs : List V}, Tups H vs (rw.map stv) → (vs.filterMap (fU H t)).length = AgM.upTo rw t
  | [], _, .nil => rfl
  | (n, u) :: r, (V.ref b :: vs), .cons h h2 => by
    have ih := fU_len (t := t) h2
    have h : H b = some (.tup [.int n, .int u]) := h
    unfold AgM.upTo at ih ⊢
    rw [List.filterMap_cons, List.filter_cons]
    by_cases c : u ≤ t
    · have e : fU H t (.ref b) = some (.ref b) := if_pos ⟨_, _, _, rfl, h, c⟩
      rw [e, if_pos (by simpa using c)]
      simpa using ih
    · have e : fU H t (.ref b) = none := if_neg fun ⟨b', n2, u2, e1, e2, e3⟩ => by
        cases e1
        rw [h] at e2
        cases e2
        exact c e3
      rw [e, if_neg (by simpa using c)]
      exact ih
def sp_place_of (K : PySem.W.Frag) : Sp := sp2 fun row at_ H Q => ∃ (p : Addr) (rw : AgM.Row) (t : Int), row = .ref p ∧ at_ = .int t ∧ IsRow H p rw ∧ rw.length ≤ 1000 ∧ ∀ H', Same H H' → Q (.int ((AgM.upTo rw t : Nat) - 1)) H'
theorem sc_place_of : FnScope n_place_of p_place_of d_place_of.scope := ⟨rfl, rfl, rfl, by decide +kernel, rfl, by decide +kernel, by decide +kernel⟩
theorem ok_place_of (T : Tx K mg) : GF P w K mg base "place_of" 1 (sp_place_of K) := by
  have F := mkR (P := P) (w := w) (base := base) T 74 (d := d_place_of) rfl rfl sc_place_of (fun _ _ _ _ _ _ us hl => match us, hl with | [_, _], _ => rfl) len2 (k := 0) (sp := (sp_place_of K)) fun cdv A outer s H vs Q E hr h => by
    obtain ⟨row, at_, rfl, h⟩ := h
    refine ⟨_, (pss_one (ps_ret (pe_op op_sub (pe_cb (jc_ln (K := K)) (T.free 69) (pa_cons (pe_lc (own := [("step", 2)]) (g := gName 2) rfl sc_place_of.nd (ji_tup (K := K) (pv 0)) (blkOk_by (own := [("step", 2)]) (N := n_place_of) (sc := d_place_of.scope) (by decide +kernel)) (fun _ _ _ _ _ => pg_name (i := 2) sc_place_of.nd rfl (Or.inl rfl)) (fun _ _ _ _ _ => (pts_one (pt_cmpR op_le (pe_ix (jx_tup (K := K)) (pv 2) pe_int (fun _ _ => rfl)) (pv 1) (nomark _)))) (fun _ _ _ _ _ => (pv 2))) pa_nil)) pe_int))), ?_⟩
    obtain ⟨p, rw, t, rfl, rfl, ⟨vs, hp, tv⟩, hl, h⟩ := h
    have hz : vs.length = rw.length := by rw [tv.len, List.length_map]
    walk_at "go"
    refine ⟨_, rfl, ⟨_, sqt hp⟩, lc_fmt (fU H t) (sqt hp) (by omega) (fun x hx H2 Nx S hNx => ?_) (fun D H2 n2 S2 e2 => ?_)⟩
    · obtain ⟨i, hi, ei⟩ := List.getElem_of_mem hx
      obtain ⟨b, st, rfl, es, hb⟩ := tv.got (i := i) (v := x) (by rw [List.getElem?_eq_getElem hi, ei])
      have hb : H b = some (.tup [.int st.1, .int st.2]) := hb
      have hb2 := S _ _ hb
      walk_at "go"
      refine ited (fun c => ?_) (fun c => ?_)
      · walk_at "go"
        have e : fU H t (.ref b) = some (.ref b) := if_pos ⟨_, _, _, rfl, hb, c⟩
        rw [e] at hNx
        exact hNx _ (Same.refl _)
      · walk_at "go"
        have e : fU H t (.ref b) = none := if_neg fun ⟨b', n2, u2, e1, e2, e3⟩ => by
          cases e1
          rw [hb] at e2
          cases e2
          exact c e3
        rw [e] at hNx
        exact hNx _ (Same.refl _)
    walk_at "go"
    rw [fU_len tv]
    exact h H2 S2
  exact ⟨_, T.glo 33, F.2, F.1⟩
theorem c_place_of {K : PySem.W.Frag} {H : Hp} {Q : VK} {E : XK} {p : Addr} {rw : AgM.Row} {t : Int} (hr : IsRow H p rw) (hl : rw.length ≤ 1000) (q : ∀ H', Same H H' → Q (.int ((AgM.upTo rw t : Nat) - 1)) H') : sp_place_of K [.ref p, .int t] H Q E := ⟨_, _, rfl, p, rw, t, rfl, rfl, hr, hl, q⟩
/-- the word of the arrow at a moment is one of some, between two steps -/
def within (R : List Arr) (rw : AgM.Row) (t : Int) (ws : List Word) : Bool := match rw[AgM.upTo rw t - 1]?, rw[AgM.upTo rw t]? with
  | some x, some y => decide (0 < AgM.upTo rw t) && (match R.find? (hit x.1 y.1) with
    | some r => decide (r.w ∈ ws)
    | none => false)
  | _, _ => false
theorem inV_wz (x : Word) (ws : List Word) : inV (.str (wz x)) (ws.map fun y => V.str (wz y)) = decide (x ∈ ws) := by
  unfold inV
  rw [List.any_map]
  induction ws with
  | nil => simp
  | cons k r ih =>
    rw [List.any_cons, ih]
    by_cases e : k = x
    · subst e
      simp [Function.comp, eqV]
    · have e2 : (wz k == wz x) = false := beq_eq_false_iff_ne.mpr fun z => e (wz_inj z)
      have e3 : ¬ x = k := fun z => e z.symm
      simp [Function.comp, eqV, e2, e3]
def sp_is_within (K : PySem.W.Frag) : Sp := sp4 fun way row at_ words H Q => ∃ (a p q : Addr) (N : List Deed) (R : List Arr) (rw : AgM.Row) (t : Int) (ws : List Word), way = .ref a ∧ row = .ref p ∧ at_ = .int t ∧ words = .ref q ∧ IsW K H a N R ∧ WOk N R ∧ IsRow H p rw ∧ RwOk N R rw ∧ H q = some (.tup (ws.map fun y => V.str (wz y))) ∧ ∀ H', Same H H' → Q (.bl (within R rw t ws)) H'
theorem sc_is_within : FnScope n_is_within p_is_within d_is_within.scope := ⟨rfl, rfl, rfl, by decide +kernel, rfl, by decide +kernel, by decide +kernel⟩
theorem ok_is_within (T : Tx K mg) : GF P w K mg base "is_within" 4 (sp_is_within K) := by
  have F := mkR (P := P) (w := w) (base := base) T 75 (d := d_is_within) rfl rfl sc_is_within (fun _ _ _ _ _ _ us hl => match us, hl with | [_, _, _, _], _ => rfl) len4 (k := 3) (sp := (sp_is_within K)) fun cdv A outer s H vs Q E hr h => by
    obtain ⟨way, row, at_, words, rfl, h⟩ := h
    refine ⟨_, (pss_cons (ps_set (i := 4) sc_is_within.nd rfl (Or.inl rfl) (pe_gf (ok_place_of (K := K) T) hr (pa_cons (pv 1) (pa_cons (pv 2) pa_nil))))
      (pss_cons (ps_if (PW.pt (pw_or (pt_cmpR op_lt (pv 4) pe_int (nomark _)) (pw_or1 (pt_cmpR op_eq (pv 4) (pe_op op_sub (pe_cb (jc_ln (K := K)) (T.free 69) (pa_cons (pv 1) pa_nil)) pe_int) (nomark _))))) (pss_one (ps_ret pe_bl)) pss_nil)
      (pss_one (ps_ret (pe_cmpR (jo_in (K := K)) (pe_ix (jx_tup (K := K)) (pe_gm (pv 0) (T.cls 117) (ok_Way_arrow (K := K) T) hr (pa_cons (pe_ix (jx_tup (K := K)) (pe_ix (jx_tup (K := K)) (pv 1) (pv 4) (fun _ _ => rfl)) pe_int (fun _ _ => rfl)) (pa_cons (pe_ix (jx_tup (K := K)) (pe_ix (jx_tup (K := K)) (pv 1) (pe_op op_add (pv 4) pe_int) (fun _ _ => rfl)) pe_int (fun _ _ => rfl)) pa_nil))) pe_int (fun _ _ => rfl)) (pv 3) (by with_unfolding_all rfl)))))), ?_⟩
    obtain ⟨a, p, q, N, R, rw, t, ws, rfl, rfl, rfl, rfl, w, W, hrow, O, hq, h⟩ := h
    obtain ⟨vs, hp, tv⟩ := id hrow
    have hn := W.n2
    have hl := O.ln
    have hz : vs.length = rw.length := by rw [tv.len, List.length_map]
    have hu := AgM.upTo_le rw t
    walk_at "go"
    refine c_place_of hrow hl (fun H1 S1 => ?_)
    have hp1 := S1 _ _ hp
    walk_at "go"
    by_cases c0 : AgM.upTo rw t = 0
    · have e : within R rw t ws = false := by
        unfold within
        split
        · rw [decide_eq_false (by omega), Bool.false_and]
        · rfl
      refine iteDT (by omega) ?_
      walk_at "go"
      rw [e] at h
      exact h H1 S1
    · refine iteDF (by omega) ?_
      walk_at "go"
      by_cases c1 : AgM.upTo rw t = rw.length
      · have e : within R rw t ws = false := by
          unfold within
          rw [c1, List.getElem?_eq_none (Nat.le_refl _)]
          split
          · rename_i z
            cases z
          · rfl
        refine iteDT (by omega) ?_
        walk_at "go"
        rw [e] at h
        exact h H1 S1
      · refine iteDF (by omega) ?_
        obtain ⟨⟨na, ta⟩, ea⟩ := AgM.get_some (l := rw) (n := AgM.upTo rw t - 1) (by omega)
        obtain ⟨⟨nb, tb⟩, eb⟩ := AgM.get_some (l := rw) (n := AgM.upTo rw t) (by omega)
        obtain ⟨r, f1, f2, f3, f4, f5, f6⟩ := arr_at W O.ok.ld (i := AgM.upTo rw t - 1) ea (by rw [show AgM.upTo rw t - 1 + 1 = AgM.upTo rw t by omega]; exact eb)
        have e : within R rw t ws = decide (r.w ∈ ws) := by
          unfold within
          rw [ea, eb]
          dsimp only
          rw [f1, decide_eq_true (by omega), Bool.true_and]
        obtain ⟨xa, exa, hxa⟩ := (tv.same S1).give ea
        obtain ⟨xb, exb, hxb⟩ := (tv.same S1).give eb
        have exa' := atI_of exa
        have exb' := atI_of exb
        rw [show ((AgM.upTo rw t - 1 : Nat) : Int) = (AgM.upTo rw t : Int) - 1 by omega] at exa'
        rw [show ((AgM.upTo rw t : Nat) : Int) = (AgM.upTo rw t : Int) - 1 + 1 by omega] at exb'
        have hxa : H1 xa = some (.tup [.int (na : Nat), .int ta]) := hxa
        have hxb : H1 xb = some (.tup [.int (nb : Nat), .int tb]) := hxb
        have lna := O.ok.nd _ (List.mem_of_getElem? ea)
        have lnb := O.ok.nd _ (List.mem_of_getElem? eb)
        have lna : na < N.length := lna
        have lnb : nb < N.length := lnb
        walk_at "go"
        intro v H2 S2 hv
        rw [f1] at hv
        obtain ⟨b, rfl, hb⟩ := hv
        have hq2 := S2 _ _ (S1 _ _ hq)
        walk_at "go"
        refine rd_in (.inr (sqt hq2)) rfl (by rw [List.all_map, List.all_eq_true]; exact fun _ _ => rfl) ?_
        rw [inV_wz]
        rw [e] at h
        exact h H2 (S1.trans S2)
  exact ⟨_, T.glo 34, F.2, F.1⟩
theorem c_within {K : PySem.W.Frag} {H : Hp} {Q : VK} {E : XK} {a p q : Addr} {N : List Deed} {R : List Arr} {rw : AgM.Row} {t : Int} (ws : List Word) (w : IsW K H a N R) (W : WOk N R) (hr : IsRow H p rw) (O : RwOk N R rw) (hq : H q = some (.tup (ws.map fun y => V.str (wz y)))) (k : ∀ H', Same H H' → Q (.bl (within R rw t ws)) H') : sp_is_within K [.ref a, .ref p, .int t, .ref q] H Q E :=
  ⟨_, _, _, _, rfl, a, p, q, N, R, rw, t, ws, rfl, rfl, rfl, rfl, w, W, hr, O, hq, k⟩
theorem c_File {K : PySem.W.Frag} {H : Hp} {Q : VK} {E : XK} {a dx ru dp : Addr} {rl : Rl} {d : Deed} {t : Int} (ha : H a = some (.ins (He.ga K "File") dx [])) (hr : IsRl K H ru rl) (hd : H dp = some (.tup (dv d))) (o : d.ok) (m : d.makes = true) (ht : TOk t)
    (q : ∀ tp tb H', Ex a H H' → H tp = none → IsF K H' a ru tp false t tb → (∀ rl tb0, AgM.doDeed rl d t tb0 = tb) → Q .non H') : sp_File_init K [.ref a, .ref ru, .ref dp, .int t] H Q E := by
  obtain ⟨dr, hr⟩ := hr
  exact ⟨_, _, _, _, rfl, a, dx, ru, dp, dr, _, d, t, rfl, rfl, rfl, rfl, ha, hr, hd, o, m, ht, q⟩
theorem c_do {K : PySem.W.Frag} {H : Hp} {Q : VK} {E : XK} {a ru tp dp : Addr} {held : Bool} {t0 : Int} {tb : Tb} {rl : Rl} {d : Deed} {t : Int} (wf : IsF K H a ru tp held t0 tb) (hr : IsRl K H ru rl) (hd : H dp = some (.tup (dv d))) (o : d.ok) (lt : t0 < t) (ht : TOk t)
    (q : ∀ v H', Ex2 a tp H H' → IsF K H' a ru tp (held && !d.makes) t (AgM.doDeed rl d t tb) → Q v H') : sp_File_do K [.ref a, .ref dp, .int t] H Q E :=
  ⟨_, _, _, rfl, a, ru, tp, dp, held, t0, tb, rl, d, t, rfl, rfl, rfl, wf, hr, hd, o, lt, ht, q⟩
theorem c_helds {K : PySem.W.Frag} {H : Hp} {Q : VK} {E : XK} {a ru tp : Addr} {held v : Bool} {t : Int} {tb : Tb} (wf : IsF K H a ru tp held t tb) (q : ∀ H', Ex a H H' → IsF K H' a ru tp v t tb → Q .non H') : sp_File_held_s K [.ref a, .bl v] H Q E :=
  ⟨_, _, rfl, a, ru, tp, held, t, tb, v, rfl, rfl, wf, q⟩
theorem c_fM {K : PySem.W.Frag} {H : Hp} {a ru tp : Addr} {held : Bool} {t : Int} {tb : Tb} {N : Prop} (w : IsF K H a ru tp held t tb) (q : N) : kM (He.ga K "File") "do" (.ref a) H N := by
  obtain ⟨dx, h1, _⟩ := w
  exact rd_kM h1 rfl q
theorem cut_up {vs : List V} {k : Nat} (h : k + 1 ≤ vs.length) : cutV vs (some 1) (some ((k : Int) + 1)) = (vs.take (k + 1)).drop 1 := by
  unfold cutV
  rw [show HT.sIx vs.length 0 (some 1) = min 1 vs.length from HT.sIx_nat vs.length 0 1, show (k : Int) + 1 = ((k + 1 : Nat) : Int) by omega, HT.sIx_nat, show min 1 vs.length = 1 by omega, show min (k + 1) vs.length = k + 1 by omega, List.drop_take]
theorem Tups.drop {H : Hp} {vs : List V} {l : List (List V)} (h : Tups H vs l) (i : Nat) : Tups H (vs.drop i) (l.drop i) := by
  induction h generalizing i with
  | nil => simpa using Tups.nil
  | cons h r ih =>
    cases i with
    | zero => exact .cons h r
    | succ i => exact ih i
theorem c_pw {K : PySem.W.Frag} {H : Hp} {N : Hp → Prop} {a ru tp : Addr} {held v : Bool} {t : Int} {tb : Tb} (wf : IsF K H a ru tp held t tb) (q : ∀ H', Ex a H H' → IsF K H' a ru tp v t tb → N H') : kPW (He.ga K "File") (sp_File_held_s K) (.bl v) (.ref a) H N := by
  obtain ⟨dx, h1, _⟩ := id wf
  exact rd_kPW h1 (c_helds wf q)
def sp_played (K : PySem.W.Frag) : Sp := sp4 fun way rule row at_ H Q => ∃ (a b p : Addr) (N : List Deed) (R : List Arr) (rl : Rl) (rw : AgM.Row) (t : Int), way = .ref a ∧ rule = .ref b ∧ row = .ref p ∧ at_ = .int t ∧ IsW K H a N R ∧ WOk N R ∧ IsRl K H b rl ∧ IsRow H p rw ∧ RwOk N R rw ∧ (∃ n0 t0 r0, rw = (n0, t0) :: r0 ∧ t0 ≤ t) ∧ ∀ f tp last H', Same H H' → IsF K H' f b tp (within R rw t [.held]) last (AgM.tbOf N rl (rw.take (AgM.upTo rw t))) → Q (.ref f) H'
theorem sc_played : FnScope n_played p_played d_played.scope := ⟨rfl, rfl, rfl, by decide +kernel, rfl, by decide +kernel, by decide +kernel⟩
theorem ok_played (T : Tx K mg) : GF P w K mg base "played" 8 (sp_played K) := by
  have F := mkR (P := P) (w := w) (base := base) T 76 (d := d_played) rfl rfl sc_played (fun _ _ _ _ _ _ us hl => match us, hl with | [_, _, _, _], _ => rfl) len4 (k := 7) (sp := (sp_played K)) fun cdv A outer s H vs Q E hr h => by
    obtain ⟨way, rule, row, at_, rfl, h⟩ := h
    refine ⟨_, (pss_cons (ps_set (i := 4) sc_played.nd rfl (Or.inl rfl) (pe_gf (ok_place_of (K := K) T) hr (pa_cons (pv 2) (pa_cons (pv 3) pa_nil))))
      (pss_cons (ps_set (i := 5) sc_played.nd rfl (Or.inl rfl) (pe_gc (ok_File_init (K := K) T) hr (pa_cons (pv 1) (pa_cons (pe_gi (pv 0) (pe_ix (jx_tup (K := K)) (pe_ix (jx_tup (K := K)) (pv 2) pe_int (fun _ _ => rfl)) pe_int (fun _ _ => rfl)) (ok_Way_getitem (K := K) T) hr) (pa_cons (pe_ix (jx_tup (K := K)) (pe_ix (jx_tup (K := K)) (pv 2) pe_int (fun _ _ => rfl)) pe_int (fun _ _ => rfl)) pa_nil)))))
      (pss_cons (ps_for PassesOwn.never rfl (ji_tup (K := K) (pe_slice (js_tup (K := K)) (pv 2) (po_some pe_int) (po_some (pe_op op_add (pv 4) pe_int)))) (jg_tup (K := K) (n := 2) rfl (pgs_cons (pg_name (i := 6) sc_played.nd rfl (Or.inl rfl)) (pgs_cons (pg_name (i := 7) sc_played.nd rfl (Or.inl rfl)) pgs_nil))) (pss_one (ps_expr (pe_gm (pv 5) (T.cls 143) (ok_File_do (K := K) T) hr (pa_cons (pe_gi (pv 0) (pv 6) (ok_Way_getitem (K := K) T) hr) (pa_cons (pv 7) pa_nil))))))
      (pss_cons (ps_gw (pv 5) (pe_gf (ok_is_within (K := K) T) hr (pa_cons (pv 0) (pa_cons (pv 2) (pa_cons (pv 3) (pa_cons (pe_tup (pa_cons pe_str pa_nil)) pa_nil))))) (T.cls 143) (ok_File_held_s (K := K) T) hr)
      (pss_one (ps_ret (pv 5))))))), ?_⟩
    obtain ⟨a, b, p, N, R, rl, rw, t, rfl, rfl, rfl, rfl, w, W, hb, hrow, O, ⟨n0, t0, r0, e0, ht0⟩, h⟩ := h
    obtain ⟨vs, hp, tv⟩ := id hrow
    have hn := W.n2
    have hl := O.ln
    have hz : vs.length = rw.length := by rw [tv.len, List.length_map]
    have hris := AgM.Leads.rising (ways_of W) O.ok.ld
    obtain ⟨pl, n1, t1, eU, ep, hp1, hp2⟩ := AgM.upTo_at (n := n0) (t := t0) (row := r0) (at_ := t) (by rw [← e0]; exact hris) ht0
    rw [← e0] at eU ep hp2
    have hpl : pl < rw.length := (List.getElem?_eq_some_iff.mp ep).1
    obtain ⟨n0', t0', r0', d0, e0', hd0, hm0⟩ := O.ok.ne
    have ee : n0' = n0 ∧ t0' = t0 := by
      rw [e0] at e0'
      have := (List.cons.inj e0').1
      exact ⟨(Prod.mk.inj this).1.symm, (Prod.mk.inj this).2.symm⟩
    obtain ⟨rfl, rfl⟩ := ee
    have hg0 : rw[0]? = some (n0', t0') := by rw [e0]; rfl
    have hmem0 := List.mem_of_getElem? hg0
    have tok0 : TOk t0' := O.tm _ hmem0
    have hdo0 := W.ok d0 (List.mem_of_getElem? hd0)
    walk_at "go"
    refine c_place_of hrow hl (fun H1 S1 => ?_)
    rw [eU]
    have hp1' := S1 _ _ hp
    have w1 := w.same S1
    obtain ⟨b0, eb0, hb0⟩ := (tv.same S1).give hg0
    have eb0' : atI vs 0 = some (.ref b0) := atI_nat (j := 0) eb0
    have hb0 : H1 b0 = some (.tup [.int (n0' : Nat), .int t0']) := hb0
    walk_at "go"
    intro b1 hb1
    walk_at "go"
    intro f dx H2 n2 S2 h2
    refine c_File h2 ((hb.same S1).same S2) (S2 _ _ hb1) hdo0 hm0 tok0 (fun tp tb H3 X3 n3 wf hdo => ⟨rfl, ?_⟩)
    have S12 := S1.trans S2
    have nf : H f = none := S1.free n2
    have S3 : Same H H3 := Ex.same nf S12 X3
    have hp3 := S3 _ _ hp
    walk_at "go"
    have e9 : ((pl + 1 : Nat) : Int) - 1 + 1 = (pl : Int) + 1 := by omega
    rw [e9]
    refine rd_slT (sqt hp3) (by
      rw [show HT.sIx vs.length 0 (some 1) = min 1 vs.length from HT.sIx_nat vs.length 0 1]
      omega) (fun sq H4 n4 S4 h4 => ?_)
    rw [cut_up (by omega)] at h4
    have S04 := S3.trans S4
    have ntp : H tp = none := S12.free n3
    have tvs : ∀ H', Same H H' → Tups H' ((vs.take (pl + 1)).drop 1) ((((rw.take (pl + 1)).drop 1)).map stv) := fun H' S => by
      have := ((tv.same S).take (pl + 1))
      rw [List.map_drop, List.map_take]
      exact Tups.drop this 1
    have hxl : ((vs.take (pl + 1)).drop 1).length = pl := by
      rw [List.length_drop, List.length_take]
      omega
    have tb1 : AgM.tbOf N rl (rw.take 1) = tb := by
      rw [e0]
      show AgM.doDeed rl (N.getD n0' .read) t0' ⟨0, 0, 0⟩ = tb
      rw [getDr hd0]
      exact hdo _ _
    walk_at "go"
    refine fo_tup (xs := (vs.take (pl + 1)).drop 1) (fun i σ H5 => ∃ (y z : Option V) (last : Int) (n : Nat), σ = [some (.ref a), some (.ref b), some (.ref p), some (.int t), some (.int (((pl + 1 : Nat) : Int) - 1)), some (.ref f), y, z] ∧ Same H H5 ∧ H5 sq = some (.tup ((vs.take (pl + 1)).drop 1)) ∧ IsF K H5 f b tp false last (AgM.tbOf N rl (rw.take (i + 1))) ∧ rw[i]? = some (n, last))
      (sqt h4) ⟨_, _, t0', n0', rfl, S04, h4, by rw [tb1]; exact wf.same S4, hg0⟩ (fun i σ H5 _ hP => ?_) (fun i x σ H5 hi hP => ?_) (fun σ H5 hP => ?_)
    · obtain ⟨_, _, _, _, _, _, z, _⟩ := hP
      exact sqt z
    · obtain ⟨y, z, last, nl, rfl, S5, h5, wf5, el⟩ := hP
      obtain ⟨b2, st, rfl, es, hb2⟩ := (tvs H5 S5).got hi
      have hi2 : i < pl := by
        have := (List.getElem?_eq_some_iff.mp hi).1
        omega
      rw [List.getElem?_drop, List.getElem?_take, if_pos (by omega), Nat.add_comm] at es
      obtain ⟨n, u⟩ := st
      have hb2 : H5 b2 = some (.tup [.int (n : Nat), .int u]) := hb2
      have hmem := List.mem_of_getElem? es
      have hnl : n < N.length := O.ok.nd _ hmem
      have tok : TOk u := O.tm _ hmem
      obtain ⟨d, ed⟩ := AgM.get_some hnl
      have hdo' := W.ok d (List.mem_of_getElem? ed)
      have hlt : last < u := AgM.rise (ways_of W) O.ok.ld el es
      have w5 := w.same S5
      walk_at "go"
      refine c_fM wf5 ?_
      walk_at "go"
      intro b3 hb3
      walk_at "go"
      refine c_do wf5 (hb.same S5) hb3 hdo' hlt tok (fun v H6 X6 wf6 => ?_)
      rw [Bool.false_and] at wf6
      obtain ⟨dx5, g1, g2⟩ := id wf5
      refine ⟨_, _, u, n, rfl, Ex2.same nf ntp S5 X6, X6 _ _ (ne_of h5 g1 (by intro z; cases z)) (ne_of h5 g2 (by intro z; cases z)) h5, ?_, es⟩
      rw [List.take_add_one, es]
      show IsF K H6 f b tp false u (AgM.tbOf N rl (rw.take (i + 1) ++ [(n, u)]))
      rw [AgM.tbOf_snoc, getDr ed]
      exact wf6
    · obtain ⟨y, z, last, nl, rfl, S5, h5, wf5, el⟩ := hP
      rw [hxl] at wf5
      walk_at "go"
      intro q H6 n6 S6 h6
      have S06 := S5.trans S6
      walk_at "go"
      refine c_within [.held] (w.same S06) W (hrow.same S06) O h6 (fun H7 S7 => ?_)
      walk_at "go"
      refine c_pw ((wf5.same S6).same S7) (fun H8 X8 wf8 => ?_)
      walk_at "go"
      rw [eU] at h
      exact h f tp last H8 (Ex.same nf (S06.trans S7) X8) wf8
  exact ⟨_, T.glo 35, F.2, F.1⟩
theorem c_played {K : PySem.W.Frag} {H : Hp} {Q : VK} {E : XK} {a b p : Addr} {N : List Deed} {R : List Arr} {rl : Rl} {rw : AgM.Row} {t : Int} (w : IsW K H a N R) (W : WOk N R) (hb : IsRl K H b rl) (hr : IsRow H p rw) (O : RwOk N R rw) (h0 : ∃ n0 t0 r0, rw = (n0, t0) :: r0 ∧ t0 ≤ t)
    (q : ∀ f tp last H', Same H H' → IsF K H' f b tp (within R rw t [.held]) last (AgM.tbOf N rl (rw.take (AgM.upTo rw t))) → Q (.ref f) H') : sp_played K [.ref a, .ref b, .ref p, .int t] H Q E := ⟨_, _, _, _, rfl, a, b, p, N, R, rl, rw, t, rfl, rfl, rfl, rfl, w, W, hb, hr, O, h0, q⟩
theorem c_chk_rl {K : PySem.W.Frag} {H : Hp} {Q : VK} {E : XK} {a : Addr} {rl : Rl} (h : IsRl K H a rl) (q : Q .non H) : sp_check_rule K [.ref a] H Q E := by
  obtain ⟨dx, h⟩ := h
  exact c_check_rule h q
def sp_file_at (K : PySem.W.Frag) : Sp := sp4 fun way rule row at_ H Q => ∃ (a b p : Addr) (N : List Deed) (R : List Arr) (rl : Rl) (rw : AgM.Row) (t : Int), way = .ref a ∧ rule = .ref b ∧ row = .ref p ∧ at_ = .int t ∧ IsW K H a N R ∧ WOk N R ∧ IsRl K H b rl ∧ IsRow H p rw ∧ RwOk N R rw ∧ TOk t ∧ (∃ n0 t0 r0, rw = (n0, t0) :: r0 ∧ t0 ≤ t) ∧ ∀ f tp last H', Same H H' → IsF K H' f b tp (within R rw t [.held]) last (AgM.tbOf N rl (rw.take (AgM.upTo rw t))) → Q (.ref f) H'
theorem sc_file_at : FnScope n_file_at p_file_at d_file_at.scope := ⟨rfl, rfl, rfl, by decide +kernel, rfl, by decide +kernel, by decide +kernel⟩
theorem ok_file_at (T : Tx K mg) : GF P w K mg base "file_at" 9 (sp_file_at K) := by
  have F := mkR (P := P) (w := w) (base := base) T 77 (d := d_file_at) rfl rfl sc_file_at (fun _ _ _ _ _ _ us hl => match us, hl with | [_, _, _, _], _ => rfl) len4 (k := 8) (sp := (sp_file_at K)) fun cdv A outer s H vs Q E hr h => by
    obtain ⟨way, rule, row, at_, rfl, h⟩ := h
    refine ⟨_, (pss_cons (ps_expr (pe_gf (ok_check_way (K := K) T) hr (pa_cons (pv 0) pa_nil)))
      (pss_cons (ps_expr (pe_gf (ok_check_rule (K := K) T) hr (pa_cons (pv 1) pa_nil)))
      (pss_cons (ps_if (pt_not (pt_val (pe_gf (ok_is_row (K := K) T) hr (pa_cons (pv 0) (pa_cons (pv 2) pa_nil))))) (pss_one ps_never) pss_nil)
      (pss_cons (ps_set (i := 4) sc_file_at.nd rfl (Or.inl rfl) (pe_gf (ok_seconds_of (K := K) T) hr (pa_cons (pv 3) pa_nil)))
      (pss_cons (ps_if (PW.pt (pw_or (pt_cmpR op_isN' (pv 4) pe_non (nomark _)) (pw_or1 (pt_cmpR op_lt (pv 4) (pe_ix (jx_tup (K := K)) (pe_ix (jx_tup (K := K)) (pv 2) pe_int (fun _ _ => rfl)) pe_int (fun _ _ => rfl)) (nomark _))))) (pss_one ps_never) pss_nil)
      (pss_one (ps_ret (pe_gf (ok_played (K := K) T) hr (pa_cons (pv 0) (pa_cons (pv 1) (pa_cons (pv 2) (pa_cons (pv 4) pa_nil)))))))))))), ?_⟩
    obtain ⟨a, b, p, N, R, rl, rw, t, rfl, rfl, rfl, rfl, w, W, hb, hrow, O, tok, h0, h⟩ := h
    obtain ⟨n0, t0, r0, e0, ht0⟩ := id h0
    have ht : -1000000000000000000000000000000 ≤ t ∧ t ≤ 1000000000000000000000000000000 := tok
    walk_at "go"
    refine c_chk_rl hb ?_
    walk_at "go"
    refine c_is_row w W hrow O (fun H1 S1 => ?_)
    obtain ⟨vs, hp, tv⟩ := hrow.same S1
    obtain ⟨b0, eb0, hb0⟩ := tv.give (i := 0) (x := (n0, t0)) (by rw [e0]; rfl)
    have eb0' : atI vs 0 = some (.ref b0) := atI_nat (j := 0) eb0
    have hb0 : H1 b0 = some (.tup [.int (n0 : Nat), .int t0]) := hb0
    walk_at "go"
    refine iteDF (by omega) ?_
    walk_at "go"
    exact c_played (w.same S1) W (hb.same S1) ⟨vs, hp, tv⟩ O h0 (fun f tp last H' S' wf => h f tp last H' (S1.trans S') wf)
  exact ⟨_, T.glo 36, F.2, F.1⟩
theorem c_file_at {K : PySem.W.Frag} {H : Hp} {Q : VK} {E : XK} {a b p : Addr} {N : List Deed} {R : List Arr} {rl : Rl} {rw : AgM.Row} {t : Int} (w : IsW K H a N R) (W : WOk N R) (hb : IsRl K H b rl) (hr : IsRow H p rw) (O : RwOk N R rw) (ht : TOk t) (h0 : ∃ n0 t0 r0, rw = (n0, t0) :: r0 ∧ t0 ≤ t)
    (q : ∀ f tp last H', Same H H' → IsF K H' f b tp (within R rw t [.held]) last (AgM.tbOf N rl (rw.take (AgM.upTo rw t))) → Q (.ref f) H') : sp_file_at K [.ref a, .ref b, .ref p, .int t] H Q E := ⟨_, _, _, _, rfl, a, b, p, N, R, rl, rw, t, rfl, rfl, rfl, rfl, w, W, hb, hr, O, ht, h0, q⟩
theorem itedn_ {b : Bool} {A B : Prop} (h1 : b = false → A) (h2 : b = true → B) : if (!b) = true then A else B := by
  cases b with
  | true => exact iteNT (h2 rfl)
  | false => exact iteNF (h1 rfl)
def sp_check_all (K : PySem.W.Frag) : Sp := sp3 fun way rule book H Q => ∃ (a b c lo pp : Addr) (N : List Deed) (R : List Arr) (rl : Rl) (bk : Bk) (per : Int), way = .ref a ∧ rule = .ref b ∧ book = .ref c ∧ IsW K H a N R ∧ IsRl K H b rl ∧ IsB K H c bk lo pp per ∧ Q .non H
theorem sc_check_all : FnScope n_check_all p_check_all d_check_all.scope := ⟨rfl, rfl, rfl, by decide +kernel, rfl, by decide +kernel, by decide +kernel⟩
theorem ok_check_all (T : Tx K mg) : GF P w K mg base "check_all" 2 (sp_check_all K) := by
  have F := mkR (P := P) (w := w) (base := base) T 78 (d := d_check_all) rfl rfl sc_check_all (fun _ _ _ _ _ _ us hl => match us, hl with | [_, _, _], _ => rfl) len3 (k := 1) (sp := (sp_check_all K)) fun cdv A outer s H vs Q E hr h => by
    obtain ⟨way, rule, book, rfl, h⟩ := h
    refine ⟨_, (pss_cons (ps_expr (pe_gf (ok_check_way (K := K) T) hr (pa_cons (pv 0) pa_nil)))
      (pss_cons (ps_expr (pe_gf (ok_check_rule (K := K) T) hr (pa_cons (pv 1) pa_nil)))
      (pss_one (ps_expr (pe_gf (ok_check_book (K := K) T) hr (pa_cons (pv 2) pa_nil)))))), ?_⟩
    obtain ⟨a, b, c, lo, pp, N, R, rl, bk, per, rfl, rfl, rfl, w, hb, hc, h⟩ := h
    walk_at "go"
    refine c_chk_rl hb ?_
    walk_at "go"
    exact h
  exact ⟨_, T.glo 37, F.2, F.1⟩
theorem c_check_all {K : PySem.W.Frag} {H : Hp} {Q : VK} {E : XK} {a b c lo pp : Addr} {N : List Deed} {R : List Arr} {rl : Rl} {bk : Bk} {per : Int} (w : IsW K H a N R) (hb : IsRl K H b rl) (hc : IsB K H c bk lo pp per) (q : Q .non H) : sp_check_all K [.ref a, .ref b, .ref c] H Q E := ⟨_, _, _, rfl, a, b, c, lo, pp, N, R, rl, bk, per, rfl, rfl, rfl, w, hb, hc, q⟩
/-- what a look at a row's file answers -/
def LookOk (N : List Deed) (R : List Arr) (rl : Rl) (bk : Bk) (rw : AgM.Row) (t : Int) (r : Bool) : Prop := DelOk bk (AgM.tbOf N rl (rw.take (AgM.upTo rw t))) (within R rw t [.held]) t r
def sp_deletes_at (K : PySem.W.Frag) : Sp := sp5 fun way rule book row at_ H Q => ∃ (a b c lo pp p : Addr) (N : List Deed) (R : List Arr) (rl : Rl) (bk : Bk) (per : Int) (rw : AgM.Row) (t : Int), way = .ref a ∧ rule = .ref b ∧ book = .ref c ∧ row = .ref p ∧ at_ = .int t ∧ IsW K H a N R ∧ WOk N R ∧ IsRl K H b rl ∧ IsB K H c bk lo pp per ∧ BOk bk per ∧ IsRow H p rw ∧ RwOk N R rw ∧ (∃ n0 t0 r0, rw = (n0, t0) :: r0 ∧ t0 ≤ t) ∧ ∀ r H', Same H H' → LookOk N R rl bk rw t r → Q (.bl r) H'
theorem sc_deletes_at : FnScope n_deletes_at p_deletes_at d_deletes_at.scope := ⟨rfl, rfl, rfl, by decide +kernel, rfl, by decide +kernel, by decide +kernel⟩
theorem ok_deletes_at (T : Tx K mg) : GF P w K mg base "deletes_at" 9 (sp_deletes_at K) := by
  have F := mkR (P := P) (w := w) (base := base) T 79 (d := d_deletes_at) rfl rfl sc_deletes_at (fun _ _ _ _ _ _ us hl => match us, hl with | [_, _, _, _, _], _ => rfl) len5 (k := 8) (sp := (sp_deletes_at K)) fun cdv A outer s H vs Q E hr h => by
    obtain ⟨way, rule, book, row, at_, rfl, h⟩ := h
    refine ⟨_, (pss_cons (ps_set (i := 5) sc_deletes_at.nd rfl (Or.inl rfl) (pe_gf (ok_played (K := K) T) hr (pa_cons (pv 0) (pa_cons (pv 1) (pa_cons (pv 3) (pa_cons (pv 4) pa_nil))))))
      (pss_one (ps_ret (pe_gm (pv 2) (T.cls 153) (ok_Book_deletes (K := K) T) hr (pa_cons (pe_f (pv 5) (T.cls 143) (T.noat 149)) (pa_cons (pe_gp (pv 5) (T.cls 143) (ok_File_held_g (K := K) T) hr) (pa_cons (pv 4) pa_nil))))))), ?_⟩
    obtain ⟨a, b, c, lo, pp, p, N, R, rl, bk, per, rw, t, rfl, rfl, rfl, rfl, rfl, w, W, hb, hc, o, hrow, O, h0, h⟩ := h
    walk_at "go"
    refine c_played w W hb hrow O h0 (fun f tp last H1 S1 wf => ?_)
    have hc1 := hc.same S1
    obtain ⟨dx, g1, g2⟩ := id wf
    unfold fv at g1
    walk_at "go"
    intro r H2 S2 d
    exact h r H2 (S1.trans S2) d
  exact ⟨_, T.glo 38, F.2, F.1⟩
theorem c_del_at {K : PySem.W.Frag} {H : Hp} {Q : VK} {E : XK} {a b c lo pp p : Addr} {N : List Deed} {R : List Arr} {rl : Rl} {bk : Bk} {per : Int} {rw : AgM.Row} {t : Int} (w : IsW K H a N R) (W : WOk N R) (hb : IsRl K H b rl) (hc : IsB K H c bk lo pp per) (o : BOk bk per) (hr : IsRow H p rw) (O : RwOk N R rw) (h0 : ∃ n0 t0 r0, rw = (n0, t0) :: r0 ∧ t0 ≤ t)
    (q : ∀ r H', Same H H' → LookOk N R rl bk rw t r → Q (.bl r) H') : sp_deletes_at K [.ref a, .ref b, .ref c, .ref p, .int t] H Q E := ⟨_, _, _, _, _, rfl, a, b, c, lo, pp, p, N, R, rl, bk, per, rw, t, rfl, rfl, rfl, rfl, rfl, w, W, hb, hc, o, hr, O, h0, q⟩
def sp_shows_fault (K : PySem.W.Frag) : Sp := sp6 fun way rule book row at_ then_ H Q => ∃ (a b c lo pp p : Addr) (N : List Deed) (R : List Arr) (rl : Rl) (bk : Bk) (per : Int) (rw : AgM.Row) (t u : Int), way = .ref a ∧ rule = .ref b ∧ book = .ref c ∧ row = .ref p ∧ at_ = .int t ∧ then_ = .int u ∧ IsW K H a N R ∧ WOk N R ∧ IsRl K H b rl ∧ IsB K H c bk lo pp per ∧ BOk bk per ∧ IsRow H p rw ∧ RwOk N R rw ∧ (∃ n0 t0 r0, rw = (n0, t0) :: r0 ∧ t0 ≤ t ∧ t0 ≤ u) ∧ (bk.again = false → ∀ r, LookOk N R rl bk rw t r → r = false) ∧ (∀ r, LookOk N R rl bk rw u r → r = false) ∧ ∀ H', Same H H' → Q (.bl false) H'
theorem sc_shows_fault : FnScope n_shows_fault p_shows_fault d_shows_fault.scope := ⟨rfl, rfl, rfl, by decide +kernel, rfl, by decide +kernel, by decide +kernel⟩
theorem ok_shows_fault (T : Tx K mg) : GF P w K mg base "shows_fault" 10 (sp_shows_fault K) := by
  have F := mkR (P := P) (w := w) (base := base) T 80 (d := d_shows_fault) rfl rfl sc_shows_fault (fun _ _ _ _ _ _ us hl => match us, hl with | [_, _, _, _, _, _], _ => rfl) len6 (k := 9) (sp := (sp_shows_fault K)) fun cdv A outer s H vs Q E hr h => by
    obtain ⟨way, rule, book, row, at_, then_, rfl, h⟩ := h
    refine ⟨_, (pss_cons (ps_if (PW.pt (pw_or (pt_not (pt_val (pe_gf (ok_is_within (K := K) T) hr (pa_cons (pv 0) (pa_cons (pv 3) (pa_cons (pv 5) (pa_cons (pe_tup (pa_cons pe_str (pa_cons pe_str pa_nil))) pa_nil))))))) (pw_or1 (pt_not (pt_val (pe_gf (ok_deletes_at (K := K) T) hr (pa_cons (pv 0) (pa_cons (pv 1) (pa_cons (pv 2) (pa_cons (pv 3) (pa_cons (pv 4) pa_nil))))))))))) (pss_one (ps_ret pe_bl)) pss_nil)
      (pss_one (ps_ret (pe_or (pe_not (pe_gp (pv 2) (T.cls 153) (ok_Book_again_g (K := K) T) hr)) (pe_one (pe_gf (ok_deletes_at (K := K) T) hr (pa_cons (pv 0) (pa_cons (pv 1) (pa_cons (pv 2) (pa_cons (pv 3) (pa_cons (pv 5) pa_nil))))))))))), ?_⟩
    obtain ⟨a, b, c, lo, pp, p, N, R, rl, bk, per, rw, t, u, rfl, rfl, rfl, rfl, rfl, rfl, w, W, hb, hc, o, hrow, O, ⟨n0, t0, r0, e0, h1, h2⟩, f1, f2, h⟩ := h
    walk_at "go"
    intro q H1 n1 S1 hq
    walk_at "go"
    refine c_within [.plain, .held] (w.same S1) W (hrow.same S1) O hq (fun H2 S2 => ?_)
    have S02 := S1.trans S2
    walk_at "go"
    refine itedn_ (fun c1 => ?_) (fun c1 => ?_)
    · walk_at "go"
      exact h H2 S02
    · walk_at "go"
      refine c_del_at (w.same S02) W (hb.same S02) (hc.same S02) o (hrow.same S02) O ⟨n0, t0, r0, e0, h1⟩ (fun r H3 S3 d => ?_)
      have S03 := S02.trans S3
      walk_at "go"
      refine itedn_ (fun c2 => ?_) (fun c2 => ?_)
      · walk_at "go"
        exact h H3 S03
      · have hc3 := hc.same S03
        have eag : bk.again = true := by
          cases e : bk.again with
          | true => rfl
          | false =>
            have := f1 e r d
            rw [c2] at this
            cases this
        walk_at "go"
        rw [eag]
        walk_at "go"
        refine c_del_at (w.same S03) W (hb.same S03) (hc.same S03) o (hrow.same S03) O ⟨n0, t0, r0, e0, h2⟩ (fun r2 H4 S4 d2 => ?_)
        rw [f2 r2 d2]
        exact h H4 (S03.trans S4)
  exact ⟨_, T.glo 39, F.2, F.1⟩
theorem c_shows {K : PySem.W.Frag} {H : Hp} {Q : VK} {E : XK} {a b c lo pp p : Addr} {N : List Deed} {R : List Arr} {rl : Rl} {bk : Bk} {per : Int} {rw : AgM.Row} {t u : Int} (w : IsW K H a N R) (W : WOk N R) (hb : IsRl K H b rl) (hc : IsB K H c bk lo pp per) (o : BOk bk per) (hr : IsRow H p rw) (O : RwOk N R rw) (h0 : ∃ n0 t0 r0, rw = (n0, t0) :: r0 ∧ t0 ≤ t ∧ t0 ≤ u)
    (f1 : bk.again = false → ∀ r, LookOk N R rl bk rw t r → r = false) (f2 : ∀ r, LookOk N R rl bk rw u r → r = false) (q : ∀ H', Same H H' → Q (.bl false) H') : sp_shows_fault K [.ref a, .ref b, .ref c, .ref p, .int t, .int u] H Q E := ⟨_, _, _, _, _, _, rfl, a, b, c, lo, pp, p, N, R, rl, bk, per, rw, t, u, rfl, rfl, rfl, rfl, rfl, rfl, w, W, hb, hc, o, hr, O, h0, f1, f2, q⟩
def sp_is_fault (K : PySem.W.Frag) : Sp := sp4 fun way rule book value H Q => ∃ (a b c lo pp p v : Addr) (N : List Deed) (R : List Arr) (rl : Rl) (bk : Bk) (per : Int) (rw : AgM.Row) (t u : Int), way = .ref a ∧ rule = .ref b ∧ book = .ref c ∧ value = .ref v ∧ H v = some (.tup [.ref p, .int t, .int u]) ∧ IsW K H a N R ∧ WOk N R ∧ IsRl K H b rl ∧ IsB K H c bk lo pp per ∧ BOk bk per ∧ IsRow H p rw ∧ RwOk N R rw ∧ (∃ n0 t0 r0, rw = (n0, t0) :: r0 ∧ t0 ≤ t) ∧ TOk t ∧ TOk u ∧ t ≤ u ∧ u - t ≤ bk.late ∧ (bk.again = false → ∀ r, LookOk N R rl bk rw t r → r = false) ∧ (∀ r, LookOk N R rl bk rw u r → r = false) ∧ ∀ H', Same H H' → Q (.bl false) H'
theorem sc_is_fault : FnScope n_is_fault p_is_fault d_is_fault.scope := ⟨rfl, rfl, rfl, by decide +kernel, rfl, by decide +kernel, by decide +kernel⟩
theorem ok_is_fault (T : Tx K mg) : GF P w K mg base "is_fault" 11 (sp_is_fault K) := by
  have F := mkR (P := P) (w := w) (base := base) T 81 (d := d_is_fault) rfl rfl sc_is_fault (fun _ _ _ _ _ _ us hl => match us, hl with | [_, _, _, _], _ => rfl) len4 (k := 10) (sp := (sp_is_fault K)) fun cdv A outer s H vs Q E hr h => by
    obtain ⟨way, rule, book, value, rfl, h⟩ := h
    refine ⟨_, (pss_cons (ps_expr (pe_gf (ok_check_all (K := K) T) hr (pa_cons (pv 0) (pa_cons (pv 1) (pa_cons (pv 2) pa_nil)))))
      (pss_cons (ps_if (PW.pt (pw_or (pt_not (pt_val (pe_cb (jc_isi (K := K)) (T.free 70) (pa_cons (pv 3) (pa_cons (pe_gty (T := "tuple") (T.free 78)) pa_nil))))) (pw_or (pt_cmpR op_ne (pe_cb (jc_ln (K := K)) (T.free 69) (pa_cons (pv 3) pa_nil)) pe_int (nomark _)) (pw_or1 (pt_not (pt_val (pe_gf (ok_is_row (K := K) T) hr (pa_cons (pv 0) (pa_cons (pe_ix (jx_tup (K := K)) (pv 3) pe_int (fun _ _ => rfl)) pa_nil))))))))) (pss_one (ps_ret pe_bl)) pss_nil)
      (pss_cons (ps_asg (pv 3) (jg_tup (K := K) (n := 3) rfl (pgs_cons (pg_name (i := 4) sc_is_fault.nd rfl (Or.inl rfl)) (pgs_cons (pg_name (i := 5) sc_is_fault.nd rfl (Or.inl rfl)) (pgs_cons (pg_name (i := 6) sc_is_fault.nd rfl (Or.inl rfl)) pgs_nil)))))
      (pss_cons (ps_if (PW.pt (pw_or (pt_not (pt_val (pe_gf (ok_is_between (K := K) T) hr (pa_cons (pv 5) (pa_cons (pe_ix (jx_tup (K := K)) (pe_ix (jx_tup (K := K)) (pv 4) pe_int (fun _ _ => rfl)) pe_int (fun _ _ => rfl)) (pa_cons (pe_gint (T.int 85)) pa_nil)))))) (pw_or1 (pt_not (pt_val (pe_gf (ok_is_between (K := K) T) hr (pa_cons (pv 6) (pa_cons (pv 5) (pa_cons (pe_gint (T.int 85)) pa_nil))))))))) (pss_one (ps_ret pe_bl)) pss_nil)
      (pss_one (ps_ret (pe_and (pe_cmpR op_le (pe_op op_sub (pv 6) (pv 5)) (pe_gp (pv 2) (T.cls 153) (ok_Book_late_g (K := K) T) hr) (nomark _)) (pe_one (pe_gf (ok_shows_fault (K := K) T) hr (pa_cons (pv 0) (pa_cons (pv 1) (pa_cons (pv 2) (pa_cons (pv 4) (pa_cons (pv 5) (pa_cons (pv 6) pa_nil))))))))))))))), ?_⟩
    obtain ⟨a, b, c, lo, pp, p, v, N, R, rl, bk, per, rw, t, u, rfl, rfl, rfl, rfl, hv, w, W, hb, hc, o, hrow, O, ⟨n0, t0, r0, e0, h1⟩, ⟨t1, t2⟩, ⟨u1, u2⟩, h3, h4, f1, f2, h⟩ := h
    walk_at "go"
    refine c_check_all w hb hc ?_
    walk_at "go"
    refine c_is_row w W hrow O (fun H1 S1 => ?_)
    have hv1 := S1 _ _ hv
    have hc1 := hc.same S1
    obtain ⟨vs, hp, tv⟩ := hrow.same S1
    obtain ⟨b0, eb0, hb0⟩ := tv.give (i := 0) (x := (n0, t0)) (by rw [e0]; rfl)
    have eb0' : atI vs 0 = some (.ref b0) := atI_nat (j := 0) eb0
    have hb0 : H1 b0 = some (.tup [.int (n0 : Nat), .int t0]) := hb0
    walk_at "go"
    refine iteBF (by rw [decide_eq_true h1, decide_eq_true t2]; rfl) ?_
    walk_at "go"
    refine iteBF (by rw [decide_eq_true h3, decide_eq_true u2]; rfl) ?_
    walk_at "go"
    refine iteDT h4 ?_
    walk_at "go"
    exact c_shows (w.same S1) W (hb.same S1) hc1 o ⟨vs, hp, tv⟩ O ⟨n0, t0, r0, e0, h1, by omega⟩ f1 f2 (fun H2 S2 => h H2 (S1.trans S2))
  exact ⟨_, T.glo 40, F.2, F.1⟩
theorem c_is_fault {K : PySem.W.Frag} {H : Hp} {Q : VK} {E : XK} {a b c lo pp p v : Addr} {N : List Deed} {R : List Arr} {rl : Rl} {bk : Bk} {per : Int} {rw : AgM.Row} {t u : Int} (hv : H v = some (.tup [.ref p, .int t, .int u])) (w : IsW K H a N R) (W : WOk N R) (hb : IsRl K H b rl) (hc : IsB K H c bk lo pp per) (o : BOk bk per) (hr : IsRow H p rw) (O : RwOk N R rw) (h0 : ∃ n0 t0 r0, rw = (n0, t0) :: r0 ∧ t0 ≤ t) (tt : TOk t) (tu : TOk u) (h3 : t ≤ u) (h4 : u - t ≤ bk.late)
    (f1 : bk.again = false → ∀ r, LookOk N R rl bk rw t r → r = false) (f2 : ∀ r, LookOk N R rl bk rw u r → r = false) (q : ∀ H', Same H H' → Q (.bl false) H') : sp_is_fault K [.ref a, .ref b, .ref c, .ref v] H Q E := ⟨_, _, _, _, rfl, a, b, c, lo, pp, p, v, N, R, rl, bk, per, rw, t, u, rfl, rfl, rfl, rfl, hv, w, W, hb, hc, o, hr, O, h0, tt, tu, h3, h4, f1, f2, q⟩
def sp_counts (K : PySem.W.Frag) : Sp := sp2 fun book arrow H Q => ∃ (c lo pp p : Addr) (bk : Bk) (per : Int) (r : Arr), book = .ref c ∧ arrow = .ref p ∧ IsB K H c bk lo pp per ∧ H p = some (.tup (av r)) ∧ Q (.bl (AgM.countsB bk r)) H
theorem sc_counts : FnScope n_counts p_counts d_counts.scope := ⟨rfl, rfl, rfl, by decide +kernel, rfl, by decide +kernel, by decide +kernel⟩
theorem ok_counts (T : Tx K mg) : GF P w K mg base "counts" 3 (sp_counts K) := by
  have F := mkR (P := P) (w := w) (base := base) T 82 (d := d_counts) rfl rfl sc_counts (fun _ _ _ _ _ _ us hl => match us, hl with | [_, _], _ => rfl) len2 (k := 2) (sp := (sp_counts K)) fun cdv A outer s H vs Q E hr h => by
    obtain ⟨book, arrow, rfl, h⟩ := h
    refine ⟨_, (pss_cons (ps_set (i := 2) sc_counts.nd rfl (Or.inl rfl) (pe_ix (jx_tup (K := K)) (pv 1) pe_int (fun _ _ => rfl)))
      (pss_cons (ps_if (pt_cmpR op_eq (pv 2) pe_str (nomark _)) (pss_one (ps_ret (pe_and (pe_cmpR op_gt (pe_gp (pv 0) (T.cls 153) (ok_Book_late_g (K := K) T) hr) pe_int (nomark _)) (pe_one (pe_not (pe_gp (pv 0) (T.cls 153) (ok_Book_again_g (K := K) T) hr)))))) pss_nil)
      (pss_one (ps_ret (pe_or (pe_cmpR op_eq (pv 2) pe_str (nomark _)) (pe_one (pe_not (pe_gp (pv 0) (T.cls 153) (ok_Book_spares_g (K := K) T) hr)))))))), ?_⟩
    obtain ⟨c, lo, pp, p, bk, per, r, rfl, rfl, hc, hp, h⟩ := h
    walk_at "go"
    rw [wz_anew]
    unfold AgM.countsB at h
    cases e : r.w with
    | anew =>
      rw [e] at h
      refine iteDT rfl ?_
      walk_at "go"
      dsimp only at h
      refine ited (fun c1 => ?_) (fun c1 => ?_)
      · rw [decide_eq_true c1] at h
        walk_at "go"
        exact h
      · rw [decide_eq_false c1] at h
        walk_at "go"
        exact h
    | plain =>
      rw [e] at h
      refine iteDF (fun z => nomatch z) ?_
      walk_at "go"
      exact h
    | held =>
      rw [e] at h
      refine iteDF (fun z => nomatch z) ?_
      walk_at "go"
      exact h
  exact ⟨_, T.glo 41, F.2, F.1⟩
theorem c_counts {K : PySem.W.Frag} {H : Hp} {Q : VK} {E : XK} {c lo pp p : Addr} {bk : Bk} {per : Int} {r : Arr} (hc : IsB K H c bk lo pp per) (hp : H p = some (.tup (av r))) (q : Q (.bl (AgM.countsB bk r)) H) : sp_counts K [.ref c, .ref p] H Q E := ⟨_, _, rfl, c, lo, pp, p, bk, per, r, rfl, rfl, hc, hp, q⟩
theorem IsB.ex {K : PySem.W.Frag} {H H' : Hp} {a lo pp kp : Addr} {b : Bk} {per : Int} {kvs : List (List Key × V)} (hk : H kp = some (.dT kvs)) (X : Ex kp H H') (h : IsB K H a b lo pp per) : IsB K H' a b lo pp per := by
  obtain ⟨dx, h1, h2, h3⟩ := h
  exact ⟨dx, X _ _ (ne_of h1 hk (by intro z; cases z)) h1, X _ _ (ne_of h2 hk (by intro z; cases z)) h2, X _ _ (ne_of h3 hk (by intro z; cases z)) h3⟩
def sp_seen_most (K : PySem.W.Frag) : Sp := sp3 fun way book ages H Q => ∃ (a c g lo pp kp : Addr) (N : List Deed) (R : List Arr) (rl : Rl) (G : Nat → Age) (bk : Bk) (per : Int), way = .ref a ∧ book = .ref c ∧ ages = .ref g ∧ IsW K H a N R ∧ WOk N R ∧ IsB K H c bk lo pp per ∧ BOk bk per ∧ IsAg K H g N R rl G kp 0 (fun _ => False) ∧ ∀ H', Ex kp H H' → Q (agV (AgM.seenMost (AgM.T N R rl G bk.looks) R bk)) H'
theorem sc_seen_most : FnScope n_seen_most p_seen_most d_seen_most.scope := ⟨rfl, rfl, rfl, by decide +kernel, rfl, by decide +kernel, by decide +kernel⟩
theorem ok_seen_most (T : Tx K mg) : GF P w K mg base "seen_most" 30 (sp_seen_most K) := by
  have F := mkR (P := P) (w := w) (base := base) T 83 (d := d_seen_most) rfl rfl sc_seen_most (fun _ _ _ _ _ _ us hl => match us, hl with | [_, _, _], _ => rfl) len3 (k := 29) (sp := (sp_seen_most K)) fun cdv A outer s H vs Q E hr h => by
    obtain ⟨way, book, ages, rfl, h⟩ := h
    refine ⟨_, (pss_cons (ps_set (i := 3) sc_seen_most.nd rfl (Or.inl rfl) (pe_gm (pv 2) (T.cls 129) (ok_tab3 (K := K) T) hr (pa_cons (pe_gp (pv 1) (T.cls 153) (ok_Book_looks_g (K := K) T) hr) pa_nil)))
      (pss_cons (ps_set (i := 4) sc_seen_most.nd rfl (Or.inl rfl) (pe_un un_neg pe_int))
      (pss_cons (ps_for PassesOwn.never rfl (ji_list (K := K) (pe_gm0 (pv 0) (T.cls 117) (ok_Way_arrows (K := K) T) hr)) (pg_name (i := 5) sc_seen_most.nd rfl (Or.inl rfl)) (pss_one (ps_if (pt_val (pe_gf (ok_counts (K := K) T) hr (pa_cons (pv 1) (pa_cons (pv 5) pa_nil)))) (pss_cons (ps_par (by rfl) sc_seen_most.nd (i := 6) (j := 7) rfl rfl (by decide) rfl rfl (pa_cons (pe_ix (jx_list (K := K)) (pv 3) (pe_ix (jx_tup (K := K)) (pv 5) pe_int (fun _ _ => rfl)) (fun _ _ => rfl)) (pa_cons (pe_ix (jx_tup (K := K)) (pv 5) pe_int (fun _ _ => rfl)) pa_nil)) (by rfl))
      (pss_cons (ps_set (i := 8) sc_seen_most.nd rfl (Or.inl rfl) (pe_ifExp (PW.pt (pw_or (pt_cmpR op_isN' (pv 6) pe_non (nomark _)) (pw_or1 (pt_cmpR op_isN' (pv 7) pe_non (nomark _))))) pe_non (pe_op op_sub (pe_op op_add (pe_op op_sub (pe_op op_add (pv 6) (pv 7)) pe_int) (pe_gp (pv 1) (T.cls 153) (ok_Book_grain_g (K := K) T) hr)) pe_int)))
      (pss_one (ps_set (i := 4) sc_seen_most.nd rfl (Or.inl rfl) (pe_ifExp (pt_val (pe_gf (ok_is_more (K := K) T) hr (pa_cons (pv 8) (pa_cons (pv 4) pa_nil)))) (pv 8) (pv 4)))))) pss_nil)))
      (pss_one (ps_ret (pv 4)))))), ?_⟩
    obtain ⟨a, c, g, lo, pp, kp, N, R, rl, G, bk, per, rfl, rfl, rfl, w, W, hc, o, hag, h⟩ := h
    obtain ⟨dx, wa, ra, rv, k1, _⟩ := hag.open_
    obtain ⟨kvs, hkp⟩ := hag.dT
    obtain ⟨l0, l3⟩ := looks_ne o.lk
    have hlo : H lo = some (.tup (lv bk.looks)) := by
      obtain ⟨_, _, _, z⟩ := hc
      exact z
    walk_at "go"
    refine c_table hag W hlo l0 l3 (fun p H1 X1 hp => ?_)
    have hTl : (AgM.T N R rl G bk.looks).length = N.length := by rw [AgM.T_eq l0, AgM.walked_len]
    generalize AgM.T N R rl G bk.looks = TT at *
    have w1 := w.kp (Kp.ex X1 hkp rfl)
    have hc1 := hc.ex hkp X1
    walk_at "go"
    intro q rs H2 n2 S2 h2 t2
    have hz : rs.length = R.length := by rw [t2.len, List.length_map]
    refine fo_list (xs := rs) (fun i σ H3 => ∃ d e f y, σ = [some (.ref a), some (.ref c), some (.ref g), some (.ref p), some (agV ((R.take i).foldl (AgM.seenStep TT bk) (some (-1)))), d, e, f, y] ∧ Same H2 H3) (sql h2) ⟨_, _, _, _, rfl, Same.refl _⟩ (fun i σ H3 _ hP => ?_) (fun i x σ H3 hi hP => ?_) (fun σ H3 hP => ?_)
    · obtain ⟨_, _, _, _, _, S3⟩ := hP
      exact sql (S3 _ _ h2)
    · obtain ⟨d, e, f, y, rfl, S3⟩ := hP
      obtain ⟨x, r, rfl, er, hx⟩ := (t2.same S3).got hi
      obtain ⟨o1, o2, o3, o4, o5, o6⟩ := W.ar r (List.mem_of_getElem? er)
      have hc3 := (hc1.same S2).same S3
      have hp3 := S3 _ _ (S2 _ _ hp)
      have e2 := ag_at (l := TT) (i := r.s) (by omega)
      rw [foldl_snoc _ _ _ er]
      generalize (R.take i).foldl (AgM.seenStep TT bk) (some (-1)) = fo
      unfold AgM.seenStep
      generalize TT.getD r.s none = x at *
      walk_at "go"
      refine c_counts hc3 hx ?_
      walk_at "go"
      refine iteb (fun c1 => ?_) (fun c1 => ?_)
      · rw [if_pos c1]
        cases x with
        | none =>
          walk_at "go"
          refine ⟨_, _, rfl, ?_⟩
          simp only [agV]
          walk_at "go"
          refine c_is_more (x := none) (y := fo) ?_
          walk_at "go"
          show if AgM.isMore none fo = true then _ else _
          refine iteb (fun c2 => ?_) (fun c2 => ?_)
          · walk_at "go"
            rw [show AgM.seenOf none r.m bk.grain = none from rfl, if_pos c2]
            exact ⟨_, _, _, _, rfl, S3⟩
          · walk_at "go"
            rw [show AgM.seenOf none r.m bk.grain = none from rfl, if_neg (by rw [c2]; exact Bool.false_ne_true)]
            exact ⟨_, _, _, _, rfl, S3⟩
        | some i0 =>
          walk_at "go"
          refine ⟨_, _, rfl, ?_⟩
          simp only [agV]
          walk_at "go"
          refine c_is_more (x := some (i0 + r.m - 1 + bk.grain - 1)) (y := fo) ?_
          walk_at "go"
          refine iteb (fun c2 => ?_) (fun c2 => ?_)
          · walk_at "go"
            rw [show AgM.seenOf (some i0) r.m bk.grain = some (i0 + r.m - 1 + bk.grain - 1) from rfl, if_pos c2]
            exact ⟨_, _, _, _, rfl, S3⟩
          · walk_at "go"
            rw [show AgM.seenOf (some i0) r.m bk.grain = some (i0 + r.m - 1 + bk.grain - 1) from rfl, if_neg (by rw [c2]; exact Bool.false_ne_true)]
            exact ⟨_, _, _, _, rfl, S3⟩
      · rw [if_neg (by rw [c1]; exact Bool.false_ne_true)]
        walk_at "go"
        exact ⟨_, _, _, _, rfl, S3⟩
    obtain ⟨d, e, f, y, rfl, S3⟩ := hP
    walk_at "go"
    rw [hz, List.take_length]
    exact h H3 (X1.trans (Ex.of (S2.trans S3)))
  exact ⟨_, T.glo 42, F.2, F.1⟩
theorem c_seen_most {K : PySem.W.Frag} {H : Hp} {Q : VK} {E : XK} {a c g lo pp kp : Addr} {N : List Deed} {R : List Arr} {rl : Rl} {G : Nat → Age} {bk : Bk} {per : Int} (w : IsW K H a N R) (W : WOk N R) (hc : IsB K H c bk lo pp per) (o : BOk bk per) (hag : IsAg K H g N R rl G kp 0 (fun _ => False))
    (q : ∀ H', Ex kp H H' → Q (agV (AgM.seenMost (AgM.T N R rl G bk.looks) R bk)) H') : sp_seen_most K [.ref a, .ref c, .ref g] H Q E := ⟨_, _, _, rfl, a, c, g, lo, pp, kp, N, R, rl, G, bk, per, rfl, rfl, rfl, w, W, hc, o, hag, q⟩
def sp_greatest_seen (K : PySem.W.Frag) : Sp := sp3 fun way rule book H Q => ∃ (a b c lo pp : Addr) (N : List Deed) (R : List Arr) (rl : Rl) (bk : Bk) (per : Int), way = .ref a ∧ rule = .ref b ∧ book = .ref c ∧ IsW K H a N R ∧ WOk N R ∧ IsRl K H b rl ∧ (∀ n, rl = .seldom n → 1 ≤ n ∧ n ≤ 2000) ∧ IsB K H c bk lo pp per ∧ BOk bk per ∧ ∀ G H', Same H H' → GOk N R rl G → Q (agV (AgM.seenMost (AgM.T N R rl G bk.looks) R bk)) H'
theorem sc_greatest_seen : FnScope n_greatest_seen p_greatest_seen d_greatest_seen.scope := ⟨rfl, rfl, rfl, by decide +kernel, rfl, by decide +kernel, by decide +kernel⟩
theorem ok_greatest_seen (T : Tx K mg) : GF P w K mg base "greatest_seen" 31 (sp_greatest_seen K) := by
  have F := mkR (P := P) (w := w) (base := base) T 84 (d := d_greatest_seen) rfl rfl sc_greatest_seen (fun _ _ _ _ _ _ us hl => match us, hl with | [_, _, _], _ => rfl) len3 (k := 30) (sp := (sp_greatest_seen K)) fun cdv A outer s H vs Q E hr h => by
    obtain ⟨way, rule, book, rfl, h⟩ := h
    refine ⟨_, (pss_cons (ps_expr (pe_gf (ok_check_all (K := K) T) hr (pa_cons (pv 0) (pa_cons (pv 1) (pa_cons (pv 2) pa_nil)))))
      (pss_one (ps_ret (pe_gf (ok_seen_most (K := K) T) hr (pa_cons (pv 0) (pa_cons (pv 2) (pa_cons (pe_gc (ok_Ages_init (K := K) T) hr (pa_cons (pv 0) (pa_cons (pv 1) pa_nil))) pa_nil))))))), ?_⟩
    obtain ⟨a, b, c, lo, pp, N, R, rl, bk, per, rfl, rfl, rfl, w, W, hb, hrl, hc, o, h⟩ := h
    walk_at "go"
    refine c_check_all w hb hc ?_
    walk_at "go"
    intro x dx H1 n1 S1 h1
    refine ⟨_, _, _, rfl, x, dx, a, b, N, R, rl, rfl, rfl, rfl, h1, w.same S1, W, hb.same S1, hrl, fun G kp H2 X2 gk nk hag => ⟨rfl, ?_⟩⟩
    have S2 : Same H H2 := Ex.same n1 S1 X2
    walk_at "go"
    refine c_seen_most (w.same S2) W (hc.same S2) o hag (fun H3 X3 => ?_)
    exact h G H3 (Ex.same (S1.free nk) S2 X3) gk
  exact ⟨_, T.glo 43, F.2, F.1⟩
theorem c_greatest_seen {K : PySem.W.Frag} {H : Hp} {Q : VK} {E : XK} {a b c lo pp : Addr} {N : List Deed} {R : List Arr} {rl : Rl} {bk : Bk} {per : Int} (w : IsW K H a N R) (W : WOk N R) (hb : IsRl K H b rl) (hrl : ∀ n, rl = .seldom n → 1 ≤ n ∧ n ≤ 2000) (hc : IsB K H c bk lo pp per) (o : BOk bk per)
    (q : ∀ G H', Same H H' → GOk N R rl G → Q (agV (AgM.seenMost (AgM.T N R rl G bk.looks) R bk)) H') : sp_greatest_seen K [.ref a, .ref b, .ref c] H Q E := ⟨_, _, _, rfl, a, b, c, lo, pp, N, R, rl, bk, per, rfl, rfl, rfl, w, W, hb, hrl, hc, o, q⟩
def safeB (seen : Age) (b : Bk) : Bool := match seen with
  | none => false
  | some s => decide (s < AgM.threshold b) || decide (s = -1)
def sp_is_safe (K : PySem.W.Frag) : Sp := sp3 fun way rule book H Q => ∃ (a b c lo pp : Addr) (N : List Deed) (R : List Arr) (rl : Rl) (bk : Bk) (per : Int), way = .ref a ∧ rule = .ref b ∧ book = .ref c ∧ IsW K H a N R ∧ WOk N R ∧ IsRl K H b rl ∧ (∀ n, rl = .seldom n → 1 ≤ n ∧ n ≤ 2000) ∧ IsB K H c bk lo pp per ∧ BOk bk per ∧ ∀ G H', Same H H' → GOk N R rl G → Q (.bl (safeB (AgM.seenMost (AgM.T N R rl G bk.looks) R bk) bk)) H'
theorem sc_is_safe : FnScope n_is_safe p_is_safe d_is_safe.scope := ⟨rfl, rfl, rfl, by decide +kernel, rfl, by decide +kernel, by decide +kernel⟩
theorem ok_is_safe (T : Tx K mg) : GF P w K mg base "is_safe" 32 (sp_is_safe K) := by
  have F := mkR (P := P) (w := w) (base := base) T 85 (d := d_is_safe) rfl rfl sc_is_safe (fun _ _ _ _ _ _ us hl => match us, hl with | [_, _, _], _ => rfl) len3 (k := 31) (sp := (sp_is_safe K)) fun cdv A outer s H vs Q E hr h => by
    obtain ⟨way, rule, book, rfl, h⟩ := h
    refine ⟨_, (pss_cons (ps_set (i := 3) sc_is_safe.nd rfl (Or.inl rfl) (pe_gf (ok_greatest_seen (K := K) T) hr (pa_cons (pv 0) (pa_cons (pv 1) (pa_cons (pv 2) pa_nil)))))
      (pss_one (ps_ret (pe_or (pe_and (pe_cmpR op_notN' (pv 3) pe_non (nomark _)) (pe_one (pe_cmpR op_lt (pv 3) (pe_gm0 (pv 2) (T.cls 153) (ok_Book_threshold (K := K) T) hr) (nomark _)))) (pe_one (pe_cmpR op_eq (pv 3) (pe_un un_neg pe_int) (nomark _))))))), ?_⟩
    obtain ⟨a, b, c, lo, pp, N, R, rl, bk, per, rfl, rfl, rfl, w, W, hb, hrl, hc, o, h⟩ := h
    walk_at "go"
    refine c_greatest_seen w W hb hrl hc o (fun G H1 S1 gk => ?_)
    have h := h G H1 S1 gk
    have hc1 := hc.same S1
    generalize AgM.seenMost (AgM.T N R rl G bk.looks) R bk = sn at *
    cases sn with
    | none =>
      simp only [agV]
      walk_at "go"
      exact h
    | some s =>
      simp only [agV]
      walk_at "go"
      refine ited (fun c1 => ?_) (fun c1 => ?_)
      · walk_at "go"
        rw [show safeB (some s) bk = true by show (decide (s < AgM.threshold bk) || decide (s = -1)) = true; rw [decide_eq_true c1]; rfl] at h
        exact h
      · walk_at "go"
        rw [show safeB (some s) bk = decide (s = -1) by show (decide (s < AgM.threshold bk) || decide (s = -1)) = decide (s = -1); rw [decide_eq_false c1]; rfl] at h
        exact h
  exact ⟨_, T.glo 44, F.2, F.1⟩
theorem c_is_safe {K : PySem.W.Frag} {H : Hp} {Q : VK} {E : XK} {a b c lo pp : Addr} {N : List Deed} {R : List Arr} {rl : Rl} {bk : Bk} {per : Int} (w : IsW K H a N R) (W : WOk N R) (hb : IsRl K H b rl) (hrl : ∀ n, rl = .seldom n → 1 ≤ n ∧ n ≤ 2000) (hc : IsB K H c bk lo pp per) (o : BOk bk per)
    (q : ∀ G H', Same H H' → GOk N R rl G → Q (.bl (safeB (AgM.seenMost (AgM.T N R rl G bk.looks) R bk) bk)) H') : sp_is_safe K [.ref a, .ref b, .ref c] H Q E := ⟨_, _, _, rfl, a, b, c, lo, pp, N, R, rl, bk, per, rfl, rfl, rfl, w, W, hb, hrl, hc, o, q⟩
def sp_least_bound (K : PySem.W.Frag) : Sp := sp3 fun way rule book H Q => ∃ (a b c lo pp : Addr) (N : List Deed) (R : List Arr) (rl : Rl) (bk : Bk) (per : Int), way = .ref a ∧ rule = .ref b ∧ book = .ref c ∧ IsW K H a N R ∧ WOk N R ∧ IsRl K H b rl ∧ (∀ n, rl = .seldom n → 1 ≤ n ∧ n ≤ 2000) ∧ IsB K H c bk lo pp per ∧ BOk bk per ∧ ∀ G H', Same H H' → GOk N R rl G → Q (agV (AgM.leastOf (AgM.seenMost (AgM.T N R rl G bk.looks) R bk) bk)) H'
theorem sc_least_bound : FnScope n_least_bound p_least_bound d_least_bound.scope := ⟨rfl, rfl, rfl, by decide +kernel, rfl, by decide +kernel, by decide +kernel⟩
theorem ok_least_bound (T : Tx K mg) : GF P w K mg base "least_bound" 32 (sp_least_bound K) := by
  have F := mkR (P := P) (w := w) (base := base) T 86 (d := d_least_bound) rfl rfl sc_least_bound (fun _ _ _ _ _ _ us hl => match us, hl with | [_, _, _], _ => rfl) len3 (k := 31) (sp := (sp_least_bound K)) fun cdv A outer s H vs Q E hr h => by
    obtain ⟨way, rule, book, rfl, h⟩ := h
    refine ⟨_, (pss_cons (ps_set (i := 3) sc_least_bound.nd rfl (Or.inl rfl) (pe_gf (ok_greatest_seen (K := K) T) hr (pa_cons (pv 0) (pa_cons (pv 1) (pa_cons (pv 2) pa_nil)))))
      (pss_cons (ps_if (pt_cmpR op_isN' (pv 3) pe_non (nomark _)) (pss_one (ps_ret pe_non)) pss_nil)
      (pss_cons (ps_if (pt_cmpR op_eq (pv 3) (pe_un un_neg pe_int) (nomark _)) (pss_one (ps_ret pe_int)) pss_nil)
      (pss_one (ps_ret (pe_op op_add (pe_op op_fdiv (pv 3) (pe_gp (pv 2) (T.cls 153) (ok_Book_day_g (K := K) T) hr)) (pe_ct jc_intb (T.free 73) (pa_cons (pe_cmpR op_eq (pe_gp (pv 2) (T.cls 153) (ok_Book_how_g (K := K) T) hr) pe_str (nomark _)) pa_nil)))))))), ?_⟩
    obtain ⟨a, b, c, lo, pp, N, R, rl, bk, per, rfl, rfl, rfl, w, W, hb, hrl, hc, o, h⟩ := h
    have d1 := o.d1
    have d2 := o.d2
    walk_at "go"
    refine c_greatest_seen w W hb hrl hc o (fun G H1 S1 gk => ?_)
    have h := h G H1 S1 gk
    have hc1 := hc.same S1
    generalize AgM.seenMost (AgM.T N R rl G bk.looks) R bk = sn at *
    cases sn with
    | none =>
      simp only [agV]
      walk_at "go"
      exact h
    | some s =>
      simp only [agV]
      unfold AgM.leastOf at h
      dsimp only at h
      walk_at "go"
      refine ited (fun c1 => ?_) (fun c1 => ?_)
      · walk_at "go"
        rw [if_pos c1] at h
        exact h
      · walk_at "go"
        refine rd_I ⟨by omega, by omega⟩ ?_
        walk_at "go"
        rw [hz_fr]
        rw [if_neg c1] at h
        exact h
  exact ⟨_, T.glo 45, F.2, F.1⟩
theorem c_least_bound {K : PySem.W.Frag} {H : Hp} {Q : VK} {E : XK} {a b c lo pp : Addr} {N : List Deed} {R : List Arr} {rl : Rl} {bk : Bk} {per : Int} (w : IsW K H a N R) (W : WOk N R) (hb : IsRl K H b rl) (hrl : ∀ n, rl = .seldom n → 1 ≤ n ∧ n ≤ 2000) (hc : IsB K H c bk lo pp per) (o : BOk bk per)
    (q : ∀ G H', Same H H' → GOk N R rl G → Q (agV (AgM.leastOf (AgM.seenMost (AgM.T N R rl G bk.looks) R bk) bk)) H') : sp_least_bound K [.ref a, .ref b, .ref c] H Q E := ⟨_, _, _, rfl, a, b, c, lo, pp, N, R, rl, bk, per, rfl, rfl, rfl, w, W, hb, hrl, hc, o, q⟩
/-! ### the law's own defs -/
def Src (H : Hp) (s : Addr) : Prop := ∃ n e : Int, H s = some (.lst [.int n, .int e]) ∧ 0 ≤ n ∧ 0 ≤ e ∧ e < 2147483647
theorem Src.kp {H H' : Hp} {s : Addr} (h : Src H s) (X : Ex s H H') : Kp H H' := by
  obtain ⟨n, e, h, _⟩ := h
  exact Kp.ex X h rfl
theorem Src.same {H H' : Hp} {s : Addr} (h : Src H s) (S : Same H H') : Src H' s := by
  obtain ⟨n, e, h, r⟩ := h
  exact ⟨n, e, S _ _ h, r⟩
theorem Src.ne {H : Hp} {s p : Addr} (h : Src H s) (n : H p = none) : p ≠ s := by
  obtain ⟨_, _, h, _⟩ := h
  exact (ne_of_none h n).symm
theorem Src.neT {H : Hp} {s p : Addr} {xs : List V} (h : Src H s) (n : H p = some (.tup xs)) : p ≠ s := by
  obtain ⟨_, _, h, _⟩ := h
  exact ne_of n h (by intro z; cases z)
theorem abs_nn (i : Int) : 0 ≤ (if i < 0 then -i else i) := by
  split <;> omega
def sp_law_source (K : PySem.W.Frag) : Sp := sp2 fun script turn H Q => ∃ (a : Addr) (ns : List Int) (k : Nat), script = .ref a ∧ turn = .int k ∧ SqL K H a (ns.map V.int) ∧ k ≤ 1000 ∧ ∀ s H', H s = none → Same H H' → Src H' s → Q (.ref s) H'
theorem sc_law_source : FnScope n_law_source p_law_source d_law_source.scope := ⟨rfl, rfl, rfl, by decide +kernel, rfl, by decide +kernel, by decide +kernel⟩
theorem ok_law_source (T : Tx K mg) : GF P w K mg base "_law_source" 1 (sp_law_source K) := by
  have F := mkR (P := P) (w := w) (base := base) T 87 (d := d_law_source) rfl rfl sc_law_source (fun _ _ _ _ _ _ us hl => match us, hl with | [_, _], _ => rfl) len2 (k := 0) (sp := (sp_law_source K)) fun cdv A outer s H vs Q E hr h => by
    obtain ⟨script, turn, rfl, h⟩ := h
    refine ⟨_, (pss_cons (ps_set (i := 2) sc_law_source.nd rfl (Or.inl rfl) pe_int)
      (pss_cons (ps_if (pt_cmpR op_lt (pv 1) (pe_cb (jc_ln (K := K)) (T.free 69) (pa_cons (pv 0) pa_nil)) (nomark _)) (pss_one (ps_set (i := 2) sc_law_source.nd rfl (Or.inl rfl) (pe_ix (jx_list (K := K)) (pv 0) (pv 1) (fun _ _ => rfl)))) pss_nil)
      (pss_cons (ps_set (i := 3) sc_law_source.nd rfl (Or.inl rfl) (pe_cb jc_abs (T.free 81) (pa_cons (pv 2) pa_nil)))
      (pss_cons (ps_set (i := 4) sc_law_source.nd rfl (Or.inl rfl) (pe_op op_mod (pe_ct jc_int (T.free 73) (pa_cons (pe_op op_add (pe_op op_add (pe_op op_mul (pe_op op_mod (pe_ct jc_int (T.free 73) (pa_cons (pv 3) pa_nil)) pe_int) pe_int) (pe_op op_mul pe_int (pv 1))) pe_int) pa_nil)) pe_int))
      (pss_cons (ps_if (pt_cmpR op_lt (pv 3) (pe_op op_pow pe_int pe_int) (nomark _)) (pss_one (ps_set (i := 3) sc_law_source.nd rfl (Or.inl rfl) pe_int)) pss_nil)
      (pss_one (ps_ret (pe_lst (pa_cons (pv 3) (pa_cons (pv 4) pa_nil)))))))))), ?_⟩
    obtain ⟨a, ns, k, rfl, rfl, ha, hk, h⟩ := h
    walk_at "go"
    refine ited (fun c1 => ?cA) (fun c1 => ?cB)
    case' cA =>
      rw [List.length_map] at c1
      obtain ⟨c, ec⟩ : ∃ c, ns[k]? = some c := ⟨ns[k]'(by omega), List.getElem?_eq_getElem (by omega)⟩
      have ec' : atI (ns.map V.int) (k : Int) = some (.int c) := atI_nat (by rw [List.getElem?_map, ec]; rfl)
    all_goals
      walk_at "go"
      refine rd_I (by decide) ?_
      walk_at "go"
      refine rd_I (.inr (by decide)) ?_
      walk_at "go"
      refine rd_I (.inl (by decide)) ?_
      walk_at "go"
      refine rd_I (by decide) ?_
      walk_at "go"
      refine rd_I ⟨by decide, by decide, by decide⟩ ?_
      walk_at "go"
    case' cA =>
      refine ited (fun c2 => ?_) (fun c2 => ?_)
      · walk_at "go"
        intro s H1 n1 S1 h1
        exact h s H1 n1 S1 ⟨_, _, h1, Int.le_refl 0, Int.emod_nonneg _ (by decide), Int.emod_lt_of_pos _ (by decide)⟩
      · walk_at "go"
        intro s H1 n1 S1 h1
        exact h s H1 n1 S1 ⟨_, _, h1, abs_nn _, Int.emod_nonneg _ (by decide), Int.emod_lt_of_pos _ (by decide)⟩
    intro s H1 n1 S1 h1
    exact h s H1 n1 S1 ⟨_, _, h1, by decide, Int.emod_nonneg _ (by decide), Int.emod_lt_of_pos _ (by decide)⟩
  exact ⟨_, T.glo 46, F.2, F.1⟩
theorem c_source {K : PySem.W.Frag} {H : Hp} {Q : VK} {E : XK} {a : Addr} {ns : List Int} {k : Nat} (ha : SqL K H a (ns.map V.int)) (hk : k ≤ 1000) (q : ∀ s H', H s = none → Same H H' → Src H' s → Q (.ref s) H') : sp_law_source K [.ref a, .int k] H Q E := ⟨_, _, rfl, a, ns, k, rfl, rfl, ha, hk, q⟩
def sp_law_draw : Sp := sp2 fun source amount H Q => ∃ (s : Addr) (m : Int), source = .ref s ∧ amount = .int m ∧ Src H s ∧ 1 ≤ m ∧ m ≤ 1000000000 ∧ ∀ d H', Ex s H H' → Src H' s → 0 ≤ d → d < m → Q (.int d) H'
theorem sc_law_draw : FnScope n_law_draw p_law_draw d_law_draw.scope := ⟨rfl, rfl, rfl, by decide +kernel, rfl, by decide +kernel, by decide +kernel⟩
theorem ok_law_draw (T : Tx K mg) : GF P w K mg base "_law_draw" 1 sp_law_draw := by
  have F := mkR (P := P) (w := w) (base := base) T 88 (d := d_law_draw) rfl rfl sc_law_draw (fun _ _ _ _ _ _ us hl => match us, hl with | [_, _], _ => rfl) len2 (k := 0) (sp := sp_law_draw) fun cdv A outer s H vs Q E hr h => by
    obtain ⟨source, amount, rfl, h⟩ := h
    refine ⟨_, (pss_cons (ps_if (pt_cmpR op_gt (pe_ix (jx_list (K := K)) (pv 0) pe_int (fun _ _ => rfl)) pe_int (nomark _)) (pss_cons (ps_set (i := 2) sc_law_draw.nd rfl (Or.inl rfl) (pe_op op_mod (pe_ct jc_int (T.free 73) (pa_cons (pe_ix (jx_list (K := K)) (pv 0) pe_int (fun _ _ => rfl)) pa_nil)) (pv 1)))
      (pss_cons (ps_asg (pe_op op_fdiv (pe_ix (jx_list (K := K)) (pv 0) pe_int (fun _ _ => rfl)) (pv 1)) (pg_sub (pv 0) pe_int set_list (by intro _; rfl)))
      (pss_one (ps_ret (pv 2))))) pss_nil)
      (pss_cons (ps_asg (pe_op op_mod (pe_ct jc_int (T.free 73) (pa_cons (pe_op op_add (pe_op op_mul (pe_ix (jx_list (K := K)) (pv 0) pe_int (fun _ _ => rfl)) pe_int) pe_int) pa_nil)) pe_int) (pg_sub (pv 0) pe_int set_list (by intro _; rfl)))
      (pss_cons (ps_set (i := 3) sc_law_draw.nd rfl (Or.inl rfl) (pe_op op_fdiv (pe_op op_mod (pe_ct jc_int (T.free 73) (pa_cons (pe_op op_mul (pe_ix (jx_list (K := K)) (pv 0) pe_int (fun _ _ => rfl)) (pe_ix (jx_list (K := K)) (pv 0) pe_int (fun _ _ => rfl))) pa_nil)) pe_int) pe_int))
      (pss_cons (ps_if (pt_cmpR op_gt (pv 1) (pe_op op_pow pe_int pe_int) (nomark _)) (pss_cons (ps_asg (pe_op op_mod (pe_ct jc_int (T.free 73) (pa_cons (pe_op op_add (pe_op op_mul (pe_ix (jx_list (K := K)) (pv 0) pe_int (fun _ _ => rfl)) pe_int) pe_int) pa_nil)) pe_int) (pg_sub (pv 0) pe_int set_list (by intro _; rfl)))
      (pss_one (ps_set (i := 3) sc_law_draw.nd rfl (Or.inl rfl) (pe_op op_add (pe_op op_mul (pv 3) pe_int) (pe_op op_fdiv (pe_op op_mod (pe_ct jc_int (T.free 73) (pa_cons (pe_op op_mul (pe_ix (jx_list (K := K)) (pv 0) pe_int (fun _ _ => rfl)) (pe_ix (jx_list (K := K)) (pv 0) pe_int (fun _ _ => rfl))) pa_nil)) pe_int) pe_int))))) pss_nil)
      (pss_one (ps_ret (pe_op op_mod (pe_ct jc_int (T.free 73) (pa_cons (pv 3) pa_nil)) (pv 1)))))))), ?_⟩
    obtain ⟨s, m, rfl, rfl, ⟨n, e, hs, n0, e0, e1⟩, m1, m2, h⟩ := h
    walk_at "go"
    refine ited (fun c1 => ?_) (fun c1 => ?_)
    · walk_at "go"
      refine rd_I (show 0 < m by omega) ?_
      walk_at "go"
      refine rd_I ⟨by omega, by omega⟩ ?_
      walk_at "go"
      refine rd_setL hs (j := 0) rfl (fun H1 X1 h1 => ?_)
      walk_at "go"
      exact h _ H1 X1 ⟨_, _, h1, Int.ediv_nonneg n0 (by omega), e0, e1⟩ (Int.emod_nonneg _ (by omega)) (Int.emod_lt_of_pos _ (by omega))
    · walk_at "go"
      refine rd_I (.inr (by decide)) ?_
      walk_at "go"
      refine rd_I (by decide) ?_
      walk_at "go"
      refine rd_setL hs (j := 1) rfl (fun H1 X1 h1 => ?_)
      have f0 := Int.emod_nonneg (e * 48271 + 11) (show (2147483647 : Int) ≠ 0 by decide)
      have f1 := Int.emod_lt_of_pos (e * 48271 + 11) (show (0 : Int) < 2147483647 by decide)
      generalize (e * 48271 + 11) % 2147483647 = e2 at *
      have h1 : H1 s = some (.lst [.int n, .int e2]) := h1
      walk_at "go"
      refine rd_I (.inl ⟨by omega, by omega⟩) ?_
      walk_at "go"
      refine rd_I (by decide) ?_
      walk_at "go"
      refine rd_I ⟨by decide, by decide⟩ ?_
      walk_at "go"
      refine rd_I ⟨by decide, by decide, by decide⟩ ?_
      walk_at "go"
      refine ited (fun c2 => ?_) (fun c2 => ?_)
      · walk_at "go"
        refine rd_I (.inr (by decide)) ?_
        walk_at "go"
        refine rd_I (by decide) ?_
        walk_at "go"
        refine rd_setL h1 (j := 1) rfl (fun H2 X2 h2 => ?_)
        have g0 := Int.emod_nonneg (e2 * 39373 + 17) (show (2147483647 : Int) ≠ 0 by decide)
        have g1 := Int.emod_lt_of_pos (e2 * 39373 + 17) (show (0 : Int) < 2147483647 by decide)
        generalize (e2 * 39373 + 17) % 2147483647 = e3 at *
        have h2 : H2 s = some (.lst [.int n, .int e3]) := h2
        walk_at "go"
        refine rd_I (.inr (by decide)) ?_
        walk_at "go"
        refine rd_I (.inl ⟨by omega, by omega⟩) ?_
        walk_at "go"
        refine rd_I (by decide) ?_
        walk_at "go"
        refine rd_I ⟨by decide, by decide⟩ ?_
        walk_at "go"
        refine rd_I (show 0 < m by omega) ?_
        exact h _ H2 (X1.trans X2) ⟨_, _, h2, n0, g0, g1⟩ (Int.emod_nonneg _ (by omega)) (Int.emod_lt_of_pos _ (by omega))
      · walk_at "go"
        refine rd_I (show 0 < m by omega) ?_
        exact h _ H1 X1 ⟨_, _, h1, n0, f0, f1⟩ (Int.emod_nonneg _ (by omega)) (Int.emod_lt_of_pos _ (by omega))
  exact ⟨_, T.glo 47, F.2, F.1⟩
theorem c_draw {H : Hp} {Q : VK} {E : XK} {s : Addr} {m : Int} (hs : Src H s) (m1 : 1 ≤ m) (m2 : m ≤ 1000000000) (q : ∀ d H', Ex s H H' → Src H' s → 0 ≤ d → d < m → Q (.int d) H') : sp_law_draw [.ref s, .int m] H Q E := ⟨_, _, rfl, s, m, rfl, rfl, hs, m1, m2, q⟩
def sp_law_pick : Sp := sp2 fun source items H Q => ∃ (s p : Addr) (xs : List V), source = .ref s ∧ items = .ref p ∧ Src H s ∧ H p = some (.lst xs) ∧ p ≠ s ∧ 1 ≤ xs.length ∧ xs.length ≤ 1000 ∧ ∀ x H', Ex s H H' → Src H' s → x ∈ xs → Q x H'
theorem sc_law_pick : FnScope n_law_pick p_law_pick d_law_pick.scope := ⟨rfl, rfl, rfl, by decide +kernel, rfl, by decide +kernel, by decide +kernel⟩
theorem ok_law_pick (T : Tx K mg) : GF P w K mg base "_law_pick" 2 sp_law_pick := by
  have F := mkR (P := P) (w := w) (base := base) T 89 (d := d_law_pick) rfl rfl sc_law_pick (fun _ _ _ _ _ _ us hl => match us, hl with | [_, _], _ => rfl) len2 (k := 1) (sp := sp_law_pick) fun cdv A outer s H vs Q E hr h => by
    obtain ⟨source, items, rfl, h⟩ := h
    refine ⟨_, (pss_one (ps_ret (pe_ix (jx_list (K := K)) (pv 1) (pe_gf (ok_law_draw (K := K) T) hr (pa_cons (pv 0) (pa_cons (pe_cb (jc_ln (K := K)) (T.free 69) (pa_cons (pv 1) pa_nil)) pa_nil))) (fun _ _ => rfl)))), ?_⟩
    obtain ⟨s, p, xs, rfl, rfl, hs, hp, ne, l1, l2, h⟩ := h
    walk_at "go"
    refine c_draw hs (by omega) (by omega) (fun d H1 X1 s1 d0 d1 => ?_)
    have hp1 := X1 _ _ ne hp
    obtain ⟨k, rfl⟩ : ∃ k : Nat, d = k := ⟨d.toNat, by omega⟩
    have hk : k < xs.length := by omega
    have ex : atI xs (k : Int) = some xs[k] := atI_nat (List.getElem?_eq_getElem hk)
    walk_at "go"
    exact h _ H1 X1 s1 (List.getElem_mem hk)
  exact ⟨_, T.glo 48, F.2, F.1⟩
theorem c_pick {H : Hp} {Q : VK} {E : XK} {s p : Addr} {xs : List V} (hs : Src H s) (hp : H p = some (.lst xs)) (ne : p ≠ s) (l1 : 1 ≤ xs.length) (l2 : xs.length ≤ 1000) (q : ∀ x H', Ex s H H' → Src H' s → x ∈ xs → Q x H') : sp_law_pick [.ref s, .ref p] H Q E := ⟨_, _, rfl, s, p, xs, rfl, rfl, hs, hp, ne, l1, l2, q⟩
def sp_law_rule_row : Sp := sp2 fun source most H Q => ∃ (s : Addr) (m : Int), source = .ref s ∧ most = .int m ∧ Src H s ∧ 1 ≤ m ∧ m ≤ 2000 ∧ ∀ p z k H', Ex s H H' → Src H' s → H' p = some (.tup [.str z, .int k]) → (z = "always" ∨ z = "never" ∨ z = "seldom") → 1 ≤ k → k ≤ 2000 → Q (.ref p) H'
theorem sc_law_rule_row : FnScope n_law_rule_row p_law_rule_row d_law_rule_row.scope := ⟨rfl, rfl, rfl, by decide +kernel, rfl, by decide +kernel, by decide +kernel⟩
theorem ok_law_rule_row (T : Tx K mg) : GF P w K mg base "_law_rule_row" 3 sp_law_rule_row := by
  have F := mkR (P := P) (w := w) (base := base) T 91 (d := d_law_rule_row) rfl rfl sc_law_rule_row (fun _ _ _ _ _ _ us hl => match us, hl with | [_, _], _ => rfl) len2 (k := 2) (sp := sp_law_rule_row) fun cdv A outer s H vs Q E hr h => by
    obtain ⟨source, most, rfl, h⟩ := h
    refine ⟨_, (pss_cons (ps_set (i := 2) sc_law_rule_row.nd rfl (Or.inl rfl) (pe_gf (ok_law_pick (K := K) T) hr (pa_cons (pv 0) (pa_cons (pe_lst (pa_cons pe_str (pa_cons pe_str (pa_cons pe_str (pa_cons pe_str pa_nil))))) pa_nil))))
      (pss_one (ps_ret (pe_tup (pa_cons (pv 2) (pa_cons (pe_op op_add pe_int (pe_gf (ok_law_draw (K := K) T) hr (pa_cons (pv 0) (pa_cons (pv 1) pa_nil)))) pa_nil)))))), ?_⟩
    obtain ⟨s, m, rfl, rfl, hs, m1, m2, h⟩ := h
    walk_at "go"
    intro q H1 n1 S1 h1
    refine c_pick (hs.same S1) h1 (hs.ne n1) (Nat.le_of_ble_eq_true rfl) (Nat.le_of_ble_eq_true rfl) (fun x H2 X2 s2 hx => ?_)
    obtain ⟨z, rfl, hz⟩ : ∃ z : Str, x = .str z ∧ (z = "always" ∨ z = "never" ∨ z = "seldom") := by
      simp only [List.mem_cons, List.not_mem_nil, or_false] at hx
      rcases hx with rfl | rfl | rfl | rfl
      · exact ⟨_, rfl, .inl rfl⟩
      · exact ⟨_, rfl, .inr (.inl rfl)⟩
      · exact ⟨_, rfl, .inr (.inr rfl)⟩
      · exact ⟨_, rfl, .inr (.inr rfl)⟩
    walk_at "go"
    refine c_draw s2 (by omega) (by omega) (fun d H3 X3 s3 d0 d1 => ?_)
    walk_at "go"
    intro p H4 n4 S4 h4
    exact h p z _ H4 ((Ex.of S1).trans (X2.trans (X3.trans (Ex.of S4)))) (s3.same S4) h4 hz (by omega) (by omega)
  exact ⟨_, T.glo 50, F.2, F.1⟩
def sp_law_rule (K : PySem.W.Frag) : Sp := sp1 fun row H Q => ∃ (p : Addr) (z : Str) (k : Int), row = .ref p ∧ H p = some (.tup [.str z, .int k]) ∧ (z = "always" ∨ z = "never" ∨ z = "seldom") ∧ 1 ≤ k ∧ k ≤ 2000 ∧ ∀ b rl H', Same H H' → IsRl K H' b rl → (∀ n, rl = .seldom n → 1 ≤ n ∧ n ≤ 2000) → Q (.ref b) H'
theorem sc_law_rule : FnScope n_law_rule p_law_rule d_law_rule.scope := ⟨rfl, rfl, rfl, by decide +kernel, rfl, by decide +kernel, by decide +kernel⟩
theorem ok_law_rule (T : Tx K mg) : GF P w K mg base "_law_rule" 4 (sp_law_rule K) := by
  have F := mkR (P := P) (w := w) (base := base) T 90 (d := d_law_rule) rfl rfl sc_law_rule (fun _ _ _ _ _ _ us hl => match us, hl with | [_], _ => rfl) len1 (k := 3) (sp := (sp_law_rule K)) fun cdv A outer s H vs Q E hr h => by
    obtain ⟨row, rfl, h⟩ := h
    refine ⟨_, (pss_cons (ps_if (pt_cmpR op_eq (pe_ix (jx_tup (K := K)) (pv 0) pe_int (fun _ _ => rfl)) pe_str (nomark _)) (pss_one (ps_ret (pe_gs (pe_gref (T.glo 62)) (ok_Rule_seldom (K := K) T) hr (pa_cons (pe_ix (jx_tup (K := K)) (pv 0) pe_int (fun _ _ => rfl)) pa_nil)))) pss_nil)
      (pss_one (ps_ret (pe_ifExp (pt_cmpR op_eq (pe_ix (jx_tup (K := K)) (pv 0) pe_int (fun _ _ => rfl)) pe_str (nomark _)) (pe_gs0 (pe_gref (T.glo 62)) (ok_Rule_always (K := K) T) hr) (pe_gs0 (pe_gref (T.glo 62)) (ok_Rule_never (K := K) T) hr))))), ?_⟩
    obtain ⟨p, z, k, rfl, hp, hz, k1, k2, h⟩ := h
    rcases hz with rfl | rfl | rfl
    · walk_at "go"
      intro b dx H1 n1 S1 h1
      exact h b .always H1 S1 ⟨dx, h1⟩ (fun n z => nomatch z)
    · walk_at "go"
      intro b dx H1 n1 S1 h1
      exact h b .never H1 S1 ⟨dx, h1⟩ (fun n z => nomatch z)
    · walk_at "go"
      obtain ⟨n, rfl⟩ : ∃ n : Nat, k = n := ⟨k.toNat, by omega⟩
      refine ⟨_, rfl, n, rfl, by omega, by omega, fun b dx H1 n1 S1 h1 => ?_⟩
      exact h b (.seldom n) H1 S1 ⟨dx, h1⟩ (fun n' z => by cases z; exact ⟨by omega, by omega⟩)
  exact ⟨_, T.glo 49, F.2, F.1⟩
def sp_law_maker : Sp := sp2 fun source back H Q => ∃ (s : Addr) (m : Int), source = .ref s ∧ back = .int m ∧ Src H s ∧ 1 ≤ m ∧ m ≤ 1000000000 ∧ ∀ p d H', Ex s H H' → Src H' s → H' p = some (.tup (dv d)) → d.ok → d.makes = true → Q (.ref p) H'
theorem sc_law_maker : FnScope n_law_maker p_law_maker d_law_maker.scope := ⟨rfl, rfl, rfl, by decide +kernel, rfl, by decide +kernel, by decide +kernel⟩
theorem ok_law_maker (T : Tx K mg) : GF P w K mg base "_law_maker" 3 sp_law_maker := by
  have F := mkR (P := P) (w := w) (base := base) T 92 (d := d_law_maker) rfl rfl sc_law_maker (fun _ _ _ _ _ _ us hl => match us, hl with | [_, _], _ => rfl) len2 (k := 2) (sp := sp_law_maker) fun cdv A outer s H vs Q E hr h => by
    obtain ⟨source, back, rfl, h⟩ := h
    refine ⟨_, (pss_one (ps_ret (pe_gf (ok_law_pick (K := K) T) hr (pa_cons (pv 0) (pa_cons (pe_lst (pa_cons (pe_tup (pa_cons pe_str pa_nil)) (pa_cons (pe_tup (pa_cons pe_str pa_nil)) (pa_cons (pe_tup (pa_cons pe_str (pa_cons (pe_op op_add pe_int (pe_gf (ok_law_draw (K := K) T) hr (pa_cons (pv 0) (pa_cons (pv 1) pa_nil)))) pa_nil))) pa_nil)))) pa_nil))))), ?_⟩
    obtain ⟨s, m, rfl, rfl, hs, m1, m2, h⟩ := h
    walk_at "go"
    intro p1 H1 n1 S1 h1
    walk_at "go"
    intro p2 H2 n2 S2 h2
    walk_at "go"
    have s2 := (hs.same S1).same S2
    refine c_draw s2 m1 m2 (fun d H3 X3 s3 d0 d1 => ?_)
    walk_at "go"
    intro p3 H4 n4 S4 h4
    walk_at "go"
    intro q H5 n5 S5 h5
    have s4 := s3.same S4
    refine c_pick (s4.same S5) h5 (s4.ne n5) (Nat.le_of_ble_eq_true rfl) (Nat.le_of_ble_eq_true rfl) (fun x H6 X6 s6 hx => ?_)
    have k6 : Kp H5 H6 := Src.kp (s4.same S5) X6
    have k26 : Kp H2 H6 := (Src.kp s2 X3).trans ((Kp.of (S4.trans S5)).trans k6)
    have XX : Ex s H H6 := (Ex.of (S1.trans S2)).trans (X3.trans ((Ex.of (S4.trans S5)).trans X6))
    simp only [List.mem_cons, List.not_mem_nil, or_false] at hx
    rcases hx with rfl | rfl | rfl
    · exact h p1 .make H6 XX s6 (k26 _ _ rfl (S2 _ _ h1)) trivial rfl
    · exact h p2 .make H6 XX s6 (k26 _ _ rfl h2) trivial rfl
    · exact h p3 (.unpack (1 + d)) H6 XX s6 (k6 _ _ rfl (S5 _ _ h4)) ⟨by omega, by omega⟩ rfl
  exact ⟨_, T.glo 51, F.2, F.1⟩
def sp_law_user : Sp := sp2 fun source back H Q => ∃ (s : Addr) (m : Int), source = .ref s ∧ back = .int m ∧ Src H s ∧ 1 ≤ m ∧ m ≤ 1000000000 ∧ ∀ p d H', Ex s H H' → Src H' s → H' p = some (.tup (dv d)) → d.ok → d.makes = false → Q (.ref p) H'
theorem sc_law_user : FnScope n_law_user p_law_user d_law_user.scope := ⟨rfl, rfl, rfl, by decide +kernel, rfl, by decide +kernel, by decide +kernel⟩
theorem ok_law_user (T : Tx K mg) : GF P w K mg base "_law_user" 3 sp_law_user := by
  have F := mkR (P := P) (w := w) (base := base) T 93 (d := d_law_user) rfl rfl sc_law_user (fun _ _ _ _ _ _ us hl => match us, hl with | [_, _], _ => rfl) len2 (k := 2) (sp := sp_law_user) fun cdv A outer s H vs Q E hr h => by
    obtain ⟨source, back, rfl, h⟩ := h
    refine ⟨_, (pss_one (ps_ret (pe_gf (ok_law_pick (K := K) T) hr (pa_cons (pv 0) (pa_cons (pe_lst (pa_cons (pe_tup (pa_cons pe_str pa_nil)) (pa_cons (pe_tup (pa_cons pe_str pa_nil)) (pa_cons (pe_tup (pa_cons pe_str pa_nil)) (pa_cons (pe_tup (pa_cons pe_str pa_nil)) (pa_cons (pe_tup (pa_cons pe_str pa_nil)) (pa_cons (pe_tup (pa_cons pe_str pa_nil)) (pa_cons (pe_tup (pa_cons pe_str (pa_cons (pe_op op_add pe_int (pe_gf (ok_law_draw (K := K) T) hr (pa_cons (pv 0) (pa_cons (pv 1) pa_nil)))) pa_nil))) pa_nil)))))))) pa_nil))))), ?_⟩
    obtain ⟨s, m, rfl, rfl, hs, m1, m2, h⟩ := h
    walk_at "go"
    intro p1 H1 n1 S1 h1
    walk_at "go"
    intro p2 H2 n2 S2 h2
    walk_at "go"
    intro p3 H3 n3 S3 h3
    walk_at "go"
    intro p4 H4 n4 S4 h4
    walk_at "go"
    intro p5 H5 n5 S5 h5
    walk_at "go"
    intro p6 H6 n6 S6 h6
    walk_at "go"
    have T5 := S5.trans S6
    have T4 := S4.trans T5
    have T3 := S3.trans T4
    have T2 := S2.trans T3
    have T1 := S1.trans T2
    have s6 := hs.same T1
    refine c_draw s6 m1 m2 (fun d H7 X7 s7 d0 d1 => ?_)
    walk_at "go"
    intro p7 H8 n8 S8 h8
    walk_at "go"
    intro q H9 n9 S9 h9
    have s8 := s7.same S8
    refine c_pick (s8.same S9) h9 (s8.ne n9) (Nat.le_of_ble_eq_true rfl) (Nat.le_of_ble_eq_true rfl) (fun x H10 X10 s10 hx => ?_)
    have k10 : Kp H9 H10 := Src.kp (s8.same S9) X10
    have k6 : Kp H6 H10 := (Src.kp s6 X7).trans ((Kp.of (S8.trans S9)).trans k10)
    have XX : Ex s H H10 := (Ex.of T1).trans (X7.trans ((Ex.of (S8.trans S9)).trans X10))
    simp only [List.mem_cons, List.not_mem_nil, or_false] at hx
    rcases hx with rfl | rfl | rfl | rfl | rfl | rfl | rfl
    · exact h p1 .read H10 XX s10 (k6 _ _ rfl (T2 _ _ h1)) trivial rfl
    · exact h p2 .read H10 XX s10 (k6 _ _ rfl (T3 _ _ h2)) trivial rfl
    · exact h p3 .read H10 XX s10 (k6 _ _ rfl (T4 _ _ h3)) trivial rfl
    · exact h p4 .write H10 XX s10 (k6 _ _ rfl (T5 _ _ h4)) trivial rfl
    · exact h p5 .rename H10 XX s10 (k6 _ _ rfl (S6 _ _ h5)) trivial rfl
    · exact h p6 .touch H10 XX s10 (k6 _ _ rfl h6) trivial rfl
    · exact h p7 (.setback (1 + d)) H10 XX s10 (k10 _ _ rfl (S9 _ _ h8)) ⟨by omega, by omega⟩ rfl
  exact ⟨_, T.glo 52, F.2, F.1⟩
def sp_law_looks : Sp := sp1 fun source H Q => ∃ (s : Addr), source = .ref s ∧ Src H s ∧ ∀ p l H', Ex s H H' → Src H' s → H' p = some (.tup (lv l)) → l ∈ looksAll → Q (.ref p) H'
theorem sc_law_looks : FnScope n_law_looks p_law_looks d_law_looks.scope := ⟨rfl, rfl, rfl, by decide +kernel, rfl, by decide +kernel, by decide +kernel⟩
theorem ok_law_looks (T : Tx K mg) : GF P w K mg base "_law_looks" 3 sp_law_looks := by
  have F := mkR (P := P) (w := w) (base := base) T 97 (d := d_law_looks) rfl rfl sc_law_looks (fun _ _ _ _ _ _ us hl => match us, hl with | [_], _ => rfl) len1 (k := 2) (sp := sp_law_looks) fun cdv A outer s H vs Q E hr h => by
    obtain ⟨source, rfl, h⟩ := h
    refine ⟨_, (pss_one (ps_ret (pe_gf (ok_law_pick (K := K) T) hr (pa_cons (pv 0) (pa_cons (pe_lst (pa_cons (pe_tup (pa_cons pe_str (pa_cons pe_str (pa_cons pe_str pa_nil)))) (pa_cons (pe_tup (pa_cons pe_str pa_nil)) (pa_cons (pe_tup (pa_cons pe_str pa_nil)) (pa_cons (pe_tup (pa_cons pe_str pa_nil)) (pa_cons (pe_tup (pa_cons pe_str (pa_cons pe_str pa_nil))) (pa_cons (pe_tup (pa_cons pe_str (pa_cons pe_str pa_nil))) (pa_cons (pe_tup (pa_cons pe_str (pa_cons pe_str pa_nil))) pa_nil)))))))) pa_nil))))), ?_⟩
    obtain ⟨s, rfl, hs, h⟩ := h
    walk_at "go"
    intro p1 H1 n1 S1 h1
    walk_at "go"
    intro p2 H2 n2 S2 h2
    walk_at "go"
    intro p3 H3 n3 S3 h3
    walk_at "go"
    intro p4 H4 n4 S4 h4
    walk_at "go"
    intro p5 H5 n5 S5 h5
    walk_at "go"
    intro p6 H6 n6 S6 h6
    walk_at "go"
    intro p7 H7 n7 S7 h7
    walk_at "go"
    intro q H8 n8 S8 h8
    have T7 := S7.trans S8
    have T6 := S6.trans T7
    have T5 := S5.trans T6
    have T4 := S4.trans T5
    have T3 := S3.trans T4
    have T2 := S2.trans T3
    have T1 := S1.trans T2
    have s8 := hs.same T1
    refine c_pick s8 h8 ((hs.same (S1.trans (S2.trans (S3.trans (S4.trans (S5.trans (S6.trans S7))))))).ne n8) (Nat.le_of_ble_eq_true rfl) (Nat.le_of_ble_eq_true rfl) (fun x H9 X9 s9 hx => ?_)
    have k9 : Kp H8 H9 := Src.kp s8 X9
    have XX : Ex s H H9 := (Ex.of T1).trans X9
    simp only [List.mem_cons, List.not_mem_nil, or_false] at hx
    rcases hx with rfl | rfl | rfl | rfl | rfl | rfl | rfl
    · exact h p1 [.read, .written, .changed] H9 XX s9 (k9 _ _ rfl (T2 _ _ h1)) (by decide)
    · exact h p2 [.read] H9 XX s9 (k9 _ _ rfl (T3 _ _ h2)) (by decide)
    · exact h p3 [.written] H9 XX s9 (k9 _ _ rfl (T4 _ _ h3)) (by decide)
    · exact h p4 [.changed] H9 XX s9 (k9 _ _ rfl (T5 _ _ h4)) (by decide)
    · exact h p5 [.read, .written] H9 XX s9 (k9 _ _ rfl (T6 _ _ h5)) (by decide)
    · exact h p6 [.read, .changed] H9 XX s9 (k9 _ _ rfl (T7 _ _ h6)) (by decide)
    · exact h p7 [.written, .changed] H9 XX s9 (k9 _ _ rfl (S8 _ _ h7)) (by decide)
  exact ⟨_, T.glo 56, F.2, F.1⟩
def sp_law_arrow : Sp := sp5 fun source start goal longest ends H Q => ∃ (s : Addr) (a b : Nat) (m : Int), source = .ref s ∧ start = .int a ∧ goal = .int b ∧ longest = .int m ∧ ends = .bl false ∧ Src H s ∧ 1 ≤ m ∧ m ≤ 100000000 ∧ ∀ p r H', Ex s H H' → Src H' s → H' p = some (.tup (av r)) → r.s = a → r.g = b → 1 ≤ r.l → r.l ≤ r.m → r.m ≤ 200000000 → r.w ≠ .anew → Q (.ref p) H'
theorem sc_law_arrow : FnScope n_law_arrow p_law_arrow d_law_arrow.scope := ⟨rfl, rfl, rfl, by decide +kernel, rfl, by decide +kernel, by decide +kernel⟩
theorem ok_law_arrow (T : Tx K mg) : GF P w K mg base "_law_arrow" 3 sp_law_arrow := by
  have F := mkR (P := P) (w := w) (base := base) T 94 (d := d_law_arrow) rfl rfl sc_law_arrow (fun _ _ _ _ _ _ us hl => match us, hl with | [_, _, _, _, _], _ => rfl) len5 (k := 2) (sp := sp_law_arrow) fun cdv A outer s H vs Q E hr h => by
    obtain ⟨source, start, goal, longest, ends, rfl, h⟩ := h
    refine ⟨_, (pss_cons (ps_set (i := 5) sc_law_arrow.nd rfl (Or.inl rfl) (pe_op op_add pe_int (pe_gf (ok_law_draw (K := K) T) hr (pa_cons (pv 0) (pa_cons (pv 3) pa_nil)))))
      (pss_cons (ps_set (i := 6) sc_law_arrow.nd rfl (Or.inl rfl) (pe_op op_add (pv 5) (pe_gf (ok_law_draw (K := K) T) hr (pa_cons (pv 0) (pa_cons (pv 3) pa_nil)))))
      (pss_cons (ps_if (PW.pt (pw_and (pt_val (pv 4)) (pw_and1 (pt_cmpR op_eq (pe_gf (ok_law_draw (K := K) T) hr (pa_cons (pv 0) (pa_cons pe_int pa_nil))) pe_int (nomark _))))) (pss_one (ps_set (i := 6) sc_law_arrow.nd rfl (Or.inl rfl) pe_non)) pss_nil)
      (pss_one (ps_ret (pe_tup (pa_cons (pv 1) (pa_cons (pv 2) (pa_cons (pv 5) (pa_cons (pv 6) (pa_cons (pe_gf (ok_law_pick (K := K) T) hr (pa_cons (pv 0) (pa_cons (pe_lst (pa_cons pe_str (pa_cons pe_str (pa_cons pe_str pa_nil)))) pa_nil))) pa_nil))))))))))), ?_⟩
    obtain ⟨s, a, b, m, rfl, rfl, rfl, rfl, rfl, hs, m1, m2, h⟩ := h
    walk_at "go"
    refine c_draw hs m1 (by omega) (fun d H1 X1 s1 d0 d1 => ?_)
    walk_at "go"
    refine c_draw s1 m1 (by omega) (fun d2 H2 X2 s2 e0 e1 => ?_)
    walk_at "go"
    intro q H3 n3 S3 h3
    refine c_pick (s2.same S3) h3 (s2.ne n3) (Nat.le_of_ble_eq_true rfl) (Nat.le_of_ble_eq_true rfl) (fun x H4 X4 s4 hx => ?_)
    obtain ⟨w, rfl, hw⟩ : ∃ w : Word, x = .str (wz w) ∧ w ≠ .anew := by
      simp only [List.mem_cons, List.not_mem_nil, or_false] at hx
      rcases hx with rfl | rfl | rfl
      · exact ⟨.plain, rfl, by decide⟩
      · exact ⟨.plain, rfl, by decide⟩
      · exact ⟨.held, rfl, by decide⟩
    walk_at "go"
    intro p H5 n5 S5 h5
    exact h p ⟨a, b, 1 + d, 1 + d + d2, w⟩ H5 (X1.trans (X2.trans ((Ex.of S3).trans (X4.trans (Ex.of S5))))) (s4.same S5) h5 rfl rfl (by show 1 ≤ 1 + d; omega) (by show 1 + d ≤ 1 + d + d2; omega) (by show 1 + d + d2 ≤ 200000000; omega) hw
  exact ⟨_, T.glo 53, F.2, F.1⟩
theorem c_maker {H : Hp} {Q : VK} {E : XK} {s : Addr} {m : Int} (hs : Src H s) (m1 : 1 ≤ m) (m2 : m ≤ 1000000000) (q : ∀ p d H', Ex s H H' → Src H' s → H' p = some (.tup (dv d)) → d.ok → d.makes = true → Q (.ref p) H') : sp_law_maker [.ref s, .int m] H Q E := ⟨_, _, rfl, s, m, rfl, rfl, hs, m1, m2, q⟩
theorem c_user {H : Hp} {Q : VK} {E : XK} {s : Addr} {m : Int} (hs : Src H s) (m1 : 1 ≤ m) (m2 : m ≤ 1000000000) (q : ∀ p d H', Ex s H H' → Src H' s → H' p = some (.tup (dv d)) → d.ok → d.makes = false → Q (.ref p) H') : sp_law_user [.ref s, .int m] H Q E := ⟨_, _, rfl, s, m, rfl, rfl, hs, m1, m2, q⟩
theorem c_arrow {H : Hp} {Q : VK} {E : XK} {s : Addr} {a b : Nat} {m : Int} (hs : Src H s) (m1 : 1 ≤ m) (m2 : m ≤ 100000000) (q : ∀ p r H', Ex s H H' → Src H' s → H' p = some (.tup (av r)) → r.s = a → r.g = b → 1 ≤ r.l → r.l ≤ r.m → r.m ≤ 200000000 → r.w ≠ .anew → Q (.ref p) H') : sp_law_arrow [.ref s, .int a, .int b, .int m, .bl false] H Q E :=
  ⟨_, _, _, _, _, rfl, s, a, b, m, rfl, rfl, rfl, rfl, rfl, hs, m1, m2, q⟩
theorem Tups.exl {H H' : Hp} {l : Addr} {xs vs : List V} {L : List (List V)} (X : Ex l H H') (h : H l = some (.lst xs)) (t : Tups H vs L) : Tups H' vs L := t.mono fun c xs hc => X _ _ (ne_of hc h (by intro z; cases z)) hc
theorem Src.ex {H H' : Hp} {s l : Addr} (hs : Src H s) (X : Ex l H H') (ne : l ≠ s) : Src H' s := by
  obtain ⟨n, e, h, r⟩ := hs
  exact ⟨n, e, X _ _ ne.symm h, r⟩
structure PlanA (N : List Deed) (R : List Arr) : Prop where
  ar : ∀ r ∈ R, AOk N r
  di : ∀ (i j : Nat) (r r2 : Arr), R[i]? = some r → R[j]? = some r2 → r.s = r2.s → r.g = r2.g → i = j
  an : ∀ r ∈ R, r.w = .anew → ∃ b : Arr, b ∈ R ∧ b.s = r.g ∧ b.w ≠ .anew
  mx : ∀ r ∈ R, r.m ≤ 200000000
theorem PlanA.nil {N : List Deed} : PlanA N [] := ⟨fun r h => (by cases h), fun i j r r2 h => (by simp at h), fun r h => (by cases h), fun r h => (by cases h)⟩
theorem PlanA.add {N : List Deed} {R : List Arr} {r : Arr} (P : PlanA N R) (h1 : AOk N r) (h2 : ∀ r2 ∈ R, ¬ (r2.s = r.s ∧ r2.g = r.g)) (h3 : r.w = .anew → ∃ b : Arr, b ∈ R ∧ b.s = r.g ∧ b.w ≠ .anew) (h4 : r.m ≤ 200000000) : PlanA N (R ++ [r]) := by
  refine ⟨fun x hx => ?_, fun i j x y hi hj e1 e2 => ?_, fun x hx e => ?_, fun x hx => ?_⟩
  · rcases List.mem_append.mp hx with z | z
    · exact P.ar x z
    · rw [List.mem_singleton.mp z]; exact h1
  · have li := (List.getElem?_eq_some_iff.mp hi).1
    have lj := (List.getElem?_eq_some_iff.mp hj).1
    rw [List.length_append, List.length_singleton] at li lj
    by_cases ci : i < R.length
    · rw [List.getElem?_append_left ci] at hi
      by_cases cj : j < R.length
      · rw [List.getElem?_append_left cj] at hj
        exact P.di i j x y hi hj e1 e2
      · rw [List.getElem?_append_right (by omega), show j - R.length = 0 by omega] at hj
        cases (show some r = some y from hj)
        exact absurd ⟨e1, e2⟩ (h2 x (List.mem_of_getElem? hi))
    · rw [List.getElem?_append_right (by omega), show i - R.length = 0 by omega] at hi
      cases (show some r = some x from hi)
      by_cases cj : j < R.length
      · rw [List.getElem?_append_left cj] at hj
        exact absurd ⟨e1.symm, e2.symm⟩ (h2 y (List.mem_of_getElem? hj))
      · omega
  · rcases List.mem_append.mp hx with z | z
    · obtain ⟨b, b1, b2, b3⟩ := P.an x z e
      exact ⟨b, List.mem_append.mpr (.inl b1), b2, b3⟩
    · rw [List.mem_singleton.mp z] at e ⊢
      obtain ⟨b, b1, b2, b3⟩ := h3 e
      exact ⟨b, List.mem_append.mpr (.inl b1), b2, b3⟩
  · rcases List.mem_append.mp hx with z | z
    · exact P.mx x z
    · rw [List.mem_singleton.mp z]; exact h4
theorem wz_pl (w : Word) : plV (.str (wz w)) = true := by cases w <;> decide +kernel
theorem av_pl (r : Arr) : (av r).all plV = true := by
  have := wz_pl r.w
  simp [av, plV] at this ⊢
  exact this
def IsPlan (H : Hp) (p : Addr) (N : List Deed) (R : List Arr) : Prop := ∃ nl al ns rs, H p = some (.tup [.ref nl, .ref al]) ∧ H nl = some (.lst ns) ∧ Tups H ns (N.map dv) ∧ H al = some (.lst rs) ∧ Tups H rs (R.map av)
theorem IsPlan.kp {H H' : Hp} {p : Addr} {N : List Deed} {R : List Arr} (S : Kp H H') (h : IsPlan H p N R) : IsPlan H' p N R := by
  obtain ⟨nl, al, ns, rs, h1, h2, h3, h4, h5⟩ := h
  exact ⟨nl, al, ns, rs, S _ _ rfl h1, S _ _ h3.sk h2, S.tups h3, S _ _ h5.sk h4, S.tups h5⟩
theorem cutav4 (r : Arr) : cutV (av r) none (some 4) = [.int r.s, .int r.g, .int r.l, .int r.m] := rfl
theorem cutav2 (r : Arr) : cutV (av r) none (some 2) = [.int r.s, .int r.g] := rfl
theorem cut4n : ¬ (HT.sIx 5 0 none = 0 ∧ HT.sIx 5 5 (some 4) = 5) := by decide
def sp_law_plan : Sp := sp5 fun source many longest back ends H Q => ∃ (s : Addr) (m : Nat) (lg bk : Int), source = .ref s ∧ many = .int m ∧ longest = .int lg ∧ back = .int bk ∧ ends = .bl false ∧ Src H s ∧ 1 ≤ m ∧ m ≤ 6 ∧ 1 ≤ lg ∧ lg ≤ 100000000 ∧ 1 ≤ bk ∧ bk ≤ 1000000000 ∧ ∀ p N R H', Ex s H H' → Src H' s → IsPlan H' p N R → WOk N R → N.length ≤ 6 → (N.getD 0 .read).makes = true → (∀ r ∈ R, r.m ≤ 200000000) → Q (.ref p) H'
theorem sc_law_plan : FnScope n_law_plan p_law_plan d_law_plan.scope := ⟨rfl, rfl, rfl, by decide +kernel, rfl, by decide +kernel, by decide +kernel⟩
theorem ok_law_plan (T : Tx K mg) : GF P w K mg base "_law_plan" 4 sp_law_plan := by
  have F := mkR (P := P) (w := w) (base := base) T 95 (d := d_law_plan) rfl rfl sc_law_plan (fun _ _ _ _ _ _ us hl => match us, hl with | [_, _, _, _, _], _ => rfl) len5 (k := 3) (sp := sp_law_plan) fun cdv A outer s H vs Q E hr h => by
    obtain ⟨source, many, longest, back, ends, rfl, h⟩ := h
    refine ⟨_, (pss_cons (ps_set (i := 5) sc_law_plan.nd rfl (Or.inl rfl) (pe_lst (pa_cons (pe_gf (ok_law_maker (K := K) T) hr (pa_cons (pv 0) (pa_cons (pv 3) pa_nil))) pa_nil)))
      (pss_cons (ps_for PassesOwn.never rfl (pi_range2 (by rfl) (T.free 71) (pa_cons pe_int (pa_cons (pv 1) pa_nil))) (pg_name (i := 6) sc_law_plan.nd rfl (Or.inl rfl)) (pss_one (ps_expr (je_app (K := K) (pv 5) (pa_cons (pe_ifExp (PW.pt (pw_and (pt_cmpR op_eq (pv 6) pe_int (nomark _)) (pw_and1 (pt_cmpR op_eq (pe_gf (ok_law_draw (K := K) T) hr (pa_cons (pv 0) (pa_cons pe_int pa_nil))) pe_int (nomark _))))) (pe_gf (ok_law_maker (K := K) T) hr (pa_cons (pv 0) (pa_cons (pv 3) pa_nil))) (pe_gf (ok_law_user (K := K) T) hr (pa_cons (pv 0) (pa_cons (pv 3) pa_nil)))) pa_nil)))))
      (pss_cons (ps_set (i := 7) sc_law_plan.nd rfl (Or.inl rfl) (pe_lst pa_nil))
      (pss_cons (ps_for PassesOwn.never rfl (pi_range2 (by rfl) (T.free 71) (pa_cons pe_int (pa_cons (pv 1) pa_nil))) (pg_name (i := 8) sc_law_plan.nd rfl (Or.inl rfl)) (pss_one (ps_if (pt_cmpR (jo_nin (K := K)) (pe_ix (jx_tup (K := K)) (pe_ix (jx_list (K := K)) (pv 5) (pv 8) (fun _ _ => rfl)) pe_int (fun _ _ => rfl)) (pe_tup (pa_cons pe_str (pa_cons pe_str pa_nil))) (by with_unfolding_all rfl)) (pss_one (ps_expr (je_app (K := K) (pv 7) (pa_cons (pe_gf (ok_law_arrow (K := K) T) hr (pa_cons (pv 0) (pa_cons (pe_gf (ok_law_draw (K := K) T) hr (pa_cons (pv 0) (pa_cons (pv 8) pa_nil))) (pa_cons (pv 8) (pa_cons (pv 2) (pa_cons (pv 4) pa_nil)))))) pa_nil)))) pss_nil)))
      (pss_cons (ps_for PassesOwn.never rfl (pi_range1 (by rfl) (T.free 71) (pa_cons (pe_gf (ok_law_draw (K := K) T) hr (pa_cons (pv 0) (pa_cons (pe_op op_add (pe_op op_mul pe_int (pv 1)) pe_int) pa_nil))) pa_nil)) (pg_name (i := 9) sc_law_plan.nd rfl (Or.inl rfl)) (pss_cons (ps_set (i := 10) sc_law_plan.nd rfl (Or.inr rfl) (pe_gf (ok_law_arrow (K := K) T) hr (pa_cons (pv 0) (pa_cons (pe_gf (ok_law_draw (K := K) T) hr (pa_cons (pv 0) (pa_cons (pv 1) pa_nil))) (pa_cons (pe_gf (ok_law_draw (K := K) T) hr (pa_cons (pv 0) (pa_cons (pv 1) pa_nil))) (pa_cons (pv 2) (pa_cons (pv 4) pa_nil)))))))
      (pss_cons (ps_setLc (i := 11) (own := [("other", 12)]) (g := gName 12) rfl sc_law_plan.nd rfl rfl (sw_true rfl rfl rfl (by decide +kernel)) (ji_list (K := K) (pv 7)) (blkOk_by (own := [("other", 12)]) (N := n_law_plan) (sc := d_law_plan.scope) (by decide +kernel)) (fun _ _ _ _ _ => pg_name (i := 12) sc_law_plan.nd rfl (Or.inl rfl)) (fun _ _ _ _ _ => (pts_one (PW.pt (pw_and (pt_cmpR op_eq (pe_ix (jx_tup (K := K)) (pv 12) pe_int (fun _ _ => rfl)) (pe_ix (jx_tup (K := K)) (pv 10) pe_int (fun _ _ => rfl)) (nomark _)) (pw_and1 (pt_cmpR op_ne (pe_ix (jx_tup (K := K)) (pv 12) pe_int (fun _ _ => rfl)) pe_str (nomark _))))))) (fun _ _ _ _ _ => (pv 12)))
      (pss_cons (ps_if (pt_cmpR (jo_in (K := K)) (pe_ix (jx_tup (K := K)) (pe_ix (jx_list (K := K)) (pv 5) (pe_ix (jx_tup (K := K)) (pv 10) pe_int (fun _ _ => rfl)) (fun _ _ => rfl)) pe_int (fun _ _ => rfl)) (pe_tup (pa_cons pe_str (pa_cons pe_str pa_nil))) (by with_unfolding_all rfl)) (pss_one (ps_set (i := 10) sc_law_plan.nd rfl (Or.inr rfl) (pe_op (jo_catT (K := K)) (pe_slice (js_tup (K := K)) (pv 10) po_none (po_some pe_int)) (pe_tup (pa_cons pe_str pa_nil))))) pss_nil)
      (pss_one (ps_if (PW.pt (pw_and (pt_cmpR (jo_ninD (K := K) (hu65 hr)) (pe_slice (js_tup (K := K)) (pv 10) po_none (po_some pe_int)) (pe_lc (own := [("other", 12)]) (g := gName 12) (tt := tYes) rfl sc_law_plan.nd (ji_list (K := K) (pv 7)) (blkOk_by (own := [("other", 12)]) (N := n_law_plan) (sc := d_law_plan.scope) (by decide +kernel)) (fun _ _ _ _ _ => pg_name (i := 12) sc_law_plan.nd rfl (Or.inl rfl)) (fun _ _ _ _ _ => pts_nil) (fun _ _ _ _ _ => (pe_slice (js_tup (K := K)) (pv 12) po_none (po_some pe_int)))) (by with_unfolding_all rfl)) (pw_and1 (PW.pt (pw_or (pt_cmpR op_ne (pe_ix (jx_tup (K := K)) (pv 10) pe_int (fun _ _ => rfl)) pe_str (nomark _)) (pw_or1 (pt_cmpR (jo_neD (K := K) hr.units) (pv 11) (pe_lst pa_nil) (nomark _)))))))) (pss_one (ps_expr (je_app (K := K) (pv 7) (pa_cons (pv 10) pa_nil)))) pss_nil))))))
      (pss_one (ps_ret (pe_tup (pa_cons (pv 5) (pa_cons (pv 7) pa_nil)))))))))), ?_⟩
    obtain ⟨s, m, lg, bk, rfl, rfl, rfl, rfl, rfl, hs, m1, m2, g1, g2, b1, b2, h⟩ := h
    walk_at "go"
    refine c_maker hs b1 b2 (fun p0 d0 H1 X1 s1 h1 o0 k0 => ?_)
    walk_at "go"
    intro nl H2 n2 S2 h2
    have s2 := s1.same S2
    have nls : nl ≠ s := s1.ne n2
    have nl0 : H nl = none := by
      cases e : H nl with
      | none => rfl
      | some o =>
        rw [X1 _ _ nls e] at n2
        cases n2
    walk_at "go"
    refine fo_range2 (by omega) (by omega) (by omega) (fun i σ H3 => ∃ (a b c d e f g k : Option V) (ns : List V) (N : List Deed), σ = [some (.ref s), some (.int m), some (.int lg), some (.int bk), some (.bl false), some (.ref nl), a, b, c, d, e, f, g] ∧ Ex s H H3 ∧ Src H3 s ∧ H3 nl = some (.lst ns) ∧ Tups H3 ns (N.map dv) ∧ N.length = i + 1 ∧ (∀ d ∈ N, d.ok) ∧ (N.getD 0 .read).makes = true)
      ⟨_, _, _, _, _, _, _, none, _, [d0], rfl, X1.trans (Ex.of S2), s2, h2, .cons (S2 _ _ h1) .nil, rfl, fun d hd => by rw [List.mem_singleton.mp hd]; exact o0, k0⟩ (fun i σ H3 hi hP => ?_) (fun σ H3 hP => ?_) (by omega)
    · obtain ⟨a, b, c, d, e, f, g, k, ns, N, rfl, X3, s3, h3, t3, l3, o3, k3⟩ := hP
      have hz : ns.length = N.length := by rw [t3.len, List.length_map]
      have fin : ∀ p d H', Ex s H3 H' → Src H' s → H' p = some (.tup (dv d)) → d.ok → H' nl = some (.lst ns) ∧ ∀ H5, Ex nl H' H5 → H5 nl = some (.lst (ns ++ [.ref p])) →
          (Ex s H H5 ∧ Src H5 s ∧ H5 nl = some (.lst (ns ++ [.ref p])) ∧ Tups H5 (ns ++ [.ref p]) ((N ++ [d]).map dv) ∧ (N ++ [d]).length = i + 1 + 1 ∧ (∀ d' ∈ N ++ [d], d'.ok) ∧ ((N ++ [d]).getD 0 .read).makes = true) := fun p d H' X' s' hp od => by
        have k' := Src.kp s3 X'
        have hn' : H' nl = some (.lst ns) := X' _ _ nls h3
        refine ⟨hn', fun H5 X5 h5 => ⟨fun b' o nb e => X5 _ _ (ne_of_none e nl0) (X' _ _ nb (X3 _ _ nb e)), s'.ex X5 nls, h5, ?_, by rw [List.length_append, l3]; rfl, fun d' hd => ?_, ?_⟩⟩
        · rw [List.map_append]
          exact (Tups.exl X5 hn' (k'.tups t3)).snoc (X5 _ _ (ne_of hp hn' (by intro z; cases z)) hp)
        · rcases List.mem_append.mp hd with z | z
          · exact o3 d' z
          · rw [List.mem_singleton.mp z]; exact od
        · rw [List.getD_eq_getElem?_getD, List.getElem?_append_left (by omega), ← List.getD_eq_getElem?_getD]
          exact k3
      walk_at "go"
      refine ited (fun c1 => ?_) (fun c1 => ?_)
      · walk_at "go"
        refine c_draw s3 (by decide) (by decide) (fun dr H4 X4 s4 e0 e1 => ?_)
        walk_at "go"
        refine ited (fun c2 => ?_) (fun c2 => ?_)
        · walk_at "go"
          refine c_maker s4 b1 b2 (fun p d H5 X5 s5 h5 o5 k5 => ?_)
          obtain ⟨f1, f2⟩ := fin p d H5 (X4.trans X5) s5 h5 o5
          walk_at "go"
          refine rd_kApp f1 (by omega) (fun H6 X6 h6 => ⟨_, _, _, _, _, _, _, none, _, N ++ [d], rfl, f2 H6 X6 h6⟩)
        · walk_at "go"
          refine c_user s4 b1 b2 (fun p d H5 X5 s5 h5 o5 k5 => ?_)
          obtain ⟨f1, f2⟩ := fin p d H5 (X4.trans X5) s5 h5 o5
          walk_at "go"
          refine rd_kApp f1 (by omega) (fun H6 X6 h6 => ⟨_, _, _, _, _, _, _, none, _, N ++ [d], rfl, f2 H6 X6 h6⟩)
      · walk_at "go"
        refine c_user s3 b1 b2 (fun p d H5 X5 s5 h5 o5 k5 => ?_)
        obtain ⟨f1, f2⟩ := fin p d H5 X5 s5 h5 o5
        walk_at "go"
        refine rd_kApp f1 (by omega) (fun H6 X6 h6 => ⟨_, _, _, _, _, _, _, none, _, N ++ [d], rfl, f2 H6 X6 h6⟩)
    obtain ⟨a, b, c, d, e, f, g, k, ns, N, rfl, X3, s3, h3, t3, l3, o3, k3⟩ := hP
    have l3' : N.length = m := by omega
    have hz : ns.length = N.length := by rw [t3.len, List.length_map]
    walk_at "go"
    intro al H4 n4 S4 h4
    have s4 := s3.same S4
    have als : al ≠ s := s3.ne n4
    have nal : nl ≠ al := ne_of_none h3 n4
    have al0 : H al = none := by
      cases e : H al with
      | none => rfl
      | some o =>
        rw [X3 _ _ als e] at n4
        cases n4
    walk_at "go"
    refine fo_range2 (by omega) (by omega) (by omega) (fun i σ H5 => ∃ (a b c d e f : Option V) (rs : List V) (R : List Arr), σ = [some (.ref s), some (.int m), some (.int lg), some (.int bk), some (.bl false), some (.ref nl), a, some (.ref al), b, c, d, e, f] ∧ Ex s H H5 ∧ Src H5 s ∧ H5 nl = some (.lst ns) ∧ Tups H5 ns (N.map dv) ∧ H5 al = some (.lst rs) ∧ Tups H5 rs (R.map av) ∧ R.length ≤ i ∧ PlanA N R ∧ (∀ r ∈ R, r.g ≤ i ∧ r.w ≠ .anew) ∧ (∀ n, n ≤ i → n < N.length → (N.getD n .read).makes = true ∨ ∃ r : Arr, r ∈ R ∧ r.g = n ∧ r.w ≠ .anew ∧ r.s < n))
      ⟨_, _, _, _, _, _, [], [], rfl, X3.trans (Ex.of S4), s4, S4 _ _ h3, t3.same S4, h4, .nil, Nat.le_refl _, .nil, fun r hr => (by cases hr), fun n hn hl => .inl (by rw [show n = 0 by omega]; exact k3)⟩ (fun i σ H5 hi hP => ?_) (fun σ H5 hP => ?_) (by omega)
    · obtain ⟨a, b, c, d, e, f, rs, R, rfl, X5, s5, h5, t5, h5a, tr, lr, PA, gR, fr⟩ := hP
      obtain ⟨dd, ed, gd⟩ := getD_at (N := N) (i := i + 1) (by omega)
      obtain ⟨q, eq, hq⟩ := t5.give ed
      have eq' := atI_of eq
      have e0 := at0 dd
      rw [show (1 : Int) + (i : Nat) = ((i + 1 : Nat) : Int) by omega]
      walk_at "go"
      intro q2 H6 n6 S6 h6
      have s6 := s5.same S6
      have h6a := S6 _ _ h5a
      walk_at "go"
      rw [dz_makes]
      refine itedn_ (fun c1 => ?_) (fun c1 => ?_)
      · walk_at "go"
        refine c_draw s6 (by omega) (by omega) (fun dr H7 X7 s7 e0 e1 => ?_)
        obtain ⟨k, rfl⟩ : ∃ k : Nat, dr = k := ⟨dr.toNat, by omega⟩
        walk_at "go"
        refine c_arrow s7 g1 g2 (fun p r H8 X8 s8 h8 r1 r2 r3 r4 r5 r6 => ?_)
        have X68 := X7.trans X8
        have k68 := Src.kp s6 X68
        have h8a := X68 _ _ als h6a
        have h8n := X68 _ _ nls (S6 _ _ h5)
        walk_at "go"
        refine rd_kApp h8a (by rw [tr.len, List.length_map]; omega) (fun H9 X9 h9 => ?_)
        have X58 : Ex s H5 H8 := (Ex.of S6).trans X68
        have k58 : Kp H5 H8 := (Kp.of S6).trans k68
        refine ⟨_, _, _, _, _, _, _, R ++ [r], rfl, fun b' o nb e => X9 _ _ (ne_of_none e al0) (X58 _ _ nb (X5 _ _ nb e)), s8.ex X9 als, X9 _ _ nal h8n, Tups.exl X9 h8a (k58.tups t5), h9, ?_, by rw [List.length_append]; show R.length + 1 ≤ i + 1; omega, ?_, fun r' hr' => ?_, fun n hn hl => ?_⟩
        · rw [List.map_append]
          exact (Tups.exl X9 h8a (k58.tups tr)).snoc (X9 _ _ (ne_of h8 h8a (by intro z; cases z)) h8)
        · refine PA.add ⟨by omega, by omega, r3, r4, by omega, fun z => absurd z r6, fun z => ?_⟩ (fun r2' hr2' z => ?_) (fun z => absurd z r6) r5
          · rw [r2, gd, c1] at z
            cases z
          · have := (gR r2' hr2').1
            omega
        · rcases List.mem_append.mp hr' with z | z
          · have := gR r' z
            exact ⟨by omega, this.2⟩
          · rw [List.mem_singleton.mp z]
            exact ⟨by omega, r6⟩
        · by_cases z : n ≤ i
          · rcases fr n z hl with y | ⟨r', y1, y2, y3, y4⟩
            · exact .inl y
            · exact .inr ⟨r', List.mem_append.mpr (.inl y1), y2, y3, y4⟩
          · have e : n = i + 1 := by omega
            subst e
            exact .inr ⟨r, List.mem_append.mpr (.inr List.mem_cons_self), r2, r6, by omega⟩
      · walk_at "go"
        refine ⟨_, _, _, _, _, _, rs, R, rfl, X5.trans (Ex.of S6), s6, S6 _ _ h5, t5.same S6, h6a, tr.same S6, by omega, PA, fun r' hr' => ⟨by have := (gR r' hr').1; omega, (gR r' hr').2⟩, fun n hn hl => ?_⟩
        by_cases z : n ≤ i
        · exact fr n z hl
        · have e : n = i + 1 := by omega
          subst e
          rw [gd]
          exact .inl c1
    obtain ⟨a, b, c, d, e, f, rs, R, rfl, X5, s5, h5, t5, h5a, tr, lr, PA, gR, fr⟩ := hP
    have fr2 : fromV N R := fun n hn => fr n (by omega) hn
    have lr2 : R.length ≤ 5 := by omega
    clear fr gR lr
    walk_at "go"
    refine rd_I (.inl (by decide)) ?_
    walk_at "go"
    refine c_draw s5 (by omega) (by omega) (fun dr H6 X6 s6 e0 e1 => ?_)
    obtain ⟨kk, rfl⟩ : ∃ k : Nat, dr = k := ⟨dr.toNat, by omega⟩
    have k6 := Src.kp s5 X6
    walk_at "go"
    refine fo_range (n := kk) rfl (by omega) (fun i σ H7 => ∃ (a b c d e f : Option V) (rs : List V) (R : List Arr), σ = [some (.ref s), some (.int m), some (.int lg), some (.int bk), some (.bl false), some (.ref nl), a, some (.ref al), b, c, d, e, f] ∧ Ex s H H7 ∧ Src H7 s ∧ H7 nl = some (.lst ns) ∧ Tups H7 ns (N.map dv) ∧ H7 al = some (.lst rs) ∧ Tups H7 rs (R.map av) ∧ R.length ≤ 5 + i ∧ PlanA N R ∧ fromV N R)
      ⟨_, _, _, _, _, _, rs, R, rfl, X5.trans X6, s6, X6 _ _ nls h5, k6.tups t5, X6 _ _ als h5a, k6.tups tr, lr2, PA, fr2⟩ (fun i σ H7 hi hP => ?_) (fun σ H7 hP => ?_)
    · obtain ⟨a, b, c, d, e, f, rs, R, rfl, X7, s7, h7, t7, h7a, tr, lr, PA, fr⟩ := hP
      have hrz : rs.length = R.length := by rw [tr.len, List.length_map]
      walk_at "go"
      refine c_draw s7 (by omega) (by omega) (fun dr H8 X8 s8 e0 e1 => ?_)
      obtain ⟨x, rfl⟩ : ∃ k : Nat, dr = k := ⟨dr.toNat, by omega⟩
      walk_at "go"
      refine c_draw s8 (by omega) (by omega) (fun dr H9 X9 s9 f0 f1 => ?_)
      obtain ⟨y, rfl⟩ : ∃ k : Nat, dr = k := ⟨dr.toNat, by omega⟩
      walk_at "go"
      refine c_arrow s9 g1 g2 (fun p r H10 X10 s10 h10 r1 r2 r3 r4 r5 r6 => ?_)
      have X710 := X8.trans (X9.trans X10)
      have k710 := Src.kp s7 X710
      have h10a := X710 _ _ als h7a
      have h10n := X710 _ _ nls h7
      have t10 := k710.tups t7
      have tr10 := k710.tups tr
      walk_at "go"
      refine ⟨_, rfl, ⟨_, sql h10a⟩, lc_filT R av (fun o => decide (o.s = r.g) && decide (o.w ≠ .anew)) h10a tr10 (by omega) (fun o b ho hb H11 Nx S hNx => ?_) (fun D ys H11 nD S11 hD tD => ?_)⟩
      · have h11 := S _ _ h10
        have e1 : decide ((o.s : Int) = r.g) = decide (o.s = r.g) := by
          by_cases c : o.s = r.g
          · rw [decide_eq_true c, decide_eq_true (by omega)]
          · rw [decide_eq_false c, decide_eq_false (by omega)]
        have e2 : (!decide (wz o.w = "anew")) = decide (o.w ≠ .anew) := by
          rw [wz_anew]
          by_cases c : o.w = .anew
          · rw [decide_eq_true c, decide_eq_false (fun z => z c)]
            rfl
          · rw [decide_eq_false c, decide_eq_true c]
            rfl
        walk_at "go"
        rw [e1]
        refine iteb (fun c1 => ?_) (fun c1 => ?_)
        · walk_at "go"
          rw [e2]
          refine iteb (fun c2 => ?_) (fun c2 => ?_)
          · walk_at "go"
            rw [c1, c2] at hNx
            exact hNx _ (Same.refl _)
          · walk_at "go"
            rw [c1, c2] at hNx
            exact hNx _ (Same.refl _)
        · walk_at "go"
          rw [c1] at hNx
          exact hNx _ (Same.refl _)
      obtain ⟨dd, ed, gd⟩ := getD_at (N := N) (i := r.g) (by omega)
      have h11n := S11 _ _ h10n
      have t11 := t10.same S11
      obtain ⟨q, eq, hq⟩ := t11.give ed
      have eq' := atI_of eq
      have ez0 := at0 dd
      have h11 := S11 _ _ h10
      walk_at "go"
      intro q2 H12 n12 S12 h12
      have h12p := S12 _ _ h11
      have S1012 := S11.trans S12
      walk_at "go"
      rw [dz_makes]
      refine iteb (fun c1 => ?cA) (fun c1 => ?cB)
      case' cA =>
        walk_at "go"
        refine rd_slT (sqt h12p) cut4n (fun u H13 n13 S13 h13 => ?_)
        rw [cutav4] at h13
        walk_at "go"
        intro p14 H14 n14 S14 h14
        refine rd_catT (sqt (S14 _ _ h13)) (sqt h14) (Nat.le_of_ble_eq_true rfl) (fun z => nomatch z) (fun z => nomatch z) (fun p' H15 n15 S15 h15 => ?_)
        obtain ⟨r', er'⟩ : ∃ r' : Arr, r' = { r with w := .anew } := ⟨_, rfl⟩
        have hp' : H15 p' = some (.tup (av r')) := by rw [er']; exact h15
        have SS : Same H10 H15 := S1012.trans (S13.trans (S14.trans S15))
        have SD : Same H11 H15 := S12.trans (S13.trans (S14.trans S15))
        have oA : AOk N r' := by
          rw [er']
          refine ⟨by show r.s < _; omega, by show r.g < _; omega, r3, r4, by show r.m ≤ _; omega, fun _ => ?_, fun _ => rfl⟩
          show (N.getD r.g .read).makes = true
          rw [gd]
          exact c1
        have og : r'.g = r.g := by rw [er']
        have om : r'.m ≤ 200000000 := by rw [er']; exact r5
        clear er'
      case' cB =>
        obtain ⟨r', er'⟩ : ∃ r' : Arr, r' = r := ⟨_, rfl⟩
        have hp' : H12 p = some (.tup (av r')) := by rw [er']; exact h12p
        have SS : Same H10 H12 := S1012
        have SD : Same H11 H12 := S12
        have oA : AOk N r' := by
          rw [er']
          refine ⟨by omega, by omega, r3, r4, by omega, fun z => absurd z r6, fun z => ?_⟩
          rw [gd, c1] at z
          cases z
        have og : r'.g = r.g := by rw [er']
        have om : r'.m ≤ 200000000 := by rw [er']; exact r5
        clear er'
        generalize p = p' at *
      all_goals
        have hA := SS _ _ h10a
        have tA := tr10.same SS
        have hDD := SD _ _ hD
        have tDD := tD.same SD
        have add : ∀ HY, Same H10 HY → HY p' = some (.tup (av r')) → (r'.w = .anew → ∃ b : Arr, b ∈ R ∧ b.s = r'.g ∧ b.w ≠ .anew) → (∀ r2 ∈ R, ¬ (r2.s = r'.s ∧ r2.g = r'.g)) → HY al = some (.lst rs) ∧ ∀ HZ, Ex al HY HZ → HZ al = some (.lst (rs ++ [.ref p'])) →
            (Ex s H HZ ∧ Src HZ s ∧ HZ nl = some (.lst ns) ∧ Tups HZ ns (N.map dv) ∧ HZ al = some (.lst (rs ++ [.ref p'])) ∧ Tups HZ (rs ++ [.ref p']) ((R ++ [r']).map av) ∧ (R ++ [r']).length ≤ 5 + (i + 1) ∧ PlanA N (R ++ [r']) ∧ fromV N (R ++ [r'])) := fun HY SY hY an nw => by
          have hYa := SY _ _ h10a
          refine ⟨hYa, fun HZ XZ hZ => ⟨fun b' o nb e => XZ _ _ (ne_of_none e al0) (SY _ _ (X710 _ _ nb (X7 _ _ nb e))), (s10.same SY).ex XZ als, XZ _ _ nal (SY _ _ h10n), Tups.exl XZ hYa (t10.same SY), hZ, ?_, by rw [List.length_append]; show R.length + 1 ≤ _; omega, PA.add oA nw an om, fun n hn => ?_⟩⟩
          · rw [List.map_append]
            exact (Tups.exl XZ hYa (tr10.same SY)).snoc (XZ _ _ (ne_of hY hYa (by intro z; cases z)) hY)
          · rcases fr n hn with z | ⟨b, y1, y2, y3, y4⟩
            · exact .inl z
            · exact .inr ⟨b, List.mem_append.mpr (.inl y1), y2, y3, y4⟩
        have skip : ∀ HY, Same H10 HY → (Ex s H HY ∧ Src HY s ∧ HY nl = some (.lst ns) ∧ Tups HY ns (N.map dv) ∧ HY al = some (.lst rs) ∧ Tups HY rs (R.map av) ∧ R.length ≤ 5 + (i + 1) ∧ PlanA N R ∧ fromV N R) := fun HY SY => ⟨X7.trans (X710.trans (Ex.of SY)), s10.same SY, SY _ _ h10n, t10.same SY, SY _ _ h10a, tr10.same SY, by omega, PA, fr⟩
        walk_at "go"
        refine rd_slT (sqt hp') cut2n (fun u H16 n16 S16 h16 => ?_)
        rw [cutav2] at h16
        walk_at "go"
        have hA16 := S16 _ _ hA
        refine ⟨_, rfl, ⟨_, sql hA16⟩, lc_newT R av (fun r => [.int r.s, .int r.g]) hA16 (tA.same S16) (by omega) (fun x2 b2 hx2 hb2 H17 Nx S17 hNx => ?_) (fun D2 ys2 H17 n17 S17 h17 t17 => ?_)⟩
        · walk_at "go"
          refine rd_slT (sqt (S17 _ _ hb2)) cut2n (fun v H18 n18 S18 h18 => ?_)
          exact hNx v H18 S18 h18
        · refine AgV.rd_ninT (S17 _ _ h16) h17 t17 rfl (fun ys hy => by obtain ⟨r2, _, rfl⟩ := List.mem_map.mp hy; rfl) ?_
          have S1617 := S16.trans S17
          have SS17 := SS.trans S1617
          have hp17 := S1617 _ _ hp'
          walk_at "go"
          refine itedn (fun c3 => ?_) (fun c3 => ?_)
          · have nw : ∀ r2 ∈ R, ¬ (r2.s = r'.s ∧ r2.g = r'.g) := fun r2 hr2 z => c3 (List.mem_map.mpr ⟨r2, hr2, by rw [z.1, z.2]⟩)
            walk_at "go"
            rw [wz_anew]
            refine itedn (fun c4 => ?_) (fun c4 => ?_)
            · walk_at "go"
              obtain ⟨f1, f2⟩ := add _ SS17 hp17 (fun z => absurd z c4) nw
              walk_at "go"
              refine rd_kApp f1 (by omega) (fun H19 X19 h19 => ⟨_, _, _, _, _, _, _, _, rfl, f2 H19 X19 h19⟩)
            · walk_at "go"
              intro z H18 n18 S18 h18
              refine rd_neTL0 h18 (S18 _ _ (S1617 _ _ hDD)) (tDD.same (S1617.trans S18)) (fun ys hy => by obtain ⟨r2, _, rfl⟩ := List.mem_map.mp hy; exact av_pl r2) ?_
              have SS18 := SS17.trans S18
              have hp18 := S18 _ _ hp17
              walk_at "go"
              refine itedn (fun c5 => ?_) (fun c5 => ?_)
              · obtain ⟨f1, f2⟩ := add _ SS18 hp18 (fun _ => by
                  have hl : (R.filter fun o => decide (o.s = r.g) && decide (o.w ≠ .anew)) ≠ [] := fun z => c5 (List.eq_nil_of_length_eq_zero (by rw [tDD.len, List.length_map, z]; rfl))
                  obtain ⟨b, hb⟩ := List.exists_mem_of_ne_nil _ hl
                  obtain ⟨b1, b2⟩ := List.mem_filter.mp hb
                  rw [Bool.and_eq_true] at b2
                  exact ⟨b, b1, by rw [og]; exact of_decide_eq_true b2.1, of_decide_eq_true b2.2⟩) nw
                walk_at "go"
                refine rd_kApp f1 (by omega) (fun H19 X19 h19 => ⟨_, _, _, _, _, _, _, _, rfl, f2 H19 X19 h19⟩)
              · walk_at "go"
                exact ⟨_, _, _, _, _, _, _, _, rfl, skip _ SS18⟩
          · walk_at "go"
            exact ⟨_, _, _, _, _, _, _, _, rfl, skip _ SS17⟩
    obtain ⟨a, b, c, d, e, f, rs, R, rfl, X7, s7, h7, t7, h7a, tr, lr, PA, fr⟩ := hP
    walk_at "go"
    intro p H8 n8 S8 h8
    refine h p N R H8 (X7.trans (Ex.of S8)) (s7.same S8) ⟨nl, al, ns, rs, h8, S8 _ _ h7, t7.same S8, S8 _ _ h7a, tr.same S8⟩ ⟨by omega, by omega, o3, by omega, PA.ar, PA.di, PA.an, fr⟩ (by omega) k3 PA.mx
  exact ⟨_, T.glo 54, F.2, F.1⟩
theorem atI_last {xs : List V} {v : V} : atI (xs ++ [v]) (-1) = some v := by
  unfold atI
  rw [List.length_append, List.length_singleton, ixN_last]
  simp
def mkF (N : List Deed) (n : Nat) : Option V := if (N.getD n .read).makes = true then some (.int (n : Int)) else none
theorem mkF_mem {N : List Deed} {x : V} (h : x ∈ (List.range N.length).filterMap (mkF N)) : ∃ n : Nat, n < N.length ∧ x = .int (n : Int) ∧ (N.getD n .read).makes = true := by
  obtain ⟨n, hn, e⟩ := List.mem_filterMap.mp h
  unfold mkF at e
  split at e
  · rename_i c
    exact ⟨n, List.mem_range.mp hn, (Option.some.inj e).symm, c⟩
  · cases e
theorem mkF_pos {N : List Deed} (h : 1 ≤ N.length) (m : (N.getD 0 .read).makes = true) : 1 ≤ ((List.range N.length).filterMap (mkF N)).length := by
  have : (V.int ((0 : Nat) : Int)) ∈ (List.range N.length).filterMap (mkF N) := List.mem_filterMap.mpr ⟨0, List.mem_range.mpr (by omega), by unfold mkF; rw [if_pos m]⟩
  exact List.length_pos_of_mem this
theorem IsRow.kp {H H' : Hp} {p : Addr} {rw : AgM.Row} (S : Kp H H') (h : IsRow H p rw) : IsRow H' p rw := by
  obtain ⟨vs, h1, h2⟩ := h
  exact ⟨vs, S _ _ rfl h1, S.tups h2⟩
def sp_law_row : Sp := sp5 fun source plan most start longest H Q => ∃ (s p : Addr) (N : List Deed) (R : List Arr) (m st lg : Int), source = .ref s ∧ plan = .ref p ∧ most = .int m ∧ start = .int st ∧ longest = .int lg ∧ Src H s ∧ IsPlan H p N R ∧ WOk N R ∧ N.length ≤ 6 ∧ (N.getD 0 .read).makes = true ∧ (∀ r ∈ R, r.m ≤ 200000000) ∧ 1 ≤ m ∧ m ≤ 10 ∧ 0 ≤ st ∧ st ≤ 100 ∧ ∀ q rw H', Ex s H H' → Src H' s → IsRow H' q rw → RwOk N R rw → (∀ x ∈ rw, 0 ≤ x.2 ∧ x.2 ≤ 10000000000) → Q (.ref q) H'
theorem sc_law_row : FnScope n_law_row p_law_row d_law_row.scope := ⟨rfl, rfl, rfl, by decide +kernel, rfl, by decide +kernel, by decide +kernel⟩
theorem ok_law_row (T : Tx K mg) : GF P w K mg base "_law_row" 3 sp_law_row := by
  have F := mkR (P := P) (w := w) (base := base) T 96 (d := d_law_row) rfl rfl sc_law_row (fun _ _ _ _ _ _ us hl => match us, hl with | [_, _, _, _, _], _ => rfl) len5 (k := 2) (sp := sp_law_row) fun cdv A outer s H vs Q E hr h => by
    obtain ⟨source, plan, most, start, longest, rfl, h⟩ := h
    refine ⟨_, (pss_cons (ps_asg (pv 1) (jg_tup (K := K) (n := 2) rfl (pgs_cons (pg_name (i := 5) sc_law_row.nd rfl (Or.inr rfl)) (pgs_cons (pg_name (i := 6) sc_law_row.nd rfl (Or.inl rfl)) pgs_nil))))
      (pss_cons (ps_setLc (i := 7) (own := [("node", 14)]) (g := gName 14) rfl sc_law_row.nd rfl rfl (sw_true rfl rfl rfl (by decide +kernel)) (pi_range1 (by rfl) (T.free 71) (pa_cons (pe_cb (jc_ln (K := K)) (T.free 69) (pa_cons (pv 5) pa_nil)) pa_nil)) (blkOk_by (own := [("node", 14)]) (N := n_law_row) (sc := d_law_row.scope) (by decide +kernel)) (fun _ _ _ _ _ => pg_name (i := 14) sc_law_row.nd rfl (Or.inl rfl)) (fun _ _ _ _ _ => (pts_one (pt_cmpR (jo_in (K := K)) (pe_ix (jx_tup (K := K)) (pe_ix (jx_list (K := K)) (pv 5) (pv 14) (fun _ _ => rfl)) pe_int (fun _ _ => rfl)) (pe_tup (pa_cons pe_str (pa_cons pe_str pa_nil))) (by with_unfolding_all rfl)))) (fun _ _ _ _ _ => (pv 14)))
      (pss_cons (ps_set (i := 8) sc_law_row.nd rfl (Or.inr rfl) (pe_tup (pa_cons (pe_tup (pa_cons (pe_gf (ok_law_pick (K := K) T) hr (pa_cons (pv 0) (pa_cons (pv 7) pa_nil))) (pa_cons (pv 3) pa_nil))) pa_nil)))
      (pss_cons (ps_for PassesOwn.never rfl (pi_range1 (by rfl) (T.free 71) (pa_cons (pe_gf (ok_law_draw (K := K) T) hr (pa_cons (pv 0) (pa_cons (pv 2) pa_nil))) pa_nil)) (pg_name (i := 9) sc_law_row.nd rfl (Or.inl rfl)) (pss_cons (ps_setLc (i := 10) (own := [("arrow", 11)]) (g := gName 11) rfl sc_law_row.nd rfl rfl (sw_true rfl rfl rfl (by decide +kernel)) (ji_list (K := K) (pv 6)) (blkOk_by (own := [("arrow", 11)]) (N := n_law_row) (sc := d_law_row.scope) (by decide +kernel)) (fun _ _ _ _ _ => pg_name (i := 11) sc_law_row.nd rfl (Or.inl rfl)) (fun _ _ _ _ _ => (pts_one (pt_cmpR op_eq (pe_ix (jx_tup (K := K)) (pv 11) pe_int (fun _ _ => rfl)) (pe_ix (jx_tup (K := K)) (pe_ix (jx_tup (K := K)) (pv 8) (pe_un un_neg pe_int) (fun _ _ => rfl)) pe_int (fun _ _ => rfl)) (nomark _)))) (fun _ _ _ _ _ => (pv 11)))
      (pss_one (ps_if (pt_cmpR (jo_neD (K := K) hr.units) (pv 10) (pe_lst pa_nil) (nomark _)) (pss_cons (ps_set (i := 11) sc_law_row.nd rfl (Or.inl rfl) (pe_gf (ok_law_pick (K := K) T) hr (pa_cons (pv 0) (pa_cons (pv 10) pa_nil))))
      (pss_cons (ps_set (i := 12) sc_law_row.nd rfl (Or.inl rfl) (pe_ix (jx_tup (K := K)) (pv 11) pe_int (fun _ _ => rfl)))
      (pss_cons (ps_if (pt_cmpR op_isN' (pv 12) pe_non (nomark _)) (pss_one (ps_set (i := 12) sc_law_row.nd rfl (Or.inl rfl) (pe_op op_add (pe_ix (jx_tup (K := K)) (pv 11) pe_int (fun _ _ => rfl)) (pv 4)))) pss_nil)
      (pss_cons (ps_set (i := 13) sc_law_row.nd rfl (Or.inl rfl) (pe_ix (jx_list (K := K)) (pe_lst (pa_cons (pe_ix (jx_tup (K := K)) (pv 11) pe_int (fun _ _ => rfl)) (pa_cons (pv 12) (pa_cons (pe_op op_add (pe_ix (jx_tup (K := K)) (pv 11) pe_int (fun _ _ => rfl)) (pe_gf (ok_law_draw (K := K) T) hr (pa_cons (pv 0) (pa_cons (pe_op op_add (pe_op op_sub (pv 12) (pe_ix (jx_tup (K := K)) (pv 11) pe_int (fun _ _ => rfl))) pe_int) pa_nil)))) pa_nil)))) (pe_gf (ok_law_draw (K := K) T) hr (pa_cons (pv 0) (pa_cons pe_int pa_nil))) (fun _ _ => rfl)))
      (pss_one (ps_set (i := 8) sc_law_row.nd rfl (Or.inr rfl) (pe_op (jo_catT (K := K)) (pv 8) (pe_tup (pa_cons (pe_tup (pa_cons (pe_ix (jx_tup (K := K)) (pv 11) pe_int (fun _ _ => rfl)) (pa_cons (pe_op op_add (pe_ix (jx_tup (K := K)) (pe_ix (jx_tup (K := K)) (pv 8) (pe_un un_neg pe_int) (fun _ _ => rfl)) pe_int (fun _ _ => rfl)) (pv 13)) pa_nil))) pa_nil))))))))) pss_nil))))
      (pss_one (ps_ret (pv 8))))))), ?_⟩
    obtain ⟨s, p, N, R, m, st, lg, rfl, rfl, rfl, rfl, rfl, hs, ⟨nl, al, ns, rs, hp, hn, tn, ha, tr⟩, W, l6, k0, mx, m1, m2, st0, st1, h⟩ := h
    have hnz : ns.length = N.length := by rw [tn.len, List.length_map]
    have hrz : rs.length = R.length := by rw [tr.len, List.length_map]
    have a1 := W.a1
    have n1 := W.n1
    walk_at "go"
    refine ⟨_, rfl, by omega, by omega, ?_⟩
    rw [hnz, Int.toNat_natCast]
    refine lc_fmR (mkF N) (by omega) (fun i hi H2 Nx S hNx => ?_) (fun sl H1 n1' S1 h1 => ?_)
    · obtain ⟨d, ed, gd⟩ := getD_at hi
      obtain ⟨b, eb, hb⟩ := (tn.same S).give ed
      have eb' := atI_of eb
      have e0 := at0 d
      have hn2 := S _ _ hn
      rw [Int.zero_add]
      unfold mkF at hNx
      rw [gd] at hNx
      walk_at "go"
      intro q2 H3 n3 S3 h3
      walk_at "go"
      rw [dz_makes]
      refine iteb (fun c => ?_) (fun c => ?_)
      · rw [if_pos c] at hNx
        walk_at "go"
        exact hNx _ S3
      · rw [if_neg (by rw [c]; exact Bool.false_ne_true)] at hNx
        walk_at "go"
        exact hNx _ S3
    have s1 := hs.same S1
    walk_at "go"
    refine c_pick s1 h1 (hs.ne n1') (mkF_pos n1 k0) (Nat.le_trans (List.length_filterMap_le _ _) (by rw [List.length_range]; omega)) (fun x H2 X2 s2 hx => ?_)
    obtain ⟨n, hnl, rfl, hmk⟩ := mkF_mem hx
    walk_at "go"
    intro p1 H3 n3 S3 h3
    walk_at "go"
    intro q H4 n4 S4 h4
    have X04 : Ex s H H4 := (Ex.of S1).trans (X2.trans (Ex.of (S3.trans S4)))
    have s4 := (s2.same S3).same S4
    have row0 : IsRow H4 q [(n, st)] := ⟨_, h4, .cons (S4 _ _ h3) .nil⟩
    obtain ⟨d0, ed0, gd0⟩ := getD_at hnl
    have ok0 : AgM.RowOk N R [(n, st)] := ⟨⟨n, st, [], d0, rfl, ed0, by rw [← gd0]; exact hmk⟩, trivial, fun x hx => by rw [List.mem_singleton.mp hx]; exact hnl⟩
    walk_at "go"
    refine c_draw s4 (by omega) (by omega) (fun dr H5 X5 s5 d0' d1' => ?_)
    obtain ⟨kk, rfl⟩ : ∃ k : Nat, dr = k := ⟨dr.toNat, by omega⟩
    walk_at "go"
    refine fo_range (n := kk) rfl (by omega) (fun i σ H6 => ∃ (a b c d e : Option V) (q : Addr) (rw0 : AgM.Row) (n : Nat) (t : Int), σ = [some (.ref s), some (.ref p), some (.int m), some (.int st), some (.int lg), some (.ref nl), some (.ref al), some (.ref sl), some (.ref q), a, b, c, d, e, none] ∧ Ex s H H6 ∧ Src H6 s ∧ IsRow H6 q (rw0 ++ [(n, t)]) ∧ AgM.RowOk N R (rw0 ++ [(n, t)]) ∧ (rw0 ++ [(n, t)]).length ≤ i + 1 ∧ ∀ x ∈ rw0 ++ [(n, t)], 0 ≤ x.2 ∧ x.2 ≤ 100 + 200000000 * (i : Int))
      ⟨_, _, _, _, _, q, [], n, st, rfl, X04.trans X5, s5, row0.kp (Src.kp s4 X5), ok0, Nat.le_refl _, fun x hx => by rw [List.mem_singleton.mp hx]; exact ⟨st0, by omega⟩⟩ (fun i σ H6 hi hP => ?_) (fun σ H6 hP => ?_)
    · obtain ⟨a, b, c, d, e, q, rw0, n, t, rfl, X6, s6, ⟨vs, hq, tq⟩, O, lw, bd⟩ := hP
      have k6 := Src.kp hs X6
      have ha6 := k6 _ _ tr.sk ha
      have tr6 := k6.tups tr
      rw [List.map_append] at tq
      obtain ⟨ws, b0, rfl, tq0, hb0⟩ := Tups.end_ tq
      have tq1 := tq
      have elast : atI (ws ++ [V.ref b0]) (-1) = some (.ref b0) := atI_last
      have hb0 : H6 b0 = some (.tup [.int (n : Nat), .int t]) := hb0
      walk_at "go"
      refine ⟨_, rfl, ⟨_, sql ha6⟩, lc_filT R av (fun o => decide (o.s = n)) ha6 tr6 (by omega) (fun o b ho hb H7 Nx S hNx => ?_) (fun D ys H7 nD S7 hD tD => ?_)⟩
      · have hq7 := S _ _ hq
        have hb07 := S _ _ hb0
        have e1 : decide ((o.s : Int) = n) = decide (o.s = n) := by
          by_cases c : o.s = n
          · rw [decide_eq_true c, decide_eq_true (by omega)]
          · rw [decide_eq_false c, decide_eq_false (by omega)]
        walk_at "go"
        rw [e1]
        refine iteb (fun c => ?_) (fun c => ?_)
        · rw [if_pos c] at hNx
          walk_at "go"
          exact hNx _ (Same.refl _)
        · rw [if_neg (by rw [c]; exact Bool.false_ne_true)] at hNx
          walk_at "go"
          exact hNx _ (Same.refl _)
      have s7 := s6.same S7
      have hq7 := S7 _ _ hq
      have hb07 := S7 _ _ hb0
      have skip : ∀ HY, Ex s H6 HY → Src HY s → (Ex s H HY ∧ Src HY s ∧ IsRow HY q (rw0 ++ [(n, t)]) ∧ AgM.RowOk N R (rw0 ++ [(n, t)]) ∧ (rw0 ++ [(n, t)]).length ≤ i + 1 + 1 ∧ ∀ x ∈ rw0 ++ [(n, t)], 0 ≤ x.2 ∧ x.2 ≤ 100 + 200000000 * ((i + 1 : Nat) : Int)) := fun HY XY sY =>
        ⟨X6.trans XY, sY, IsRow.kp (Src.kp s6 XY) ⟨_, hq, by rw [List.map_append]; exact tq1⟩, O, by omega, fun x hx => ⟨(bd x hx).1, by have := (bd x hx).2; omega⟩⟩
      walk_at "go"
      intro z H8 n8 S8 h8
      have s8 := s7.same S8
      have hD8 := S8 _ _ hD
      have tD8 := tD.same S8
      refine rd_neTL0 h8 hD8 tD8 (fun ys hy => by obtain ⟨r2, _, rfl⟩ := List.mem_map.mp hy; exact av_pl r2) ?_
      walk_at "go"
      refine itedn (fun c => ?_) (fun c => ?_)
      · have yl : ys.length ≤ 1000 := by
          have e := tD.len
          rw [List.length_map] at e
          have := List.length_filter_le (fun o : Arr => decide (o.s = n)) R
          omega
        have yp : 1 ≤ ys.length := by
          cases ys with
          | nil => exact absurd rfl c
          | cons _ _ => exact Nat.succ_pos _
        walk_at "go"
        refine c_pick s8 hD8 (s6.ne nD) yp yl (fun x H9 X9 s9 hx => ?_)
        obtain ⟨ix, hix, eix⟩ := List.getElem_of_mem hx
        obtain ⟨b, r, rfl, er, hb⟩ := tD8.got (i := ix) (v := x) (by rw [List.getElem?_eq_getElem hix, eix])
        obtain ⟨hr1, hr2⟩ := List.mem_filter.mp (List.mem_of_getElem? er)
        have hrs : r.s = n := of_decide_eq_true hr2
        obtain ⟨o1, o2, o3, o4, o5, o6⟩ := W.ar r hr1
        have omx := mx r hr1
        have k9 := Src.kp s8 X9
        have hb9 := k9 _ _ rfl hb
        have hq9 := k9 _ _ rfl (S8 _ _ hq7)
        have hb09 := k9 _ _ rfl (S8 _ _ hb07)
        walk_at "go"
        refine c_draw s9 (by omega) (by omega) (fun dd H10 X10 s10 e0 e1 => ?_)
        walk_at "go"
        intro lq H11 n11 S11 h11
        have s11 := s10.same S11
        have nlq := s10.ne n11
        walk_at "go"
        refine c_draw s11 (by decide) (by decide) (fun j H12 X12 s12 f0 f1 => ?_)
        have h12 := X12 _ _ nlq h11
        obtain ⟨tm, etm, tm1, tm2⟩ : ∃ tm : Int, atI [V.int r.l, V.int r.m, V.int (r.l + dd)] j = some (.int tm) ∧ r.l ≤ tm ∧ tm ≤ r.m := by
          have : j = 0 ∨ j = 1 ∨ j = 2 := by omega
          rcases this with rfl | rfl | rfl
          · exact ⟨r.l, rfl, by omega, by omega⟩
          · exact ⟨r.m, rfl, by omega, by omega⟩
          · exact ⟨r.l + dd, rfl, by omega, by omega⟩
        have X912 : Ex s H9 H12 := X10.trans ((Ex.of S11).trans X12)
        have k12 := Src.kp s9 X912
        have hb12 := k12 _ _ rfl hb9
        have hq12 := k12 _ _ rfl hq9
        have hb012 := k12 _ _ rfl hb09
        walk_at "go"
        intro t1 H13 n13 S13 h13
        walk_at "go"
        intro t2 H14 n14 S14 h14
        have S1214 := S13.trans S14
        refine rd_catT (sqt (S1214 _ _ hq12)) (sqt h14) (by rw [List.length_append]; have := tq1.len; simp only [List.length_append, List.length_map, List.length_singleton] at this lw ⊢; omega) (fun z => by simp at z) (fun z => nomatch z) (fun q' H15 n15 S15 h15 => ?_)
        have X615 : Ex s H6 H15 := (Ex.of (S7.trans S8)).trans (X9.trans (X912.trans (Ex.of (S1214.trans S15))))
        have bn := bd (n, t) (List.mem_append.mpr (.inr List.mem_cons_self))
        have bn1 : 0 ≤ t := bn.1
        have bn2 : t ≤ 100 + 200000000 * (i : Int) := bn.2
        walk_at "go"
        refine ⟨_, _, _, _, _, q', rw0 ++ [(n, t)], r.g, t + tm, rfl, X6.trans X615, s12.same (S1214.trans S15), ⟨_, h15, ?_⟩, ⟨?_, ?_, fun x hx => ?_⟩, by rw [List.length_append]; show (rw0 ++ [(n, t)]).length + 1 ≤ i + 1 + 1; omega, fun x hx => ?_⟩
        · rw [List.map_append]
          have k15 := Src.kp s6 X615
          refine Tups.snoc ?_ (S15 _ _ (S14 _ _ h13))
          rw [List.map_append]
          exact k15.tups tq1
        · obtain ⟨na, ta, ra, da, ea, hda, hma⟩ := O.ne
          exact ⟨na, ta, ra ++ [(r.g, t + tm)], da, by rw [ea]; rfl, hda, hma⟩
        · exact AgM.Leads.snoc O.ld ⟨r, hr1, hrs, rfl, by omega, by omega⟩
        · rcases List.mem_append.mp hx with z | z
          · exact O.nd x z
          · rw [List.mem_singleton.mp z]; exact o2
        · rcases List.mem_append.mp hx with z | z
          · have := bd x z
            exact ⟨this.1, by have := this.2; omega⟩
          · rw [List.mem_singleton.mp z]
            exact ⟨by show 0 ≤ t + tm; omega, by show t + tm ≤ _; omega⟩
      · walk_at "go"
        exact ⟨_, _, _, _, _, q, rw0, n, t, rfl, skip _ (Ex.of (S7.trans S8)) s8⟩
    obtain ⟨a, b, c, d, e, q, rw0, n, t, rfl, X6, s6, hrow, O, lw, bd⟩ := hP
    walk_at "go"
    refine h q (rw0 ++ [(n, t)]) H6 X6 s6 hrow ⟨O, fun x hx => ?_, by omega⟩ (fun x hx => ?_)
    · have := bd x hx
      exact ⟨by omega, by omega⟩
    · have := bd x hx
      exact ⟨by omega, by omega⟩
  exact ⟨_, T.glo 55, F.2, F.1⟩
theorem c_looks {H : Hp} {Q : VK} {E : XK} {s : Addr} (hs : Src H s) (q : ∀ p l H', Ex s H H' → Src H' s → H' p = some (.tup (lv l)) → l ∈ looksAll → Q (.ref p) H') : sp_law_looks [.ref s] H Q E := ⟨_, rfl, s, rfl, hs, q⟩
theorem pair_at {a b : Int} {j : Int} (h0 : 0 ≤ j) (h1 : j < 2) : atI [V.int a, V.int b] j = some (.int (if j = 0 then a else b)) := by
  have : j = 0 ∨ j = 1 := by omega
  rcases this with rfl | rfl <;> rfl
def sp_law_parts : Sp := sp3 fun source most grains H Q => ∃ (s : Addr) (m g : Int), source = .ref s ∧ most = .int m ∧ grains = .int g ∧ Src H s ∧ 1 ≤ m ∧ m ≤ 1000 ∧ 1 ≤ g ∧ g ≤ 1000 ∧ ∀ pd b lo per H', Ex s H H' → Src H' s → H' pd = some (.dK (bkd b lo per)) → H' lo = some (.tup (lv b.looks)) → BOk b per → b.late ≤ 3 → Q (.ref pd) H'
theorem sc_law_parts : FnScope n_law_parts p_law_parts d_law_parts.scope := ⟨rfl, rfl, rfl, by decide +kernel, rfl, by decide +kernel, by decide +kernel⟩
theorem ok_law_parts (T : Tx K mg) : GF P w K mg base "_law_parts" 4 sp_law_parts := by
  have F := mkR (P := P) (w := w) (base := base) T 98 (d := d_law_parts) rfl rfl sc_law_parts (fun _ _ _ _ _ _ us hl => match us, hl with | [_, _, _], _ => rfl) len3 (k := 3) (sp := sp_law_parts) fun cdv A outer s H vs Q E hr h => by
    obtain ⟨source, most, grains, rfl, h⟩ := h
    refine ⟨_, (pss_cons (ps_set (i := 3) sc_law_parts.nd rfl (Or.inl rfl) (pe_disp (pps_cons pe_str (pe_gf (ok_law_draw (K := K) T) hr (pa_cons (pv 0) (pa_cons (pv 1) pa_nil))) (pps_cons pe_str (pe_gf (ok_law_looks (K := K) T) hr (pa_cons (pv 0) pa_nil)) pps_nil)) (by rfl) (by rfl) (fun z => by cases z) (by decide)))
      (pss_cons (ps_dput (hu_of hr) (pv 3) pe_str (pe_gf (ok_law_pick (K := K) T) hr (pa_cons (pv 0) (pa_cons (pe_lst (pa_cons pe_str (pa_cons pe_str pa_nil))) pa_nil))) (by rfl))
      (pss_cons (ps_dput (hu_of hr) (pv 3) pe_str (pe_ix (jx_list (K := K)) (pe_lst (pa_cons pe_int (pa_cons (pe_op op_add pe_int (pe_gf (ok_law_draw (K := K) T) hr (pa_cons (pv 0) (pa_cons pe_int pa_nil)))) pa_nil))) (pe_gf (ok_law_draw (K := K) T) hr (pa_cons (pv 0) (pa_cons pe_int pa_nil))) (fun _ _ => rfl)) (by rfl))
      (pss_cons (ps_dput (hu_of hr) (pv 3) pe_str (pe_ix (jx_list (K := K)) (pe_lst (pa_cons pe_int (pa_cons (pe_op op_add pe_int (pe_gf (ok_law_draw (K := K) T) hr (pa_cons (pv 0) (pa_cons (pv 2) pa_nil)))) pa_nil))) (pe_gf (ok_law_draw (K := K) T) hr (pa_cons (pv 0) (pa_cons pe_int pa_nil))) (fun _ _ => rfl)) (by rfl))
      (pss_cons (ps_dput (hu_of hr) (pv 3) pe_str (pe_cmpR op_eq (pe_gf (ok_law_draw (K := K) T) hr (pa_cons (pv 0) (pa_cons pe_int pa_nil))) pe_int (nomark _)) (by rfl))
      (pss_cons (ps_dput (hu_of hr) (pv 3) pe_str (pe_ix (jx_list (K := K)) (pe_lst (pa_cons pe_int (pa_cons (pe_gf (ok_law_draw (K := K) T) hr (pa_cons (pv 0) (pa_cons pe_int pa_nil))) pa_nil))) (pe_gf (ok_law_draw (K := K) T) hr (pa_cons (pv 0) (pa_cons pe_int pa_nil))) (fun _ _ => rfl)) (by rfl))
      (pss_cons (ps_dput (hu_of hr) (pv 3) pe_str (pe_cmpR op_eq (pe_gf (ok_law_draw (K := K) T) hr (pa_cons (pv 0) (pa_cons pe_int pa_nil))) pe_int (nomark _)) (by rfl))
      (pss_cons (ps_dput (hu_of hr) (pv 3) pe_str (pe_op op_add pe_int (pe_gf (ok_law_draw (K := K) T) hr (pa_cons (pv 0) (pa_cons pe_int pa_nil)))) (by rfl))
      (pss_one (ps_ret (pv 3))))))))))), ?_⟩
    obtain ⟨s, m, g, rfl, rfl, rfl, hs, m1, m2, g1, g2, h⟩ := h
    walk_at "go"
    intro pd H1 n1 S1 h1
    have s1 := hs.same S1
    have nps : pd ≠ s := hs.ne n1
    walk_at "go"
    refine c_draw s1 m1 (by omega) (fun bd H2 X2 s2 b0 b1 => ?_)
    walk_at "go"
    refine c_looks s2 (fun lo l H3 X3 s3 hlo hl => ?_)
    have h3 := X3 _ _ nps (X2 _ _ nps h1)
    walk_at "go"
    intro H4 X4 h4
    have X04 : Ex s H H4 := fun c o nc e => X4 _ _ (ne_of_none e n1) (X3 _ _ nc (X2 _ _ nc (S1 _ _ e)))
    have s4 := s3.ex X4 nps
    have k4 : Kp H3 H4 := Kp.ex X4 h3 rfl
    have hlo4 := k4 _ _ rfl hlo
    have h4 : H4 pd = some (.dK [(Sum.inr "bound", .int bd), (Sum.inr "looks", .ref lo)]) := h4
    walk_at "go"
    intro q H5 n5 S5 h5
    have s5 := s4.same S5
    refine c_pick s5 h5 (s4.ne n5) (Nat.le_of_ble_eq_true rfl) (Nat.le_of_ble_eq_true rfl) (fun x H6 X6 s6 hx => ?_)
    obtain ⟨ab, rfl⟩ : ∃ ab : Bool, x = .str (hz ab) := by
      simp only [List.mem_cons, List.not_mem_nil, or_false] at hx
      rcases hx with rfl | rfl
      · exact ⟨true, rfl⟩
      · exact ⟨false, rfl⟩
    have h6 := X6 _ _ nps (S5 _ _ h4)
    walk_at "go"
    refine rd_putS h6 (Nat.le_of_ble_eq_true rfl) (fun H7 X7 h7 => ?_)
    have s7 := s6.ex X7 nps
    have k7 : Kp H4 H7 := (Kp.of S5).trans ((Src.kp s5 X6).trans (Kp.ex X7 h6 rfl))
    have h7 : H7 pd = some (.dK [(Sum.inr "bound", .int bd), (Sum.inr "looks", .ref lo), (Sum.inr "how", .str (hz ab))]) := h7
    have X07 : Ex s H H7 := fun c o nc e => X7 _ _ (ne_of_none e n1) (X6 _ _ nc (S5 _ _ (X04 _ _ nc e)))
    walk_at "go"
    refine c_draw s7 (by decide) (by decide) (fun d1 H8 X8 s8 d10 d11 => ?_)
    walk_at "go"
    intro q2 H9 n9 S9 h9
    have s9 := s8.same S9
    walk_at "go"
    refine c_draw s9 (by decide) (by decide) (fun j H10 X10 s10 j0 j1 => ?_)
    have h10q := X10 _ _ (s8.ne n9) h9
    have h10 := X10 _ _ nps (S9 _ _ (X8 _ _ nps h7))
    have ea1 := pair_at (a := 1) (b := 1 + d1) j0 j1
    walk_at "go"
    refine rd_putS h10 (Nat.le_of_ble_eq_true rfl) (fun H11 X11 h11 => ?_)
    obtain ⟨dy, edy, dy1, dy2⟩ : ∃ dy : Int, (if j = 0 then (1 : Int) else 1 + d1) = dy ∧ 1 ≤ dy ∧ dy ≤ 1000 := ⟨_, rfl, by split <;> omega, by split <;> omega⟩
    rw [edy] at h11
    have s11 := s10.ex X11 nps
    have k11 : Kp H7 H11 := (Src.kp s7 X8).trans ((Kp.of S9).trans ((Src.kp s9 X10).trans (Kp.ex X11 h10 rfl)))
    have h11 : H11 pd = some (.dK [(Sum.inr "bound", .int bd), (Sum.inr "looks", .ref lo), (Sum.inr "how", .str (hz ab)), (Sum.inr "day", .int dy)]) := h11
    have X011 : Ex s H H11 := fun c o nc e => X11 _ _ (ne_of_none e n1) (X10 _ _ nc (S9 _ _ (X8 _ _ nc (X07 _ _ nc e))))
    walk_at "go"
    refine c_draw s11 g1 (by omega) (fun d2 H12 X12 s12 d20 d21 => ?_)
    walk_at "go"
    intro q3 H13 n13 S13 h13
    have s13 := s12.same S13
    walk_at "go"
    refine c_draw s13 (by decide) (by decide) (fun j2 H14 X14 s14 j20 j21 => ?_)
    have h14q := X14 _ _ (s12.ne n13) h13
    have h14 := X14 _ _ nps (S13 _ _ (X12 _ _ nps h11))
    have ea2 := pair_at (a := 1) (b := 1 + d2) j20 j21
    walk_at "go"
    refine rd_putS h14 (Nat.le_of_ble_eq_true rfl) (fun H15 X15 h15 => ?_)
    obtain ⟨gr, egr, gr1, gr2⟩ : ∃ gr : Int, (if j2 = 0 then (1 : Int) else 1 + d2) = gr ∧ 1 ≤ gr ∧ gr ≤ 10000 := ⟨_, rfl, by split <;> omega, by split <;> omega⟩
    rw [egr] at h15
    have s15 := s14.ex X15 nps
    have k15 : Kp H11 H15 := (Src.kp s11 X12).trans ((Kp.of S13).trans ((Src.kp s13 X14).trans (Kp.ex X15 h14 rfl)))
    have h15 : H15 pd = some (.dK [(Sum.inr "bound", .int bd), (Sum.inr "looks", .ref lo), (Sum.inr "how", .str (hz ab)), (Sum.inr "day", .int dy), (Sum.inr "grain", .int gr)]) := h15
    have X015 : Ex s H H15 := fun c o nc e => X15 _ _ (ne_of_none e n1) (X14 _ _ nc (S13 _ _ (X12 _ _ nc (X011 _ _ nc e))))
    walk_at "go"
    refine c_draw s15 (by decide) (by decide) (fun d3 H16 X16 s16 d30 d31 => ?_)
    have h16 := X16 _ _ nps h15
    walk_at "go"
    refine rd_putS h16 (Nat.le_of_ble_eq_true rfl) (fun H17 X17 h17 => ?_)
    generalize decide (d3 = 0) = sp at *
    have s17 := s16.ex X17 nps
    have k17 : Kp H15 H17 := (Src.kp s15 X16).trans (Kp.ex X17 h16 rfl)
    have h17 : H17 pd = some (.dK [(Sum.inr "bound", .int bd), (Sum.inr "looks", .ref lo), (Sum.inr "how", .str (hz ab)), (Sum.inr "day", .int dy), (Sum.inr "grain", .int gr), (Sum.inr "spares", .bl sp)]) := h17
    have X017 : Ex s H H17 := fun c o nc e => X17 _ _ (ne_of_none e n1) (X16 _ _ nc (X015 _ _ nc e))
    walk_at "go"
    refine c_draw s17 (by decide) (by decide) (fun d4 H18 X18 s18 d40 d41 => ?_)
    walk_at "go"
    intro q4 H19 n19 S19 h19
    have s19 := s18.same S19
    walk_at "go"
    refine c_draw s19 (by decide) (by decide) (fun j3 H20 X20 s20 j30 j31 => ?_)
    have h20q := X20 _ _ (s18.ne n19) h19
    have h20 := X20 _ _ nps (S19 _ _ (X18 _ _ nps h17))
    have ea3 := pair_at (a := 0) (b := d4) j30 j31
    walk_at "go"
    refine rd_putS h20 (Nat.le_of_ble_eq_true rfl) (fun H21 X21 h21 => ?_)
    obtain ⟨la, ela, la1, la2⟩ : ∃ la : Int, (if j3 = 0 then (0 : Int) else d4) = la ∧ 0 ≤ la ∧ la ≤ 3 := ⟨_, rfl, by split <;> omega, by split <;> omega⟩
    rw [ela] at h21
    have s21 := s20.ex X21 nps
    have k21 : Kp H17 H21 := (Src.kp s17 X18).trans ((Kp.of S19).trans ((Src.kp s19 X20).trans (Kp.ex X21 h20 rfl)))
    have h21 : H21 pd = some (.dK [(Sum.inr "bound", .int bd), (Sum.inr "looks", .ref lo), (Sum.inr "how", .str (hz ab)), (Sum.inr "day", .int dy), (Sum.inr "grain", .int gr), (Sum.inr "spares", .bl sp), (Sum.inr "late", .int la)]) := h21
    have X021 : Ex s H H21 := fun c o nc e => X21 _ _ (ne_of_none e n1) (X20 _ _ nc (S19 _ _ (X18 _ _ nc (X017 _ _ nc e))))
    walk_at "go"
    refine c_draw s21 (by decide) (by decide) (fun d5 H22 X22 s22 d50 d51 => ?_)
    have h22 := X22 _ _ nps h21
    walk_at "go"
    refine rd_putS h22 (Nat.le_of_ble_eq_true rfl) (fun H23 X23 h23 => ?_)
    generalize decide (d5 = 0) = ag at *
    have s23 := s22.ex X23 nps
    have k23 : Kp H21 H23 := (Src.kp s21 X22).trans (Kp.ex X23 h22 rfl)
    have h23 : H23 pd = some (.dK [(Sum.inr "bound", .int bd), (Sum.inr "looks", .ref lo), (Sum.inr "how", .str (hz ab)), (Sum.inr "day", .int dy), (Sum.inr "grain", .int gr), (Sum.inr "spares", .bl sp), (Sum.inr "late", .int la), (Sum.inr "again", .bl ag)]) := h23
    have X023 : Ex s H H23 := fun c o nc e => X23 _ _ (ne_of_none e n1) (X22 _ _ nc (X021 _ _ nc e))
    walk_at "go"
    refine c_draw s23 (by decide) (by decide) (fun d6 H24 X24 s24 d60 d61 => ?_)
    have h24 := X24 _ _ nps h23
    walk_at "go"
    refine rd_putS h24 (Nat.le_of_ble_eq_true rfl) (fun H25 X25 h25 => ?_)
    have s25 := s24.ex X25 nps
    have k25 : Kp H23 H25 := (Src.kp s23 X24).trans (Kp.ex X25 h24 rfl)
    have X025 : Ex s H H25 := fun c o nc e => X25 _ _ (ne_of_none e n1) (X24 _ _ nc (X023 _ _ nc e))
    have kk : Kp H4 H25 := k7.trans (k11.trans (k15.trans (k17.trans (k21.trans (k23.trans k25)))))
    walk_at "go"
    exact h pd ⟨bd, l, ab, dy, gr, sp, la, ag⟩ lo (1 + d6) H25 X025 s25 h25 (kk _ _ rfl hlo4) ⟨b0, by show bd ≤ _; omega, hl, dy1, by show dy ≤ _; omega, gr1, by show gr ≤ _; omega, la1, by show la ≤ _; omega, by omega, by omega⟩ la2
  exact ⟨_, T.glo 57, F.2, F.1⟩
theorem c_change {K : PySem.W.Frag} {H : Hp} {Q : VK} {E : XK} {a lo pp : Addr} {b : Bk} {per : Int} {z : Str} {v : V} (w : IsB K H a b lo pp per) (hv : PV K H z v) (q : ∀ H', Ex pp H H' → H' pp = some (.dK (putK (bkd b lo per) (Sum.inr z) v)) → Q .non H') : sp_Book_change K [.ref a, .str z, v] H Q E := ⟨_, _, _, rfl, a, lo, pp, b, per, z, rfl, rfl, w, hv, q⟩
theorem IsB.chg {K : PySem.W.Frag} {H H' : Hp} {a lo pp : Addr} {b b' : Bk} {per per' : Int} (w : IsB K H a b lo pp per) (X : Ex pp H H') (e : H' pp = some (.dK (bkd b' lo per'))) (l : b'.looks = b.looks) : IsB K H' a b' lo pp per' := by
  obtain ⟨dx, h1, h2, h3⟩ := w
  refine ⟨dx, X _ _ (ne_of h1 h2 (by intro z; cases z)) h1, e, ?_⟩
  rw [l]
  exact X _ _ (ne_of h3 h2 (by intro z; cases z)) h3
def sp_law_book (K : PySem.W.Frag) : Sp := sp1 fun parts H Q => ∃ (pd lo : Addr) (b : Bk) (per : Int), parts = .ref pd ∧ H pd = some (.dK (bkd b lo per)) ∧ H lo = some (.tup (lv b.looks)) ∧ BOk b per ∧ ∀ c pp H', Same H H' → IsB K H' c b lo pp per → Q (.ref c) H'
theorem sc_law_book : FnScope n_law_book p_law_book d_law_book.scope := ⟨rfl, rfl, rfl, by decide +kernel, rfl, by decide +kernel, by decide +kernel⟩
theorem ok_law_book (T : Tx K mg) : GF P w K mg base "_law_book" 8 (sp_law_book K) := by
  have F := mkR (P := P) (w := w) (base := base) T 99 (d := d_law_book) rfl rfl sc_law_book (fun _ _ _ _ _ _ us hl => match us, hl with | [_], _ => rfl) len1 (k := 7) (sp := (sp_law_book K)) fun cdv A outer s H vs Q E hr h => by
    obtain ⟨parts, rfl, h⟩ := h
    refine ⟨_, (pss_cons (ps_set (i := 1) sc_law_book.nd rfl (Or.inl rfl) (pe_gck (ok_Book_init (K := K) T) hr (pk_cons (pe_dget (hu_of hr) (pv 0) pe_str (fun _ _ => rfl)) (pk_cons (pe_dget (hu_of hr) (pv 0) pe_str (fun _ _ => rfl)) (pk_cons (pe_dget (hu_of hr) (pv 0) pe_str (fun _ _ => rfl)) (pk_cons (pe_dget (hu_of hr) (pv 0) pe_str (fun _ _ => rfl)) (pk_cons (pe_dget (hu_of hr) (pv 0) pe_str (fun _ _ => rfl)) pk_nil)))))))
      (pss_cons (ps_expr (pe_gm (pv 1) (T.cls 153) (ok_Book_change (K := K) T) hr (pa_cons pe_str (pa_cons (pe_dget (hu_of hr) (pv 0) pe_str (fun _ _ => rfl)) pa_nil))))
      (pss_cons (ps_expr (pe_gm (pv 1) (T.cls 153) (ok_Book_change (K := K) T) hr (pa_cons pe_str (pa_cons (pe_dget (hu_of hr) (pv 0) pe_str (fun _ _ => rfl)) pa_nil))))
      (pss_cons (ps_expr (pe_gm (pv 1) (T.cls 153) (ok_Book_change (K := K) T) hr (pa_cons pe_str (pa_cons (pe_dget (hu_of hr) (pv 0) pe_str (fun _ _ => rfl)) pa_nil))))
      (pss_cons (ps_expr (pe_gm (pv 1) (T.cls 153) (ok_Book_change (K := K) T) hr (pa_cons pe_str (pa_cons (pe_dget (hu_of hr) (pv 0) pe_str (fun _ _ => rfl)) pa_nil))))
      (pss_one (ps_ret (pv 1)))))))), ?_⟩
    obtain ⟨pd, lo, b, per, rfl, hpd, hlo, o, h⟩ := h
    walk_at "go"
    intro x dx n1 n2 ne
    obtain ⟨H1, eH1⟩ : ∃ H1, H1 = upd (upd H dx (.own x)) x (.ins (He.ga K "Book") dx []) := ⟨_, rfl⟩
    rw [← eH1]
    have S1 : Same H H1 := fun b o e => by rw [eH1, upd_ne (ne_of_none e n1), upd_ne (ne_of_none e n2)]; exact e
    have h1 : H1 x = some (.ins (He.ga K "Book") dx []) := by rw [eH1]; exact upd_same
    have o0 : BOk { b with spares := false, late := 0, again := true } 1 := ⟨o.b0, o.b1, o.lk, o.d1, o.d2, o.g1, o.g2, Int.le_refl 0, (by decide : (0 : Int) ≤ 1000000000), by decide, by decide⟩
    refine ⟨_, _, _, _, _, _, _, _, _, _, rfl, x, dx, lo, { b with spares := false, late := 0, again := true }, 1, rfl, rfl, rfl, rfl, rfl, rfl, rfl, rfl, rfl, rfl, h1, S1 _ _ hlo, o0, fun pp H2 X2 np w => ⟨rfl, ?_⟩⟩
    have S2 : Same H H2 := Ex.same n1 S1 X2
    have np0 : H pp = none := S1.free np
    have hpd2 := S2 _ _ hpd
    walk_at "go"
    refine c_change w .spares (fun H3 X3 h3 => ?_)
    have S3 : Same H H3 := Ex.same np0 S2 X3
    have w3 : IsB K H3 x { b with late := 0, again := true } lo pp 1 := w.chg X3 h3 rfl
    have hpd3 := S3 _ _ hpd
    walk_at "go"
    refine c_change w3 (.late o.l1 o.l2) (fun H4 X4 h4 => ?_)
    have S4 : Same H H4 := Ex.same np0 S3 X4
    have w4 : IsB K H4 x { b with again := true } lo pp 1 := w3.chg X4 h4 rfl
    have hpd4 := S4 _ _ hpd
    walk_at "go"
    refine c_change w4 .again (fun H5 X5 h5 => ?_)
    have S5 : Same H H5 := Ex.same np0 S4 X5
    have w5 : IsB K H5 x b lo pp 1 := w4.chg X5 h5 rfl
    have hpd5 := S5 _ _ hpd
    walk_at "go"
    refine c_change w5 (.period o.p1 o.p2) (fun H6 X6 h6 => ?_)
    have S6 : Same H H6 := Ex.same np0 S5 X6
    have w6 : IsB K H6 x b lo pp per := w5.chg X6 h6 rfl
    walk_at "go"
    exact h x pp H6 S6 w6
  exact ⟨_, T.glo 58, F.2, F.1⟩
def wordAt (a b : Nat) (o : Arr) : Option V := if hit a b o = true then some (.str (wz o.w)) else none
theorem one_fm {N : List Deed} {R : List Arr} (W : WOk N R) {r : Arr} (h : r ∈ R) : R.filterMap (wordAt r.s r.g) = [.str (wz r.w)] := by
  obtain ⟨i, hi, ei⟩ := List.getElem_of_mem h
  have ei' : R[i]? = some r := by rw [List.getElem?_eq_getElem hi, ei]
  have no : ∀ j x, R[j]? = some x → j ≠ i → wordAt r.s r.g x = none := fun j x hj ne => by
    unfold wordAt
    rw [if_neg]
    intro z
    unfold hit at z
    rw [Bool.and_eq_true] at z
    exact ne (W.di j i x r hj ei' (of_decide_eq_true z.1) (of_decide_eq_true z.2))
  have e : R = R.take i ++ r :: R.drop (i + 1) := by
    rw [← ei, List.getElem_cons_drop, List.take_append_drop]
  have h1 : (R.take i).filterMap (wordAt r.s r.g) = [] := by
    rw [List.filterMap_eq_nil_iff]
    intro x hx
    obtain ⟨j, hj, ej⟩ := List.getElem_of_mem hx
    rw [List.length_take] at hj
    rw [List.getElem_take] at ej
    exact no j x (by rw [List.getElem?_eq_getElem (by omega), ej]) (by omega)
  have h2 : (R.drop (i + 1)).filterMap (wordAt r.s r.g) = [] := by
    rw [List.filterMap_eq_nil_iff]
    intro x hx
    obtain ⟨j, hj, ej⟩ := List.getElem_of_mem hx
    rw [List.length_drop] at hj
    rw [List.getElem_drop] at ej
    exact no (i + 1 + j) x (by rw [List.getElem?_eq_getElem (by omega), ej]) (by omega)
  have h3 : wordAt r.s r.g r = some (.str (wz r.w)) := by
    unfold wordAt hit
    rw [if_pos (by simp)]
  rw [e, List.filterMap_append, h1, List.filterMap_cons, h3]
  show [] ++ (V.str (wz r.w) :: (R.drop (i + 1)).filterMap (wordAt r.s r.g)) = _
  rw [h2]
  rfl
theorem word_pl {a b : Nat} {R : List Arr} : (R.filterMap (wordAt a b)).all plV = true := by
  rw [List.all_eq_true]
  intro x hx
  obtain ⟨o, _, e⟩ := List.mem_filterMap.mp hx
  unfold wordAt at e
  split at e
  · cases e
    exact wz_pl o.w
  · cases e
def sp_law_in_use : Sp := sp3 fun plan row at_ H Q => ∃ (p q : Addr) (N : List Deed) (R : List Arr) (rw : AgM.Row) (t : Int), plan = .ref p ∧ row = .ref q ∧ at_ = .int t ∧ IsPlan H p N R ∧ WOk N R ∧ IsRow H q rw ∧ RwOk N R rw ∧ ∀ r H', Same H H' → (r = true → within R rw t [.plain, .held] = true) → Q (.bl r) H'
theorem sc_law_in_use : FnScope n_law_in_use p_law_in_use d_law_in_use.scope := ⟨rfl, rfl, rfl, by decide +kernel, rfl, by decide +kernel, by decide +kernel⟩
theorem ok_law_in_use (T : Tx K mg) : GF P w K mg base "_law_in_use" 1 sp_law_in_use := by
  have F := mkR (P := P) (w := w) (base := base) T 100 (d := d_law_in_use) rfl rfl sc_law_in_use (fun _ _ _ _ _ _ us hl => match us, hl with | [_, _, _], _ => rfl) len3 (k := 0) (sp := sp_law_in_use) fun cdv A outer s H vs Q E hr h => by
    obtain ⟨plan, row, at_, rfl, h⟩ := h
    refine ⟨_, (pss_cons (ps_set (i := 3) sc_law_in_use.nd rfl (Or.inr rfl) (pe_op op_sub (pe_cb (jc_ln (K := K)) (T.free 69) (pa_cons (pe_lc (own := [("step", 4)]) (g := gName 4) rfl sc_law_in_use.nd (ji_tup (K := K) (pv 1)) (blkOk_by (own := [("step", 4)]) (N := n_law_in_use) (sc := d_law_in_use.scope) (by decide +kernel)) (fun _ _ _ _ _ => pg_name (i := 4) sc_law_in_use.nd rfl (Or.inl rfl)) (fun _ _ _ _ _ => (pts_one (pt_cmpR op_le (pe_ix (jx_tup (K := K)) (pv 4) pe_int (fun _ _ => rfl)) (pv 2) (nomark _)))) (fun _ _ _ _ _ => (pv 4))) pa_nil)) pe_int))
      (pss_cons (ps_if (PW.pt (pw_or (pt_cmpR op_lt (pv 3) pe_int (nomark _)) (pw_or1 (pt_cmpR op_ge (pv 3) (pe_op op_sub (pe_cb (jc_ln (K := K)) (T.free 69) (pa_cons (pv 1) pa_nil)) pe_int) (nomark _))))) (pss_one (ps_ret pe_bl)) pss_nil)
      (pss_one (ps_ret (pe_cmpR (jo_neD (K := K) hr.units) (pe_lc (own := [("arrow", 5)]) (g := gName 5) rfl sc_law_in_use.nd (ji_list (K := K) (pe_ix (jx_tup (K := K)) (pv 0) pe_int (fun _ _ => rfl))) (blkOk_by (own := [("arrow", 5)]) (N := n_law_in_use) (sc := d_law_in_use.scope) (by decide +kernel)) (fun _ _ _ _ _ => pg_name (i := 5) sc_law_in_use.nd rfl (Or.inl rfl)) (fun _ _ _ _ _ => (pts_one (pt_cmpR (jo_eqD (K := K) hr.units) (pe_slice (js_tup (K := K)) (pv 5) po_none (po_some pe_int)) (pe_tup (pa_cons (pe_ix (jx_tup (K := K)) (pe_ix (jx_tup (K := K)) (pv 1) (pv 3) (fun _ _ => rfl)) pe_int (fun _ _ => rfl)) (pa_cons (pe_ix (jx_tup (K := K)) (pe_ix (jx_tup (K := K)) (pv 1) (pe_op op_add (pv 3) pe_int) (fun _ _ => rfl)) pe_int (fun _ _ => rfl)) pa_nil))) (nomark _)))) (fun _ _ _ _ _ => (pe_ix (jx_tup (K := K)) (pv 5) pe_int (fun _ _ => rfl)))) (pe_lst (pa_cons pe_str pa_nil)) (nomark _)))))), ?_⟩
    obtain ⟨p, q, N, R, rw, t, rfl, rfl, rfl, ⟨nl, al, ns, rs, hp, hn, tn, ha, tr⟩, W, ⟨vs, hq, tv⟩, O, h⟩ := h
    have hz : vs.length = rw.length := by rw [tv.len, List.length_map]
    have hl := O.ln
    have a1 := W.a1
    have hu := AgM.upTo_le rw t
    walk_at "go"
    refine ⟨_, rfl, ⟨_, sqt hq⟩, lc_fmt (fU H t) (sqt hq) (by omega) (fun x hx H2 Nx S hNx => ?_) (fun D H2 n2 S2 e2 => ?_)⟩
    · obtain ⟨i, hi, ei⟩ := List.getElem_of_mem hx
      obtain ⟨b, st, rfl, es, hb⟩ := tv.got (i := i) (v := x) (by rw [List.getElem?_eq_getElem hi, ei])
      have hb : H b = some (.tup [.int st.1, .int st.2]) := hb
      have hb2 := S _ _ hb
      walk_at "go"
      refine ited (fun c => ?_) (fun c => ?_)
      · walk_at "go"
        have e : fU H t (.ref b) = some (.ref b) := if_pos ⟨_, _, _, rfl, hb, c⟩
        rw [e] at hNx
        exact hNx _ (Same.refl _)
      · walk_at "go"
        have e : fU H t (.ref b) = none := if_neg fun ⟨b', n2, u2, e1, e2, e3⟩ => by
          cases e1
          rw [hb] at e2
          cases e2
          exact c e3
        rw [e] at hNx
        exact hNx _ (Same.refl _)
    have hq2 := S2 _ _ hq
    walk_at "go"
    rw [fU_len tv]
    by_cases c0 : AgM.upTo rw t = 0
    · refine iteDT (by omega) ?_
      walk_at "go"
      exact h false H2 S2 (fun z => nomatch z)
    refine iteDF (by omega) ?_
    walk_at "go"
    by_cases c1 : AgM.upTo rw t = rw.length
    · refine iteDT (by omega) ?_
      walk_at "go"
      exact h false H2 S2 (fun z => nomatch z)
    refine iteDF (by omega) ?_
    obtain ⟨⟨na, ta⟩, ea⟩ := AgM.get_some (l := rw) (n := AgM.upTo rw t - 1) (by omega)
    obtain ⟨⟨nb, tb⟩, eb⟩ := AgM.get_some (l := rw) (n := AgM.upTo rw t) (by omega)
    obtain ⟨r, f1, f2, f3, f4, f5, f6⟩ := arr_at W O.ok.ld (i := AgM.upTo rw t - 1) ea (by rw [show AgM.upTo rw t - 1 + 1 = AgM.upTo rw t by omega]; exact eb)
    have e : within R rw t [.plain, .held] = decide (r.w ∈ [Word.plain, .held]) := by
      unfold within
      rw [ea, eb]
      dsimp only
      rw [f1, decide_eq_true (by omega), Bool.true_and]
    have hp2 := S2 _ _ hp
    have ha2 := S2 _ _ ha
    have tr2 := tr.same S2
    walk_at "go"
    refine ⟨_, rfl, ⟨_, sql ha2⟩, lc_fmT R av (wordAt na nb) ha2 tr2 (by omega) (fun x b hx hb H3 Nx S hNx => ?_) (fun D2 H3 n3 S3 h3 => ?_)⟩
    · have hb3 := S _ _ hb
      have SS := S2.trans S
      have hq3 := SS _ _ hq
      obtain ⟨xa, exa, hxa⟩ := (tv.same SS).give ea
      obtain ⟨xb, exb, hxb⟩ := (tv.same SS).give eb
      have exa' := atI_of exa
      have exb' := atI_of exb
      rw [show ((AgM.upTo rw t - 1 : Nat) : Int) = (AgM.upTo rw t : Int) - 1 by omega] at exa'
      rw [show ((AgM.upTo rw t : Nat) : Int) = (AgM.upTo rw t : Int) - 1 + 1 by omega] at exb'
      have hxa : H3 xa = some (.tup [.int (na : Nat), .int ta]) := hxa
      have hxb : H3 xb = some (.tup [.int (nb : Nat), .int tb]) := hxb
      walk_at "go"
      refine rd_slT (sqt hb3) cut2n (fun u H4 n4 S4 h4 => ?_)
      rw [cutav2] at h4
      have hq4 := S4 _ _ hq3
      have hxa4 := S4 _ _ hxa
      have hxb4 := S4 _ _ hxb
      have hb4 := S4 _ _ hb3
      walk_at "go"
      intro u2 H5 n5 S5 h5
      have hb5 := S5 _ _ hb4
      refine rd_eqT (S5 _ _ h4) h5 rfl rfl ?_
      have e1 : decide ([V.int x.s, V.int x.g] = [V.int na, V.int nb]) = hit na nb x := by
        unfold hit
        by_cases c : x.s = na
        · by_cases c2 : x.g = nb
          · rw [c, c2]
            simp
          · rw [decide_eq_false c2, Bool.and_false, decide_eq_false]
            intro z
            have := V.int.inj (List.cons.inj (List.cons.inj z).2).1
            omega
        · rw [decide_eq_false c, Bool.false_and, decide_eq_false]
          intro z
          have := V.int.inj (List.cons.inj z).1
          omega
      walk_at "go"
      rw [e1]
      refine iteb (fun c => ?_) (fun c => ?_)
      · rw [show wordAt na nb x = some (.str (wz x.w)) from if_pos c] at hNx
        walk_at "go"
        exact hNx _ (S4.trans S5)
      · rw [show wordAt na nb x = none from if_neg (by rw [c]; exact Bool.false_ne_true)] at hNx
        walk_at "go"
        exact hNx _ (S4.trans S5)
    walk_at "go"
    intro z H4 n4 S4 h4
    refine rd_neL (S4 _ _ h3) h4 word_pl (by decide +kernel) ?_
    refine h _ H4 (S2.trans (S3.trans S4)) (fun hr => ?_)
    rw [e]
    have one := one_fm W f2
    rw [f3, f4] at one
    rw [one] at hr
    cases er : r.w with
    | anew =>
      rw [er] at hr
      exact absurd hr (by decide +kernel)
    | plain => rfl
    | held => rfl
  exact ⟨_, T.glo 59, F.2, F.1⟩
set_option maxHeartbeats 4000000
/-! AgP: the plain law: bounds of the tables, nothing in use is deleted. -/
open PySem PySem.Spec PyProof.Rows L2 AgR AgT AgC AgI AgJ AgV AgE
open AgM hiding T sets passed b2i
/-! ### bounds -/
def LeA (f : List Age) (c : Int) : Prop := ∀ n x, f.getD n none = some x → x ≤ c
theorem LeA.mono {f : List Age} {c d : Int} (h : LeA f c) (le : c ≤ d) : LeA f d := fun n x e => Int.le_trans (h n x e) le
theorem fold_le {R : List Arr} {f : List Age} {c M : Int} (h : LeA f c) (hm : ∀ r ∈ R, r.m ≤ M) : ∀ (l : List Arr) (a : Age), (∀ r ∈ l, r ∈ R) → (∀ x, a = some x → x ≤ c + M) → ∀ x, l.foldl (AgM.arrStep f) a = some x → x ≤ c + M
  | [], a, _, ha, x, e => ha x e
  | r :: l, a, hl, ha, x, e => by
    refine fold_le h hm l (AgM.arrStep f a r) (fun y hy => hl y (List.mem_cons_of_mem _ hy)) (fun y ey => ?_) x e
    unfold AgM.arrStep at ey
    split at ey
    · exact ha y ey
    · split at ey
      · cases ex : f.getD r.s none with
        | none => rw [ex] at ey; cases ey
        | some z =>
          rw [ex] at ey
          have := h _ _ ex
          have := hm r (hl r List.mem_cons_self)
          have e2 : z + r.m = y := Option.some.inj ey
          omega
      · exact ha y ey
theorem arr_le {R : List Arr} {f : List Age} {c M : Int} (h : LeA f c) (hm : ∀ r ∈ R, r.m ≤ M) (hc : -1 ≤ c + M) (n : Nat) {x : Int} (e : AgM.arriving R f n = some x) : x ≤ c + M :=
  fold_le h hm _ (some (-1)) (fun r hr => (List.mem_filter.mp hr).1) (fun x e => by cases e; exact hc) x e
theorem relax_le {R : List Arr} {f : List Age} {c M : Int} (h : LeA f c) (hm : ∀ r ∈ R, r.m ≤ M) (hc : 0 ≤ c) (h0 : 0 ≤ M) (many t n : Nat) : LeA (AgM.relax R many t f n) (c + M) := by
  unfold AgM.relax
  split
  · intro k x e
    rw [AgM.getD_set] at e
    split at e
    · split at e
      · cases e
      · exact arr_le h hm (by omega) n e
    · have := h k x e
      omega
  · exact h.mono (by omega)
theorem relaxs_le {R : List Arr} {M : Int} (hm : ∀ r ∈ R, r.m ≤ M) (h0 : 0 ≤ M) (many t : Nat) : ∀ (l : List Nat) (f : List Age) (c : Int), LeA f c → 0 ≤ c → LeA (l.foldl (AgM.relax R many t) f) (c + M * l.length)
  | [], f, c, h, hc => h.mono (by simp)
  | n :: l, f, c, h, hc => by
    have := relaxs_le hm h0 many t l _ (c + M) (relax_le h hm hc h0 many t n) (by omega)
    refine this.mono ?_
    rw [List.length_cons, Int.natCast_add, Int.mul_add]
    omega
theorem passes_le {R : List Arr} {M : Int} (hm : ∀ r ∈ R, r.m ≤ M) (h0 : 0 ≤ M) (many : Nat) (ps : List Nat) : ∀ (ts : List Nat) (f : List Age) (c : Int), LeA f c → 0 ≤ c → LeA (ts.foldl (fun f t => ps.foldl (AgM.relax R many t) f) f) (c + M * ps.length * ts.length)
  | [], f, c, h, hc => h.mono (by simp)
  | t :: ts, f, c, h, hc => by
    have hp : 0 ≤ M * (ps.length : Int) := Int.mul_nonneg h0 (Int.natCast_nonneg _)
    have := passes_le hm h0 many ps ts _ (c + M * ps.length) (relaxs_le hm h0 many t ps f c h hc) (by omega)
    refine this.mono ?_
    rw [List.length_cons, Int.natCast_add, Int.mul_add (M * (ps.length : Int))]
    omega
theorem backs_le {d : Deed} (hd : d.ok) : ∀ p ∈ d.backs, p.2 ≤ 1000000000 := by
  cases d with
  | unpack b =>
    intro p hp
    have : b ≤ 1000000000 := hd.2
    simp only [Deed.backs, List.mem_cons, List.not_mem_nil, or_false] at hp
    rcases hp with rfl | rfl | rfl <;> simp <;> omega
  | setback b =>
    intro p hp
    have : b ≤ 1000000000 := hd.2
    simp only [Deed.backs, List.mem_cons, List.not_mem_nil, or_false] at hp
    rcases hp with rfl | rfl | rfl <;> simp <;> omega
  | _ =>
    intro p hp
    simp [Deed.backs] at hp
    try (rcases hp with rfl | rfl | rfl <;> simp)
    try (rcases hp with rfl | rfl <;> simp)
    try (subst hp; simp)
theorem surely_le {rl : Rl} {d : Deed} (hd : d.ok) {m : Mark} {b : Int} (h : (AgM.surely rl d).lookup m = some b) : b ≤ 1000000000 := by
  have h2 := AgM.lookup_mem h
  unfold AgM.surely at h2
  split at h2
  · split at h2
    · rw [List.mem_singleton] at h2
      cases h2
      decide
    · cases h2
  · exact backs_le hd _ h2
theorem settled_le {N : List Deed} {R : List Arr} {rl : Rl} {G : Nat → Age} {tab : List Mark → List Age} {l : List Mark} {n : Nat} (hN : ∀ d ∈ N, d.ok) (hG : ∀ n x, G n = some x → x ≤ 1000000000) (hn : n < N.length) {x : Int} (e : AgM.settled N R rl G tab l n = some x) : x ≤ 1000000000 := by
  obtain ⟨d, ed, gd⟩ := getD_at hn
  have hd := hN d (List.mem_of_getElem? ed)
  unfold AgM.settled at e
  dsimp only at e
  rw [gd] at e
  split at e
  · exact hG n x e
  · cases en : AgM.nearest rl d l with
    | none =>
      rw [en] at e
      cases e
      decide
    | some near =>
      rw [en] at e
      dsimp only at e
      obtain ⟨m, _, hm⟩ := AgM.nearest_in en
      have := surely_le hd hm
      split at e
      · cases e
        exact this
      · unfold AgM.pickOld at e
        split at e
        · cases e
          exact this
        · split at e
          · cases e
            exact this
          · cases e
            omega
theorem T_le {N : List Deed} {R : List Arr} {rl : Rl} {G : Nat → Age} {l : List Mark} (W : WOk N R) (hG : ∀ n x, G n = some x → x ≤ 1000000000) (hl : l ≠ []) : LeA (AgM.T N R rl G l) 301000000000 := by
  have n2 := W.n2
  rw [AgM.T_eq hl]
  unfold AgM.walked
  have h0 : LeA (AgM.found0 N R rl G (AgM.T N R rl G) l) 1000000000 := fun n x e => by
    by_cases hn : n < N.length
    · unfold AgM.found0 at e
      rw [AgM.getD_map_range _ _ _ _ hn] at e
      exact settled_le W.ok hG hn e
    · rw [List.getD_eq_getElem?_getD, List.getElem?_eq_none (by rw [AgM.found0_len]; omega)] at e
      cases e
  have := passes_le (R := R) (M := 1000000000) (fun r hr => (W.ar r hr).2.2.2.2.1) (by decide) N.length (AgM.passing N (AgM.found0 N R rl G (AgM.T N R rl G) l)) (List.range (2 * N.length + 1)) _ _ h0 (by decide)
  refine this.mono ?_
  rw [List.length_range]
  have hp := AgM.passing_len (nodes := N) (AgM.found0 N R rl G (AgM.T N R rl G) l)
  have h1 : ((AgM.passing N (AgM.found0 N R rl G (AgM.T N R rl G) l)).length : Int) ≤ 12 := by omega
  have h2 : ((2 * N.length + 1 : Nat) : Int) ≤ 25 := by omega
  have h3 : (1000000000 : Int) * ((AgM.passing N (AgM.found0 N R rl G (AgM.T N R rl G) l)).length : Int) * ((2 * N.length + 1 : Nat) : Int) ≤ 12000000000 * 25 :=
    Int.mul_le_mul (by omega) h2 (Int.natCast_nonneg _) (by decide)
  omega
theorem seen_le {TT : List Age} {R : List Arr} {b : Bk} {c M : Int} (h : LeA TT c) (hm : ∀ r ∈ R, r.m ≤ M) (hg : 1 ≤ b.grain) (hc : 0 ≤ c) (h0 : 0 ≤ M) : ∀ (l : List Arr) (a : Age), (∀ r ∈ l, r ∈ R) → (∀ x, a = some x → x ≤ c + M + b.grain) → ∀ x, l.foldl (AgM.seenStep TT b) a = some x → x ≤ c + M + b.grain
  | [], a, _, ha, x, e => ha x e
  | r :: l, a, hl, ha, x, e => by
    refine seen_le h hm hg hc h0 l (AgM.seenStep TT b a r) (fun y hy => hl y (List.mem_cons_of_mem _ hy)) (fun y ey => ?_) x e
    unfold AgM.seenStep at ey
    split at ey
    · split at ey
      · cases ex : TT.getD r.s none with
        | none => rw [ex] at ey; cases ey
        | some z =>
          rw [ex] at ey
          have := h _ _ ex
          have := hm r (hl r List.mem_cons_self)
          have e2 : z + r.m - 1 + b.grain - 1 = y := Option.some.inj ey
          omega
      · exact ha y ey
    · exact ha y ey
theorem GOk.le {N : List Deed} {R : List Arr} {rl : Rl} {G : Nat → Age} (g : GOk N R rl G) (hrl : ∀ n, rl = .seldom n → 1 ≤ n ∧ n ≤ 2000) : ∀ n x, G n = some x → x ≤ 1000000000 := by
  intro n x e
  cases rl with
  | seldom a =>
    obtain ⟨r, ib, rfl⟩ := g
    obtain ⟨a1, a2⟩ := hrl a rfl
    have h1 := ib.lt a1 n
    have e : AgM.topBit (r.getD n 0) = some x := e
    unfold AgM.topBit at e
    split at e
    · cases e
    · rename_i h0
      have := (Nat.log2_lt h0).mpr h1
      cases e
      omega
  | always =>
    have g : G = fun _ => none := g
    rw [g] at e
    cases e
  | never =>
    have g : G = fun _ => none := g
    rw [g] at e
    cases e
theorem seen_top {N : List Deed} {R : List Arr} {rl : Rl} {G : Nat → Age} {b : Bk} {per s : Int} (W : WOk N R) (g : GOk N R rl G) (hrl : ∀ n, rl = .seldom n → 1 ≤ n ∧ n ≤ 2000) (o : BOk b per) (e : AgM.seenMost (AgM.T N R rl G b.looks) R b = some s) : s ≤ 303000000000 := by
  have h := T_le (rl := rl) (l := b.looks) W (g.le hrl) (looks_ne o.lk).1
  have g2 := o.g2
  have := seen_le (M := 1000000000) h (fun r hr => (W.ar r hr).2.2.2.2.1) o.g1 (by decide) (by decide) R (some (-1)) (fun _ h => h) (fun x e => by cases e; have := o.g1; omega) s e
  omega
set_option maxHeartbeats 4000000
/-! AgP2: the plain law: a look at a moment of use deletes nothing. -/
open PySem PySem.Spec PyProof.Rows L2 AgR AgT AgC AgI AgJ AgV AgE
open AgM hiding T sets passed b2i
theorem env_of {N : List Deed} {R : List Arr} {rl : Rl} {G : Nat → Age} (W : WOk N R) (g : GOk N R rl G) (hrl : ∀ n, rl = .seldom n → 1 ≤ n ∧ n ≤ 2000) : ∃ bits, AgM.Env N R rl G bits := by
  have aok := (ways_of W).aok
  cases rl with
  | seldom a =>
    obtain ⟨r, ib, rfl⟩ := g
    exact ⟨r, W.ok, aok, fun k e => by cases e; exact ⟨(hrl a rfl).1, ib, fun n => rfl⟩⟩
  | always => exact ⟨[], W.ok, aok, fun k e => nomatch e⟩
  | never => exact ⟨[], W.ok, aok, fun k e => nomatch e⟩
section
variable {N : List Deed} {R : List Arr} {rl : Rl} {G : Nat → Age} {b : Bk} {per s : Int} {rw : AgM.Row}
/-- seen is not -1 where an arrow counts -/
theorem look_false (W : WOk N R) (g : GOk N R rl G) (hrl : ∀ n, rl = .seldom n → 1 ≤ n ∧ n ≤ 2000) (O : RwOk N R rw) (o : BOk b per) (hs : AgM.seenMost (AgM.T N R rl G b.looks) R b = some s) (safe : s < AgM.threshold b ∨ s = -1)
    {t t1 t2 : Int} {p n n2 : Nat} (eU : AgM.upTo rw t = p + 1) (e1 : rw[p]? = some (n, t1)) (e2 : rw[p + 1]? = some (n2, t2)) (l1 : t1 ≤ t) (l2 : t < t2)
    (hc : ∀ a, R.find? (hit n n2) = some a → a.w = .anew → b.late > 0 ∧ b.again = false) : ∀ r, LookOk N R rl b rw t r → r = false := by
  intro r hr
  obtain ⟨bits, E⟩ := env_of W g hrl
  obtain ⟨a, f1, f2, f3, f4, f5, f6⟩ := arr_at W O.ok.ld e1 e2
  have hw : within R rw t [.held] = decide (a.w = .held) := by
    unfold within
    rw [eU, show p + 1 - 1 = p from rfl, e1, e2]
    dsimp only
    rw [f1, decide_eq_true (by omega), Bool.true_and]
    simp
  unfold LookOk at hr
  rw [hw] at hr
  rcases hr with ⟨_, _, e⟩ | ⟨nsp, L, hL, e⟩
  · exact e
  · have hcb : AgM.countsB b a = true := by
      unfold AgM.countsB
      cases ew : a.w with
      | plain => rfl
      | held =>
        dsimp only
        cases es : b.spares with
        | false => rfl
        | true => exact absurd ⟨es, by rw [ew]; rfl⟩ nsp
      | anew =>
        dsimp only
        obtain ⟨c1, c2⟩ := hc a f1 ew
        rw [decide_eq_true c1, c2]
        rfl
    have lf := AgM.lives (rl := rl) (ways_of W) O.ok p e1
    have gd := AgM.good E lf
    rw [show AgM.upTo rw t = p + 1 from eU] at hL
    have hl := (looks_ne o.lk).1
    have hg := o.g1
    have hlt : s < AgM.threshold b := by
      rcases safe with h | h
      · exact h
      · exfalso
        subst h
        have k := AgM.seens_in (AgM.T N R rl G b.looks) b R (some (-1)) a f2 hcb
        have k : AgM.Ge (AgM.seenMost (AgM.T N R rl G b.looks) R b) (AgM.seenOf ((AgM.T N R rl G b.looks).getD a.s none) a.m b.grain) := k
        rw [hs, f3] at k
        have am := ((ways_of W).aok a f2)
        rcases gd.old b.looks hl with z | ⟨x, z, m, hm, hx⟩
        · rw [z] at k
          rcases k with k | ⟨y, x, k, k2, _⟩
          · cases k
          · cases k2
        · rw [z] at k
          have := gd.le m
          rcases k with k | ⟨y, x', k, k2, k3⟩
          · cases k
          · cases k
            have k2 : x + a.m - 1 + b.grain - 1 = x' := Option.some.inj k2
            omega
    have := AgM.spared gd hl hg f2 f3 hcb (by omega : t - t1 ≤ a.m - 1) hL hs hlt
    rw [e]
    exact decide_eq_false (by omega)
/-- a moment of use -/
theorem place_in (W : WOk N R) (O : RwOk N R rw) {n0 : Nat} {t0 : Int} {r0 : AgM.Row} (e0 : rw = (n0, t0) :: r0) {t : Int} (h0 : t0 ≤ t) : ∃ p n1 t1, AgM.upTo rw t = p + 1 ∧ rw[p]? = some (n1, t1) ∧ t1 ≤ t ∧ ∀ n2 t2, rw[p + 1]? = some (n2, t2) → t < t2 := by
  have hris := AgM.Leads.rising (ways_of W) O.ok.ld
  rw [e0] at hris ⊢
  exact AgM.upTo_at hris h0
theorem use_in {t : Int} {ws : List Word} (hu : within R rw t ws = true) : ∃ x y a, 0 < AgM.upTo rw t ∧ rw[AgM.upTo rw t - 1]? = some x ∧ rw[AgM.upTo rw t]? = some y ∧ R.find? (hit x.1 y.1) = some a ∧ a.w ∈ ws := by
  unfold within at hu
  split at hu
  · rename_i x y ex ey
    rw [Bool.and_eq_true] at hu
    obtain ⟨h1, h2⟩ := hu
    split at h2
    · rename_i a ea
      exact ⟨x, y, a, of_decide_eq_true h1, ex, ey, ea, of_decide_eq_true h2⟩
    · cases h2
  · cases hu
theorem use_then (W : WOk N R) (g : GOk N R rl G) (hrl : ∀ n, rl = .seldom n → 1 ≤ n ∧ n ≤ 2000) (O : RwOk N R rw) (o : BOk b per) (hs : AgM.seenMost (AgM.T N R rl G b.looks) R b = some s) (safe : s < AgM.threshold b ∨ s = -1)
    {u t0 : Int} {n0 : Nat} {r0 : AgM.Row} (e0 : rw = (n0, t0) :: r0) (h0 : t0 ≤ u) (hu : within R rw u [.plain, .held] = true) : ∀ r, LookOk N R rl b rw u r → r = false := by
  obtain ⟨p, n1, t1, eU, e1, l1, l2⟩ := place_in W O e0 h0
  obtain ⟨x, y, a, c0, ex, ey, ea, ew⟩ := use_in hu
  rw [eU] at ex ey
  rw [show p + 1 - 1 = p from rfl, e1] at ex
  cases ex
  obtain ⟨n2, t2⟩ := y
  refine look_false W g hrl O o hs safe eU e1 ey l1 (l2 _ _ ey) (fun a' ea' z => ?_)
  rw [ea] at ea'
  cases ea'
  rw [z] at ew
  simp at ew
theorem use_at (W : WOk N R) (g : GOk N R rl G) (hrl : ∀ n, rl = .seldom n → 1 ≤ n ∧ n ≤ 2000) (O : RwOk N R rw) (o : BOk b per) (hs : AgM.seenMost (AgM.T N R rl G b.looks) R b = some s) (safe : s < AgM.threshold b ∨ s = -1)
    {t u t0 : Int} {n0 : Nat} {r0 : AgM.Row} (e0 : rw = (n0, t0) :: r0) (h0 : t0 ≤ t) (h1 : t ≤ u) (h2 : u - t ≤ b.late) (ha : b.again = false) (hu : within R rw u [.plain, .held] = true) : ∀ r, LookOk N R rl b rw t r → r = false := by
  obtain ⟨p, n1, t1, eU, e1, l1, l2⟩ := place_in W O e0 h0
  obtain ⟨x, y, a, c0, ex, ey, ea, ew⟩ := use_in hu
  have hm := AgM.upTo_mono (row := rw) h1
  have hlt := (List.getElem?_eq_some_iff.mp ey).1
  obtain ⟨⟨n2, t2⟩, e2⟩ := AgM.get_some (l := rw) (n := p + 1) (by omega)
  refine look_false W g hrl O o hs safe eU e1 e2 l1 (l2 _ _ e2) (fun a' ea' z => ⟨?_, ha⟩)
  by_cases c : u = t
  · exfalso
    subst c
    rw [eU] at ex ey
    rw [show p + 1 - 1 = p from rfl, e1] at ex
    cases ex
    rw [e2] at ey
    cases ey
    rw [ea] at ea'
    cases ea'
    rw [z] at ew
    simp at ew
  · omega
end
theorem c_in_use {H : Hp} {Q : VK} {E : XK} {p q : Addr} {N : List Deed} {R : List Arr} {rw : AgM.Row} {t : Int} (hp : IsPlan H p N R) (W : WOk N R) (hr : IsRow H q rw) (O : RwOk N R rw) (k : ∀ r H', Same H H' → (r = true → within R rw t [.plain, .held] = true) → Q (.bl r) H') : sp_law_in_use [.ref p, .ref q, .int t] H Q E :=
  ⟨_, _, _, rfl, p, q, N, R, rw, t, rfl, rfl, rfl, hp, W, hr, O, k⟩
theorem IsPlan.same {H H' : Hp} {p : Addr} {N : List Deed} {R : List Arr} (S : Same H H') (h : IsPlan H p N R) : IsPlan H' p N R := h.kp (Kp.of S)
def kCO (X : Cx) (C : Addr) (sp : Sp) (y : V) (t : TA) (σ : L2.St) (H : Hp) (Q : VK) : Prop := ∃ a, y = V.ref a ∧ t σ H fun vs H2 => StX.InsC X H2 a C ∧ sp (V.ref a :: vs) H2 Q E0
theorem rd_callO {X : Cx} {C : Addr} {sp : Sp} {tf : TE} {t : TA} {σ : L2.St} {H : Hp} {Q : VK} (h : tf σ H fun y H1 => kCO X C sp y t σ H1 Q) : StX.tCallO X C sp E0 tf t σ H Q := h
local macro_rules | `(tactic| walk_at "call") => `(tactic| ((with_reducible apply rd_callO)))
theorem IsB.exs {K : PySem.W.Frag} {H H' : Hp} {a lo pp s : Addr} {b : Bk} {per : Int} (hs : Src H s) (X : Ex s H H') (h : IsB K H a b lo pp per) : IsB K H' a b lo pp per := by
  obtain ⟨n, e, hk, _⟩ := hs
  obtain ⟨dx, h1, h2, h3⟩ := h
  exact ⟨dx, X _ _ (ne_of h1 hk (by intro z; cases z)) h1, X _ _ (ne_of h2 hk (by intro z; cases z)) h2, X _ _ (ne_of h3 hk (by intro z; cases z)) h3⟩
/-- what the law looks at -/
structure Sit (K : PySem.W.Frag) (H : Hp) (s p a b c q lo pp : Addr) (N : List Deed) (R : List Arr) (rl : Rl) (bk : Bk) (per : Int) (rw : AgM.Row) : Prop where
  src : Src H s
  plan : IsPlan H p N R
  way : IsW K H a N R
  rule : IsRl K H b rl
  book : IsB K H c bk lo pp per
  row : IsRow H q rw
theorem Sit.ex {K : PySem.W.Frag} {H H' : Hp} {s p a b c q lo pp : Addr} {N : List Deed} {R : List Arr} {rl : Rl} {bk : Bk} {per : Int} {rw : AgM.Row} (h : Sit K H s p a b c q lo pp N R rl bk per rw) (X : Ex s H H') (hs : Src H' s) : Sit K H' s p a b c q lo pp N R rl bk per rw :=
  have k := h.src.kp X
  ⟨hs, h.plan.kp k, h.way.kp k, h.rule.kp k, h.book.exs h.src X, h.row.kp k⟩
theorem Sit.same {K : PySem.W.Frag} {H H' : Hp} {s p a b c q lo pp : Addr} {N : List Deed} {R : List Arr} {rl : Rl} {bk : Bk} {per : Int} {rw : AgM.Row} (h : Sit K H s p a b c q lo pp N R rl bk per rw) (S : Same H H') : Sit K H' s p a b c q lo pp N R rl bk per rw := h.ex (Ex.of S) (h.src.same S)
theorem four_at {d j : Int} (d0 : 0 ≤ d) (d1 : d < 9) (j0 : 0 ≤ j) (j1 : j < 4) : ∃ x : Int, atI [V.int 0, V.int (-1), V.int 1, V.int (d - 4)] j = some (.int x) ∧ -4 ≤ x ∧ x ≤ 4 := by
  have : j = 0 ∨ j = 1 ∨ j = 2 ∨ j = 3 := by omega
  rcases this with rfl | rfl | rfl | rfl
  · exact ⟨0, rfl, by decide, by decide⟩
  · exact ⟨-1, rfl, by decide, by decide⟩
  · exact ⟨1, rfl, by decide, by decide⟩
  · exact ⟨d - 4, rfl, by omega, by omega⟩
def sp_law_looks_right (K : PySem.W.Frag) : Sp := sp6 fun source plan way rule book row H Q => ∃ (s p a b c q lo pp : Addr) (N : List Deed) (R : List Arr) (rl : Rl) (bk : Bk) (per : Int) (rw : AgM.Row), source = .ref s ∧ plan = .ref p ∧ way = .ref a ∧ rule = .ref b ∧ book = .ref c ∧ row = .ref q ∧ Sit K H s p a b c q lo pp N R rl bk per rw ∧ WOk N R ∧ RwOk N R rw ∧ (∀ x ∈ rw, 0 ≤ x.2 ∧ x.2 ≤ 10000000000) ∧ BOk bk per ∧ bk.late ≤ 3 ∧ (∀ n0 t0 r0 u, rw = (n0, t0) :: r0 → t0 ≤ u → within R rw u [.plain, .held] = true → ∀ r, LookOk N R rl bk rw u r → r = false) ∧ (∀ n0 t0 r0 t u, rw = (n0, t0) :: r0 → t0 ≤ t → t ≤ u → u - t ≤ bk.late → bk.again = false → within R rw u [.plain, .held] = true → ∀ r, LookOk N R rl bk rw t r → r = false) ∧ ∀ H', Ex s H H' → Src H' s → Q (.bl true) H'
theorem sc_law_looks_right : FnScope n_law_looks_right p_law_looks_right d_law_looks_right.scope := ⟨rfl, rfl, rfl, by decide +kernel, rfl, by decide +kernel, by decide +kernel⟩
theorem ok_law_looks_right (T : Tx K mg) : GF P w K mg base "_law_looks_right" 12 (sp_law_looks_right K) := by
  have F := mkR (P := P) (w := w) (base := base) T 101 (d := d_law_looks_right) rfl rfl sc_law_looks_right (fun _ _ _ _ _ _ us hl => match us, hl with | [_, _, _, _, _, _], _ => rfl) len6 (k := 11) (sp := (sp_law_looks_right K)) fun cdv A outer s H vs Q E hr h => by
    obtain ⟨source, plan, way, rule, book, row, rfl, h⟩ := h
    refine ⟨_, (pss_cons (ps_for PassesOwn.never rfl (pi_range1 (by rfl) (T.free 71) (pa_cons pe_int pa_nil)) (pg_name (i := 6) sc_law_looks_right.nd rfl (Or.inl rfl)) (pss_cons (ps_set (i := 7) sc_law_looks_right.nd rfl (Or.inl rfl) (pe_gf (ok_law_draw (K := K) T) hr (pa_cons (pv 0) (pa_cons (pe_cb (jc_ln (K := K)) (T.free 69) (pa_cons (pv 5) pa_nil)) pa_nil))))
      (pss_cons (ps_set (i := 8) sc_law_looks_right.nd rfl (Or.inl rfl) (pe_op op_add (pe_ix (jx_tup (K := K)) (pe_ix (jx_tup (K := K)) (pv 5) (pv 7) (fun _ _ => rfl)) pe_int (fun _ _ => rfl)) (pe_ix (jx_list (K := K)) (pe_lst (pa_cons pe_int (pa_cons (pe_un un_neg pe_int) (pa_cons pe_int (pa_cons (pe_op op_sub (pe_gf (ok_law_draw (K := K) T) hr (pa_cons (pv 0) (pa_cons pe_int pa_nil))) pe_int) pa_nil))))) (pe_gf (ok_law_draw (K := K) T) hr (pa_cons (pv 0) (pa_cons pe_int pa_nil))) (fun _ _ => rfl))))
      (pss_cons (ps_set (i := 9) sc_law_looks_right.nd rfl (Or.inl rfl) (pe_gf (ok_law_draw (K := K) T) hr (pa_cons (pv 0) (pa_cons (pe_op op_add (pe_gp (pv 4) (T.cls 153) (ok_Book_late_g (K := K) T) hr) pe_int) pa_nil))))
      (pss_cons (ps_set (i := 10) sc_law_looks_right.nd rfl (Or.inl rfl) (pe_op op_sub (pv 8) (pv 9)))
      (pss_one (ps_if (PW.pt (pw_and (pt_cmpR op_ge (pv 10) (pe_ix (jx_tup (K := K)) (pe_ix (jx_tup (K := K)) (pv 5) pe_int (fun _ _ => rfl)) pe_int (fun _ _ => rfl)) (nomark _)) (pw_and1 (pt_val (pe_gf (ok_law_in_use (K := K) T) hr (pa_cons (pv 1) (pa_cons (pv 5) (pa_cons (pv 8) pa_nil)))))))) (pss_cons (ps_if (pt_val (pe_go (pv 4) (ok_Book_call (K := K) T) hr (pa_cons (pe_gf (ok_file_at (K := K) T) hr (pa_cons (pv 2) (pa_cons (pv 3) (pa_cons (pv 5) (pa_cons (pv 8) pa_nil))))) (pa_cons (pv 8) pa_nil)))) (pss_one (ps_ret pe_bl)) pss_nil)
      (pss_cons (ps_if (PW.pt (pw_and (pt_not (pt_val (pe_gp (pv 4) (T.cls 153) (ok_Book_again_g (K := K) T) hr))) (pw_and1 (pt_val (pe_go (pv 4) (ok_Book_call (K := K) T) hr (pa_cons (pe_gf (ok_file_at (K := K) T) hr (pa_cons (pv 2) (pa_cons (pv 3) (pa_cons (pv 5) (pa_cons (pv 10) pa_nil))))) (pa_cons (pv 10) pa_nil))))))) (pss_one (ps_ret pe_bl)) pss_nil)
      (pss_one (ps_if (pt_val (pe_gf (ok_is_fault (K := K) T) hr (pa_cons (pv 2) (pa_cons (pv 3) (pa_cons (pv 4) (pa_cons (pe_tup (pa_cons (pv 5) (pa_cons (pv 10) (pa_cons (pv 8) pa_nil)))) pa_nil)))))) (pss_one (ps_ret pe_bl)) pss_nil)))) pss_nil)))))))
      (pss_one (ps_ret pe_bl))), ?_⟩
    obtain ⟨s, p, a, b, c, q, lo, pp, N, R, rl, bk, per, rw, rfl, rfl, rfl, rfl, rfl, rfl, Z, W, O, bd, o, lt3, f1, f2, h⟩ := h
    have l1 := o.l1
    have hln := O.ln
    obtain ⟨n0, t0, r0, d0, e0, hd0, hm0⟩ := O.ok.ne
    have hz0 : 0 < rw.length := by rw [e0]; exact Nat.succ_pos _
    walk_at "go"
    refine fo_range (n := 12) rfl (by decide) (fun i σ H1 => ∃ (x1 x2 x3 x4 x5 : Option V), σ = [some (.ref s), some (.ref p), some (.ref a), some (.ref b), some (.ref c), some (.ref q), x1, x2, x3, x4, x5] ∧ Ex s H H1 ∧ Sit K H1 s p a b c q lo pp N R rl bk per rw)
      ⟨_, _, _, _, _, rfl, Ex.refl, Z⟩ (fun i σ H1 hi hP => ?_) (fun σ H1 hP => ?_)
    · obtain ⟨x1, x2, x3, x4, x5, rfl, X1, Z1⟩ := hP
      obtain ⟨vs, hq1, tv1⟩ := Z1.row
      have hz : vs.length = rw.length := by rw [tv1.len, List.length_map]
      walk_at "go"
      refine c_draw Z1.src (by omega) (by omega) (fun dr H2 X2 s2 e1 e2 => ?_)
      obtain ⟨pl, rfl⟩ : ∃ k : Nat, dr = k := ⟨dr.toNat, by omega⟩
      have Z2 := Z1.ex X2 s2
      obtain ⟨⟨na, ta⟩, ea⟩ := AgM.get_some (l := rw) (n := pl) (by omega)
      have bda : 0 ≤ ta ∧ ta ≤ 10000000000 := bd _ (List.mem_of_getElem? ea)
      have k2 := Src.kp Z1.src X2
      have hq2 := k2 _ _ rfl hq1
      have tv2 := k2.tups tv1
      obtain ⟨xa, exa, hxa⟩ := tv2.give ea
      have exa' := atI_of exa
      have hxa : H2 xa = some (.tup [.int (na : Nat), .int ta]) := hxa
      walk_at "go"
      refine c_draw s2 (by decide) (by decide) (fun d3 H3 X3 s3 d30 d31 => ?_)
      walk_at "go"
      intro lq H4 n4 S4 h4
      have s4 := s3.same S4
      walk_at "go"
      refine c_draw s4 (by decide) (by decide) (fun j H5 X5 s5 j0 j1 => ?_)
      have h5 := X5 _ _ (s3.ne n4) h4
      obtain ⟨dl, edl, dl0, dl1⟩ := four_at d30 d31 j0 j1
      have Z5 := ((Z2.ex X3 s3).same S4).ex X5 s5
      have X15 : Ex s H1 H5 := X2.trans (X3.trans ((Ex.of S4).trans X5))
      have hb5 := Z5.book
      walk_at "go"
      refine c_draw s5 (by omega) (by omega) (fun ey H6 X6 s6 ey0 ey1 => ?_)
      have Z6 := Z5.ex X6 s6
      have X16 := X15.trans X6
      obtain ⟨vs6, hq6, tv6⟩ := Z6.row
      obtain ⟨b0, eb0, hb0⟩ := tv6.give (i := 0) (x := (n0, t0)) (by rw [e0]; rfl)
      have eb0' : atI vs6 0 = some (.ref b0) := atI_nat (j := 0) eb0
      have hb0 : H6 b0 = some (.tup [.int (n0 : Nat), .int t0]) := hb0
      have tokU : TOk (ta + dl) := ⟨by omega, by omega⟩
      have tokT : TOk (ta + dl - ey) := ⟨by omega, by omega⟩
      have done : ∀ H', Same H6 H' → Ex s H H' ∧ Sit K H' s p a b c q lo pp N R rl bk per rw := fun H' S => ⟨X1.trans (X16.trans (Ex.of S)), Z6.same S⟩
      walk_at "go"
      refine ited (fun c1 => ?_) (fun c1 => ?_)
      · walk_at "go"
        refine c_in_use Z6.plan W Z6.row O (fun r H7 S7 hu => ?_)
        walk_at "go"
        refine iteb (fun c2 => ?_) (fun c2 => ?_)
        · have hu := hu c2
          have g1 := f1 n0 t0 r0 (ta + dl) e0 (by omega) hu
          have g2 := f2 n0 t0 r0 (ta + dl - ey) (ta + dl) e0 c1 (by omega) (by omega)
          have Z7 := Z6.same S7
          walk_at "go"
          refine ⟨_, rfl, ?_⟩
          walk_at "go"
          refine c_file_at Z7.way W Z7.rule Z7.row O tokU ⟨n0, t0, r0, e0, by omega⟩ (fun f tp last H8 S8 wf => ?_)
          walk_at "go"
          have Z8 := Z7.same S8
          obtain ⟨dx8, hb8, _⟩ := id Z8.book
          refine ⟨.inr ⟨_, _, hb8⟩, ?_⟩
          refine c_bcall Z8.book o wf tokU (fun r2 H9 S9 d2 => ?_)
          have er2 : r2 = false := g1 r2 d2
          subst er2
          have Z9 := Z8.same S9
          have hb9 := Z9.book
          have S79 := S8.trans S9
          walk_at "go"
          refine itedn_ (fun c3 => ?_) (fun c3 => ?_)
          · have g3 := g2 c3 hu
            walk_at "go"
            refine ⟨_, rfl, ?_⟩
            walk_at "go"
            refine c_file_at Z9.way W Z9.rule Z9.row O tokT ⟨n0, t0, r0, e0, c1⟩ (fun f2' tp2 last2 H10 S10 wf2 => ?_)
            walk_at "go"
            have Z10 := Z9.same S10
            obtain ⟨dx10, hb10, _⟩ := id Z10.book
            refine ⟨.inr ⟨_, _, hb10⟩, ?_⟩
            refine c_bcall Z10.book o wf2 tokT (fun r3 H11 S11 d3' => ?_)
            have er3 : r3 = false := g3 r3 d3'
            subst er3
            have Z11 := Z10.same S11
            walk_at "go"
            intro v H12 n12 S12 h12
            have Z12 := Z11.same S12
            refine c_is_fault h12 Z12.way W Z12.rule Z12.book o Z12.row O ⟨n0, t0, r0, e0, c1⟩ tokT tokU (by omega) (by omega) (fun _ => g3) g1 (fun H13 S13 => ?_)
            walk_at "go"
            exact ⟨_, _, _, _, _, rfl, done _ (S7.trans (S79.trans (S10.trans (S11.trans (S12.trans S13)))))⟩
          · walk_at "go"
            intro v H12 n12 S12 h12
            have Z12 := Z9.same S12
            refine c_is_fault h12 Z12.way W Z12.rule Z12.book o Z12.row O ⟨n0, t0, r0, e0, c1⟩ tokT tokU (by omega) (by omega) (fun z => absurd (c3.symm.trans z) (by decide)) g1 (fun H13 S13 => ?_)
            walk_at "go"
            exact ⟨_, _, _, _, _, rfl, done _ (S7.trans (S79.trans (S12.trans S13)))⟩
        · walk_at "go"
          exact ⟨_, _, _, _, _, rfl, done _ S7⟩
      · walk_at "go"
        exact ⟨_, _, _, _, _, rfl, done _ (Same.refl _)⟩
    · obtain ⟨x1, x2, x3, x4, x5, rfl, X1, Z1⟩ := hP
      walk_at "go"
      exact h H1 X1 Z1.src
  exact ⟨_, T.glo 60, F.2, F.1⟩
theorem SqL.keep {K : PySem.W.Frag} {H H' : Hp} {a : Addr} {xs : List V} (S : Same H H') (h : SqL K H a xs) : SqL K H' a xs := by
  rcases h with (h | ⟨o, h⟩) | h
  · exact .inl (.inl (S _ _ h))
  · exact .inl (.inr ⟨o, S _ _ h⟩)
  · exact .inr h
theorem c_plan {H : Hp} {Q : VK} {E : XK} {s : Addr} {m : Nat} {lg bk : Int} (hs : Src H s) (m1 : 1 ≤ m) (m2 : m ≤ 6) (l1 : 1 ≤ lg) (l2 : lg ≤ 100000000) (b1 : 1 ≤ bk) (b2 : bk ≤ 1000000000)
    (q : ∀ p N R H', Ex s H H' → Src H' s → IsPlan H' p N R → WOk N R → N.length ≤ 6 → (N.getD 0 .read).makes = true → (∀ r ∈ R, r.m ≤ 200000000) → Q (.ref p) H') : sp_law_plan [.ref s, .int m, .int lg, .int bk, .bl false] H Q E := ⟨_, _, _, _, _, rfl, s, m, lg, bk, rfl, rfl, rfl, rfl, rfl, hs, m1, m2, l1, l2, b1, b2, q⟩
theorem c_rule_row {H : Hp} {Q : VK} {E : XK} {s : Addr} {m : Int} (hs : Src H s) (m1 : 1 ≤ m) (m2 : m ≤ 2000) (q : ∀ p z k H', Ex s H H' → Src H' s → H' p = some (.tup [.str z, .int k]) → (z = "always" ∨ z = "never" ∨ z = "seldom") → 1 ≤ k → k ≤ 2000 → Q (.ref p) H') : sp_law_rule_row [.ref s, .int m] H Q E := ⟨_, _, rfl, s, m, rfl, rfl, hs, m1, m2, q⟩
theorem c_rule {K : PySem.W.Frag} {H : Hp} {Q : VK} {E : XK} {p : Addr} {z : Str} {k : Int} (hp : H p = some (.tup [.str z, .int k])) (hz : z = "always" ∨ z = "never" ∨ z = "seldom") (k1 : 1 ≤ k) (k2 : k ≤ 2000) (q : ∀ b rl H', Same H H' → IsRl K H' b rl → (∀ n, rl = .seldom n → 1 ≤ n ∧ n ≤ 2000) → Q (.ref b) H') : sp_law_rule K [.ref p] H Q E := ⟨_, rfl, p, z, k, rfl, hp, hz, k1, k2, q⟩
theorem c_parts {H : Hp} {Q : VK} {E : XK} {s : Addr} {m g : Int} (hs : Src H s) (m1 : 1 ≤ m) (m2 : m ≤ 1000) (g1 : 1 ≤ g) (g2 : g ≤ 1000) (q : ∀ pd b lo per H', Ex s H H' → Src H' s → H' pd = some (.dK (bkd b lo per)) → H' lo = some (.tup (lv b.looks)) → BOk b per → b.late ≤ 3 → Q (.ref pd) H') : sp_law_parts [.ref s, .int m, .int g] H Q E := ⟨_, _, _, rfl, s, m, g, rfl, rfl, rfl, hs, m1, m2, g1, g2, q⟩
theorem c_law_book {K : PySem.W.Frag} {H : Hp} {Q : VK} {E : XK} {pd lo : Addr} {b : Bk} {per : Int} (h1 : H pd = some (.dK (bkd b lo per))) (h2 : H lo = some (.tup (lv b.looks))) (o : BOk b per) (q : ∀ c pp H', Same H H' → IsB K H' c b lo pp per → Q (.ref c) H') : sp_law_book K [.ref pd] H Q E := ⟨_, rfl, pd, lo, b, per, rfl, h1, h2, o, q⟩
theorem c_law_row {H : Hp} {Q : VK} {E : XK} {s p : Addr} {N : List Deed} {R : List Arr} {m st lg : Int} (hs : Src H s) (hp : IsPlan H p N R) (W : WOk N R) (l6 : N.length ≤ 6) (k0 : (N.getD 0 .read).makes = true) (mx : ∀ r ∈ R, r.m ≤ 200000000) (m1 : 1 ≤ m) (m2 : m ≤ 10) (s0 : 0 ≤ st) (s1 : st ≤ 100)
    (q : ∀ q rw H', Ex s H H' → Src H' s → IsRow H' q rw → RwOk N R rw → (∀ x ∈ rw, 0 ≤ x.2 ∧ x.2 ≤ 10000000000) → Q (.ref q) H') : sp_law_row [.ref s, .ref p, .int m, .int st, .int lg] H Q E := ⟨_, _, _, _, _, rfl, s, p, N, R, m, st, lg, rfl, rfl, rfl, rfl, rfl, hs, hp, W, l6, k0, mx, m1, m2, s0, s1, q⟩
theorem c_right {K : PySem.W.Frag} {H : Hp} {Q : VK} {E : XK} {s p a b c q lo pp : Addr} {N : List Deed} {R : List Arr} {rl : Rl} {bk : Bk} {per : Int} {rw : AgM.Row} (Z : Sit K H s p a b c q lo pp N R rl bk per rw) (W : WOk N R) (O : RwOk N R rw) (bd : ∀ x ∈ rw, 0 ≤ x.2 ∧ x.2 ≤ 10000000000) (o : BOk bk per) (lt : bk.late ≤ 3)
    (f1 : ∀ n0 t0 r0 u, rw = (n0, t0) :: r0 → t0 ≤ u → within R rw u [.plain, .held] = true → ∀ r, LookOk N R rl bk rw u r → r = false)
    (f2 : ∀ n0 t0 r0 t u, rw = (n0, t0) :: r0 → t0 ≤ t → t ≤ u → u - t ≤ bk.late → bk.again = false → within R rw u [.plain, .held] = true → ∀ r, LookOk N R rl bk rw t r → r = false) (k : ∀ H', Ex s H H' → Src H' s → Q (.bl true) H') : sp_law_looks_right K [.ref s, .ref p, .ref a, .ref b, .ref c, .ref q] H Q E :=
  ⟨_, _, _, _, _, _, rfl, s, p, a, b, c, q, lo, pp, N, R, rl, bk, per, rw, rfl, rfl, rfl, rfl, rfl, rfl, Z, W, O, bd, o, lt, f1, f2, k⟩
theorem tri_at {a b c j : Int} (j0 : 0 ≤ j) (j1 : j < 3) : atI [V.int a, V.int b, V.int c] j = some (.int (if j = 0 then a else if j = 1 then b else c)) := by
  have : j = 0 ∨ j = 1 ∨ j = 2 := by omega
  rcases this with rfl | rfl | rfl <;> rfl
theorem e8 : (10 : Int) ^ (8 : Int).toNat = 100000000 := by decide
theorem e9 : (10 : Int) ^ (9 : Int).toNat = 1000000000 := by decide
theorem SqL.exs {K : PySem.W.Frag} {H1 H H' : Hp} {a s : Addr} {xs : List V} (h1 : SqL K H1 a xs) (n : H1 s = none) (h : SqL K H a xs) (X : Ex s H H') : SqL K H' a xs := by
  rcases h1 with h1 | h1
  · have ne : a ≠ s := by
      rcases h1 with h1 | ⟨o, h1⟩
      · exact ne_of_none h1 n
      · exact ne_of_none h1 n
    rcases h with (h | ⟨o, h⟩) | h
    · exact .inl (.inl (X _ _ ne h))
    · exact .inl (.inr ⟨o, X _ _ ne h⟩)
    · exact .inr h
  · exact .inr h1
theorem SqL.exd {K : PySem.W.Frag} {H H' : Hp} {a pp : Addr} {xs : List V} {kvs : List (Key × V)} (h : SqL K H a xs) (hp : H pp = some (.dK kvs)) (X : Ex pp H H') : SqL K H' a xs := by
  rcases h with (h | ⟨o, h⟩) | h
  · exact .inl (.inl (X _ _ (ne_of h hp (by intro z; cases z)) h))
  · exact .inl (.inr ⟨o, X _ _ (ne_of h hp (by intro z; cases z)) h⟩)
  · exact .inr h
structure Bas (K : PySem.W.Frag) (H : Hp) (s p a b c lo pp : Addr) (N : List Deed) (R : List Arr) (rl : Rl) (bk : Bk) (per : Int) : Prop where
  src : Src H s
  plan : IsPlan H p N R
  way : IsW K H a N R
  rule : IsRl K H b rl
  book : IsB K H c bk lo pp per
theorem Bas.ex {K : PySem.W.Frag} {H H' : Hp} {s p a b c lo pp : Addr} {N : List Deed} {R : List Arr} {rl : Rl} {bk : Bk} {per : Int} (h : Bas K H s p a b c lo pp N R rl bk per) (X : Ex s H H') (hs : Src H' s) : Bas K H' s p a b c lo pp N R rl bk per :=
  have k := h.src.kp X
  ⟨hs, h.plan.kp k, h.way.kp k, h.rule.kp k, h.book.exs h.src X⟩
theorem Bas.same {K : PySem.W.Frag} {H H' : Hp} {s p a b c lo pp : Addr} {N : List Deed} {R : List Arr} {rl : Rl} {bk : Bk} {per : Int} (h : Bas K H s p a b c lo pp N R rl bk per) (S : Same H H') : Bas K H' s p a b c lo pp N R rl bk per := h.ex (Ex.of S) (h.src.same S)
theorem GOk.one {N : List Deed} {R : List Arr} {rl : Rl} {G G2 : Nat → Age} (g : GOk N R rl G) (g2 : GOk N R rl G2) : G2 = G := by
  cases rl with
  | seldom a =>
    obtain ⟨r, ib, rfl⟩ := g
    obtain ⟨r2, ib2, rfl⟩ := g2
    rw [ib.one ib2]
  | always =>
    have g : G = fun _ => none := g
    have g2 : G2 = fun _ => none := g2
    rw [g, g2]
  | never =>
    have g : G = fun _ => none := g
    have g2 : G2 = fun _ => none := g2
    rw [g, g2]
theorem b2i_le (x : Bool) : 0 ≤ AgM.b2i x ∧ AgM.b2i x ≤ 1 := by cases x <;> decide
/-- the book at its least bound or above -/
theorem safe_up {b : Bk} {per s v d : Int} (o : BOk b per) (hs : -1 ≤ s) (ht : s ≤ 303000000000) (hv : v = if s = -1 then 0 else s / b.day + AgM.b2i (!b.above)) (d0 : 0 ≤ d) (d1 : d ≤ 2) : 0 ≤ v + d ∧ v + d ≤ 1000000000000 ∧ (s < AgM.threshold { b with bound := v + d } ∨ s = -1) := by
  have := b2i_le (!b.above)
  by_cases c : s = -1
  · rw [if_pos c] at hv
    exact ⟨by omega, by omega, .inr c⟩
  · rw [if_neg c] at hv
    have h1 := Int.ediv_nonneg (a := s) (b := b.day) (by omega) (by have := o.d1; omega)
    have h2 := Int.ediv_le_self b.day (show 0 ≤ s by omega)
    refine ⟨by omega, by omega, .inl ?_⟩
    exact AgM.safe_at (b := { b with bound := v + d }) (d := d) o.d1 hs c d0 (by show v + d = _; rw [hv])
def sp_law (K : PySem.W.Frag) : Sp := sp1 fun script H Q => ∃ (sc : Addr) (ns : List Int), script = .ref sc ∧ SqL K H sc (ns.map V.int) ∧ ns.length ≤ 1000 ∧ ∀ H', Q (.bl true) H'
theorem sc_law : FnScope n_law p_law d_law.scope := ⟨rfl, rfl, rfl, by decide +kernel, rfl, by decide +kernel, by decide +kernel⟩
theorem ok_law (T : Tx K mg) {fd : FuncData} (F : FunD K d_law.name d_law.qual d_law.params d_law.body d_law.scope [] [] (d_law.at_ K) fd) : FnOk P w K mg base CX0 33 (d_law.at_ K) fd p_law (sp_law K) := by
  refine FunD.ok F sc_law len1 fun cdv A outer s H vs Q E hr h => ?_
  have key : ∃ t, PSs (cxOf CX0 P w K mg base n_law d_law.qual d_law.scope (d_law.at_ K) cdv A outer s H E).nox d_law.body t ∧ t { nx := fun _ H' => Q .non H', rt := Q } (start n_law vs) H := by
    obtain ⟨script, rfl, h⟩ := h
    refine ⟨_, (pss_cons (ps_for PassesOwn.never rfl (pi_range1 (by rfl) (T.free 71) (pa_cons (pe_cb (jc_max2 rfl) (T.free 74) (pa_cons pe_int (pa_cons (pe_cb (jc_min2 rfl) (T.free 75) (pa_cons (pe_cb (jc_ln (K := K)) (T.free 69) (pa_cons (pv 0) pa_nil)) (pa_cons pe_int pa_nil))) pa_nil))) pa_nil)) (pg_name (i := 1) sc_law.nd rfl (Or.inl rfl)) (pss_cons (ps_set (i := 2) sc_law.nd rfl (Or.inl rfl) (pe_gf (ok_law_source (K := K) T) hr (pa_cons (pv 0) (pa_cons (pv 1) pa_nil))))
      (pss_cons (ps_set (i := 3) sc_law.nd rfl (Or.inl rfl) (pe_ix (jx_list (K := K)) (pe_lst (pa_cons pe_int (pa_cons pe_int (pa_cons (pe_op op_pow pe_int pe_int) pa_nil)))) (pe_gf (ok_law_draw (K := K) T) hr (pa_cons (pv 2) (pa_cons pe_int pa_nil))) (fun _ _ => rfl)))
      (pss_cons (ps_set (i := 4) sc_law.nd rfl (Or.inl rfl) (pe_gf (ok_law_plan (K := K) T) hr (pa_cons (pv 2) (pa_cons (pe_op op_add pe_int (pe_gf (ok_law_draw (K := K) T) hr (pa_cons (pv 2) (pa_cons pe_int pa_nil)))) (pa_cons (pv 3) (pa_cons (pe_ix (jx_list (K := K)) (pe_lst (pa_cons pe_int (pa_cons (pe_op op_pow pe_int pe_int) pa_nil))) (pe_gf (ok_law_draw (K := K) T) hr (pa_cons (pv 2) (pa_cons pe_int pa_nil))) (fun _ _ => rfl)) (pa_cons pe_bl pa_nil)))))))
      (pss_cons (ps_set (i := 5) sc_law.nd rfl (Or.inl rfl) (pe_gf (ok_law_rule (K := K) T) hr (pa_cons (pe_gf (ok_law_rule_row (K := K) T) hr (pa_cons (pv 2) (pa_cons (pe_ix (jx_list (K := K)) (pe_lst (pa_cons pe_int (pa_cons pe_int (pa_cons pe_int pa_nil)))) (pe_gf (ok_law_draw (K := K) T) hr (pa_cons (pv 2) (pa_cons pe_int pa_nil))) (fun _ _ => rfl)) pa_nil))) pa_nil)))
      (pss_cons (ps_par (by rfl) sc_law.nd (i := 6) (j := 7) rfl rfl (by decide) rfl rfl (pa_cons (pe_gc (ok_Way_init (K := K) T) hr (pa_cons (pe_ix (jx_tup (K := K)) (pv 4) pe_int (fun _ _ => rfl)) (pa_cons (pe_ix (jx_tup (K := K)) (pv 4) pe_int (fun _ _ => rfl)) pa_nil))) (pa_cons (pe_gf (ok_law_book (K := K) T) hr (pa_cons (pe_gf (ok_law_parts (K := K) T) hr (pa_cons (pv 2) (pa_cons pe_int (pa_cons pe_int pa_nil)))) pa_nil)) pa_nil)) (by rfl))
      (pss_cons (ps_set (i := 8) sc_law.nd rfl (Or.inl rfl) (pe_gf (ok_least_bound (K := K) T) hr (pa_cons (pv 6) (pa_cons (pv 5) (pa_cons (pv 7) pa_nil)))))
      (pss_one (ps_if (pt_cmpR op_notN' (pv 8) pe_non (nomark _)) (pss_cons (ps_expr (pe_gm (pv 7) (T.cls 153) (ok_Book_change (K := K) T) hr (pa_cons pe_str (pa_cons (pe_op op_add (pv 8) (pe_ix (jx_list (K := K)) (pe_lst (pa_cons pe_int (pa_cons (pe_gf (ok_law_draw (K := K) T) hr (pa_cons (pv 2) (pa_cons pe_int pa_nil))) pa_nil))) (pe_gf (ok_law_draw (K := K) T) hr (pa_cons (pv 2) (pa_cons pe_int pa_nil))) (fun _ _ => rfl))) pa_nil))))
      (pss_cons (ps_if (pt_not (pt_val (pe_gf (ok_is_safe (K := K) T) hr (pa_cons (pv 6) (pa_cons (pv 5) (pa_cons (pv 7) pa_nil)))))) (pss_one (ps_ret pe_bl)) pss_nil)
      (pss_one (ps_for PassesOwn.never rfl (pi_range1 (by rfl) (T.free 71) (pa_cons pe_int pa_nil)) (pg_name (i := 9) sc_law.nd rfl (Or.inl rfl)) (pss_cons (ps_set (i := 10) sc_law.nd rfl (Or.inl rfl) (pe_gf (ok_law_row (K := K) T) hr (pa_cons (pv 2) (pa_cons (pv 4) (pa_cons pe_int (pa_cons (pe_gf (ok_law_draw (K := K) T) hr (pa_cons (pv 2) (pa_cons pe_int pa_nil))) (pa_cons pe_int pa_nil)))))))
      (pss_one (ps_if (pt_not (pt_val (pe_gf (ok_law_looks_right (K := K) T) hr (pa_cons (pv 2) (pa_cons (pv 4) (pa_cons (pv 6) (pa_cons (pv 5) (pa_cons (pv 7) (pa_cons (pv 10) pa_nil))))))))) (pss_one (ps_ret pe_bl)) pss_nil))))))) pss_nil)))))))))
      (pss_one (ps_ret pe_bl))), ?_⟩
    obtain ⟨sc, ns, rfl, hsc, hl, h⟩ := h
    walk_at "go"
    refine fo_range (Int.toNat_of_nonneg ?_).symm ?_ (fun i σ H1 => ∃ (x1 x2 x3 x4 x5 x6 x7 x8 x9 x10 : Option V), σ = [some (.ref sc), x1, x2, x3, x4, x5, x6, x7, x8, x9, x10] ∧ SqL K H1 sc (ns.map V.int)) ⟨_, _, _, _, _, _, _, _, _, _, rfl, hsc⟩ (fun i σ H1 hi hP => ?_) (fun σ H1 hP => ?_)
    · rw [List.length_map]
      split <;> split <;> omega
    · rw [List.length_map]
      split <;> split <;> omega
    · rw [List.length_map] at hi
      have hi2 : i ≤ 1000 := by
        revert hi
        split <;> split <;> omega
      clear hi
      obtain ⟨x1, x2, x3, x4, x5, x6, x7, x8, x9, x10, rfl, q1⟩ := hP
      walk_at "go"
      refine c_source q1 hi2 (fun s H2 n2 S2 s2 => ?_)
      have hsN : H1 s = none := n2
      walk_at "go"
      refine rd_I ⟨by decide, by decide, by decide⟩ ?_
      walk_at "go"
      intro l1 H3 n3 S3 h3
      have s3 := s2.same S3
      walk_at "go"
      refine c_draw s3 (by decide) (by decide) (fun j H4 X4 s4 j0 j1 => ?_)
      have h4 := X4 _ _ (s2.ne n3) h3
      rw [e8] at h4
      have ea := tri_at (a := 5) (b := 5) (c := 100000000) j0 j1
      obtain ⟨lg, elg, lg1, lg2⟩ : ∃ lg : Int, (if j = 0 then (5 : Int) else if j = 1 then 5 else 100000000) = lg ∧ 1 ≤ lg ∧ lg ≤ 100000000 := ⟨_, rfl, by split <;> (try split) <;> omega, by split <;> (try split) <;> omega⟩
      rw [elg] at ea
      have XA : Ex s H1 H4 := (Ex.of (S2.trans S3)).trans X4
      walk_at "go"
      refine c_draw s4 (by decide) (by decide) (fun d H5 X5 s5 d0 d1 => ?_)
      obtain ⟨mm, rfl⟩ : ∃ k : Nat, d = k := ⟨d.toNat, by omega⟩
      walk_at "go"
      rw [show (1 : Int) + (mm : Nat) = ((mm + 1 : Nat) : Int) by omega]
      refine rd_I ⟨by decide, by decide, by decide⟩ ?_
      walk_at "go"
      intro l2 H6 n6 S6 h6
      have s6 := s5.same S6
      walk_at "go"
      refine c_draw s6 (by decide) (by decide) (fun j2 H7 X7 s7 j20 j21 => ?_)
      have h7 := X7 _ _ (s5.ne n6) h6
      rw [e9] at h7
      have ea2 := pair_at (a := 9) (b := 1000000000) j20 j21
      obtain ⟨bc, ebc, bc1, bc2⟩ : ∃ bc : Int, (if j2 = 0 then (9 : Int) else 1000000000) = bc ∧ 1 ≤ bc ∧ bc ≤ 1000000000 := ⟨_, rfl, by split <;> omega, by split <;> omega⟩
      rw [ebc] at ea2
      have XB : Ex s H1 H7 := XA.trans (X5.trans ((Ex.of S6).trans X7))
      walk_at "go"
      refine c_plan s7 (by omega) (by omega) lg1 lg2 bc1 bc2 (fun p N R H8 X8 s8 ip W l6 k0 mx => ?_)
      walk_at "go"
      intro l3 H9 n9 S9 h9
      have s9 := s8.same S9
      walk_at "go"
      refine c_draw s9 (by decide) (by decide) (fun j3 H10 X10 s10 j30 j31 => ?_)
      have h10 := X10 _ _ (s8.ne n9) h9
      have ea3 := tri_at (a := 9) (b := 9) (c := 2000) j30 j31
      obtain ⟨rm, erm, rm1, rm2⟩ : ∃ rm : Int, (if j3 = 0 then (9 : Int) else if j3 = 1 then 9 else 2000) = rm ∧ 1 ≤ rm ∧ rm ≤ 2000 := ⟨_, rfl, by split <;> (try split) <;> omega, by split <;> (try split) <;> omega⟩
      rw [erm] at ea3
      walk_at "go"
      refine c_rule_row s10 rm1 rm2 (fun rp rz rk H11 X11 s11 hrp hrz k1 k2 => ?_)
      walk_at "go"
      refine c_rule hrp hrz k1 k2 (fun b rl H12 S12 hb hrl => ?_)
      have s12 := s11.same S12
      have XC : Ex s H8 H12 := (Ex.of S9).trans (X10.trans (X11.trans (Ex.of S12)))
      have ip12 := ip.kp (s8.kp XC)
      have XD : Ex s H1 H12 := XB.trans (X8.trans XC)
      obtain ⟨nl, al, nv', rv', hp, hnl, tnl, hal, tal⟩ := id ip12
      walk_at "go"
      intro wa dx H13 n13 S13 h13
      refine ⟨_, _, _, rfl, wa, dx, nl, al, nv', rv', N, R, rfl, rfl, rfl, h13, S13 _ _ hnl, S13 _ _ hal, tnl.same S13, tal.same S13, W, fun H14 X14 iw => ⟨rfl, ?_⟩⟩
      have S14 : Same H12 H14 := Ex.same n13 S13 X14
      have s14 := s12.same S14
      walk_at "go"
      refine c_parts s14 (by decide) (by decide) (by decide) (by decide) (fun pd bk lo per H15 X15 s15 hpd hlo o lt => ?_)
      walk_at "go"
      refine c_law_book hpd hlo o (fun c pp H16 S16 ib => ?_)
      have k15 := s14.kp X15
      have s16 := s15.same S16
      have B16 : Bas K H16 s p wa b c lo pp N R rl bk per := ⟨s16, ((ip12.same S14).kp k15).same S16, (iw.kp k15).same S16, ((hb.same S14).kp k15).same S16, ib⟩
      have XE : Ex s H1 H16 := XD.trans ((Ex.of S14).trans (X15.trans (Ex.of S16)))
      have q16 := SqL.exs q1 hsN q1 XE
      walk_at "go"
      refine ⟨_, _, rfl, ?_⟩
      walk_at "go"
      refine c_least_bound B16.way W B16.rule hrl B16.book o (fun G H17 S17 gk => ?_)
      have B17 := B16.same S17
      have q17 := SqL.keep S17 q16
      cases es : AgM.seenMost (AgM.T N R rl G bk.looks) R bk with
      | none =>
        simp only [AgM.leastOf, agV]
        walk_at "go"
        exact ⟨_, _, _, _, _, _, _, _, _, _, rfl, q17⟩
      | some sn =>
        have e1 : AgM.leastOf (some sn) bk = some (if sn = -1 then 0 else sn / bk.day + AgM.b2i (!bk.above)) := by
          unfold AgM.leastOf
          dsimp only
          split <;> rfl
        rw [e1]
        obtain ⟨v, ev⟩ : ∃ v, v = (if sn = -1 then 0 else sn / bk.day + AgM.b2i (!bk.above)) := ⟨_, rfl⟩
        rw [← ev]
        simp only [agV]
        have low := AgM.seen_low _ _ _ es
        have top := seen_top W gk hrl o es
        walk_at "go"
        refine c_draw B17.src (by decide) (by decide) (fun d7 H18 X18 s18 d70 d71 => ?_)
        walk_at "go"
        intro l4 H19 n19 S19 h19
        have s19 := s18.same S19
        walk_at "go"
        refine c_draw s19 (by decide) (by decide) (fun j5 H20 X20 s20 j50 j51 => ?_)
        have h20 := X20 _ _ (s18.ne n19) h19
        have ea5 := pair_at (a := 0) (b := d7) j50 j51
        obtain ⟨dd, edd, dd1, dd2⟩ : ∃ dd : Int, (if j5 = 0 then (0 : Int) else d7) = dd ∧ 0 ≤ dd ∧ dd ≤ 2 := ⟨_, rfl, by split <;> omega, by split <;> omega⟩
        rw [edd] at ea5
        have B20 := ((B17.ex X18 s18).same S19).ex X20 s20
        have X1720 : Ex s H17 H20 := X18.trans ((Ex.of S19).trans X20)
        have q20 := SqL.exs q1 hsN q17 X1720
        obtain ⟨w1, w2, w3⟩ := safe_up (d := dd) o low top ev dd1 dd2
        walk_at "go"
        refine c_change B20.book (.bound w1 w2) (fun H21 X21 h21 => ?_)
        obtain ⟨dxb, g1, g2, g3⟩ := id B20.book
        have k21 : Kp H20 H21 := Kp.ex X21 g2 rfl
        have nps : pp ≠ s := by
          obtain ⟨n, e, z, _⟩ := B20.src
          exact ne_of g2 z (by intro z; cases z)
        have o' : BOk { bk with bound := v + dd } per := ⟨w1, w2, o.lk, o.d1, o.d2, o.g1, o.g2, o.l1, o.l2, o.p1, o.p2⟩
        have B21 : Bas K H21 s p wa b c lo pp N R rl { bk with bound := v + dd } per := ⟨B20.src.ex X21 nps, B20.plan.kp k21, B20.way.kp k21, B20.rule.kp k21, B20.book.chg X21 h21 rfl⟩
        have q21 := SqL.exd q20 g2 X21
        walk_at "go"
        refine c_is_safe B21.way W B21.rule hrl B21.book o' (fun G2 H22 S22 gk2 => ?_)
        have eG := gk.one gk2
        subst eG
        have es' : AgM.seenMost (AgM.T N R rl G2 ({ bk with bound := v + dd } : Bk).looks) R { bk with bound := v + dd } = some sn := es
        rw [es']
        have esf : safeB (some sn) { bk with bound := v + dd } = true := by
          unfold safeB
          dsimp only
          rcases w3 with z | z
          · rw [decide_eq_true z]
            rfl
          · rw [decide_eq_true z, Bool.or_true]
        rw [esf]
        have B22 := B21.same S22
        have q22 := SqL.keep S22 q21
        walk_at "go"
        refine fo_range (n := 4) rfl (by decide) (fun k σ H23 => ∃ (y1 y2 y3 y4 : Option V), σ = [some (.ref sc), y1, some (.ref s), y2, some (.ref p), some (.ref b), some (.ref wa), some (.ref c), some (.int v), y3, y4] ∧ SqL K H23 sc (ns.map V.int) ∧ Bas K H23 s p wa b c lo pp N R rl { bk with bound := v + dd } per) ⟨_, _, _, _, rfl, q22, B22⟩ (fun k σ H23 hk hP => ?_) (fun σ H23 hP => ?_)
        · obtain ⟨y1, y2, y3, y4, rfl, q23, B23⟩ := hP
          walk_at "go"
          refine c_draw B23.src (by decide) (by decide) (fun st H24 X24 s24 st0 st1 => ?_)
          have B24 := B23.ex X24 s24
          walk_at "go"
          refine c_law_row s24 B24.plan W l6 k0 mx (by decide) (by decide) st0 (by omega) (fun q rw H25 X25 s25 hrow O bd => ?_)
          have B25 := B24.ex X25 s25
          walk_at "go"
          refine c_right ⟨s25, B25.plan, B25.way, B25.rule, B25.book, hrow⟩ W O bd o' lt (fun n0 t0 r0 u e0 h0 hu => use_then W gk2 hrl O o' es' w3 e0 h0 hu) (fun n0 t0 r0 t u e0 h0 h1 h2 ha hu => use_at W gk2 hrl O o' es' w3 e0 h0 h1 h2 ha hu) (fun H26 X26 s26 => ?_)
          walk_at "go"
          exact ⟨_, _, _, _, rfl, SqL.exs q1 hsN q23 (X24.trans (X25.trans X26)), B25.ex X26 s26⟩
        · obtain ⟨y1, y2, y3, y4, rfl, q23, B23⟩ := hP
          exact ⟨_, _, _, _, _, _, _, _, _, _, rfl, q23⟩
    · walk_at "go"
      exact h H1
  obtain ⟨t, h1, h2⟩ := key
  exact ⟨t, h1.nox, h2⟩
end
end AgW
end
open PySem PySem.W PySem.Calls PyProof.Rows
theorem PySem.Challenge.cw_agedfiles_k53_whole_safe_books_spare_wha_holds : PySem.Challenge.rw_agedfiles_k53_whole_safe_books_spare_wha.Holds := by
  refine AgH.holds_of ?_
  refine L2.walk_ofE (l := PySem.Challenge.rw_agedfiles_k53_whole_safe_books_spare_wha) (n := 63) (k := 33) (x := "script") (CX := L2.CX0) rfl (by decide) (by kernel_rfl) ⟨rfl, by decide, by decide⟩ ?F (fun _ _ _ _ z => z)
  intro w mg fa h Y G hmg0
  obtain ⟨K, KX, c⟩ := Y
  have T : AgT.Tx K mg := AgT.tx_of KX G c
  have hmg : mg ("law" : PySem.Str) = some (.ref fa) := by
    have e : (HandSHeadRun.topDef (OpenLaw.row PySem.Challenge.rw_agedfiles_k53_whole_safe_books_spare_wha).prog 114).name = ("law" : PySem.Str) := by kernel_rfl
    rw [← e]
    exact hmg0
  have e := hmg.symm.trans (T.glo 61)
  cases e
  obtain ⟨fd, F⟩ := T.def_ 102 AgT.d_law rfl
  have b := L2.FunD.bindsA (ps := ["script"]) F (fun _ _ _ _ _ _ us hl => match us, hl with | [_], _ => rfl)
  exact ⟨K, fd, AgW.sp_law K, KX, fun s v => b s [v] rfl, fun H a ns hl _ hS => ⟨_, rfl, a, ns, rfl, hS, Nat.le_trans hl (by decide), fun _ => rfl⟩, fun base _ _ => AgW.ok_law T F⟩
