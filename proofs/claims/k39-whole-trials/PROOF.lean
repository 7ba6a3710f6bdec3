import PyProof.Rows.All
import Wide.All
import OpenK.AllK
import Wide.FinOn
import HandS.Base
import HandS.Call
import HandS.List
import HandS.Comp
import HandS.Dict
import HandS.More
import HandS.Exc
import HandS.Property
import HandS.ClsMeth
import HandS.Star
import HandS.Words
import HandS.Evl
import HandS.Defaults
import HandS.SlotsOwn
import HandS.HeadHook1
import HandS.HeadHook2
import KE.KStateDown
import KE.KNest
import KE.KNestM
import HandS.Head0
import HandS.Head1
import HandS.Head2
import HandS.HeadHook3
import HandS.HeadHook4
import HandS.HeadNt
import HandS.ExcInit
import HandS.ExcField
import KE.KWithOwn
import HandS.ExcOwn
import HandS.TryOnly
import HandS.Finally
import HandS.HotCalls
import HandS.WordsExc
import HandS.Iter
import HandS.DictComp
import HandS.Walk
import PyProof.Rows.SetFrom
import HandS.Set
import HandS.SetFor
import HandS.SetKeys
import PyProof.EnumMake
import PyProof.Draws
import KE.GoesMore
import KE.GoesEnum
import HandS.ForMost
import HandS.IsInst
import HandS.RaiseMore
import HandS.Flow
import HandS.OwnEq
import HandS.Wide
import KE.KDictList
import KE.KDictSum
import KE.KSuper
import HandS.Nested
import KE.KDictOf
import PyProof.AutoSeq1
import PyProof.ReprRoads
import PyProof.ReprLen
import KE.KExcSuper
import HandS.ExcSuper
import HandS.Lambda
import PyProof.InstNe
import PyProof.ListStr
import HandS.Conv
import HandS.TryMany
import HandS.RaiseOp
import HandS.TupLe
import HandS.Ends
import HandS.Codes
import HandS.EndBits
import PySem.Challenge.RW_seenframes_k39_whole_trials_of_networks
set_option Elab.async false
set_option linter.all false
set_option maxRecDepth 100000
set_option maxHeartbeats 0
namespace SfW
open PySem PySem.Spec PyProof.Rows L2
/-! calls by positional promises -/
abbrev topS (i : Nat) : Stmt := PySem.Challenge.pw_seenframes_k39_whole_trials_of_networks.main.body.getD i (.Pass ⟨0, 0, 0, 0⟩)
/-- the def st stands at a -/
def FnAt (K : PySem.W.Frag) (a : Addr) (x qual : Str) (st : Stmt) (dvs : List V) : Prop := ∃ fd, FunD K x qual (defArgs st) (defBody st) (defScope st) dvs [] a fd
theorem FnAt.kp {K : PySem.W.Frag} {a : Addr} {x qual : Str} {st : Stmt} {dvs : List V} (F : FnAt K a x qual st dvs) : PySem.W.keepIn K (.ref a) = true := by
  obtain ⟨fd, F⟩ := F
  exact F.kp
section
variable {P : Program} {w : World} {K : PySem.W.Frag} {mg : Str → Option Value} {base : Heap} {CX : CXT} {k : Nat} {sp : Sp} {x qual : Str} {st : Stmt} {a : Addr} {N ps : List Str} {dvs : List V}
abbrev Body (P : Program) (w : World) (K : PySem.W.Frag) (mg : Str → Option Value) (base : Heap) (CX : CXT) (k : Nat) (a : Addr) (qual : Str) (st : Stmt) (N : List Str) (sp : Sp) : Prop :=
  ∀ (cdv : Value) (A : Around) (outer : List Env) (s : Shared) (H : Hp) (vs : List V) (Q : VK) (E : XK), Room k (A.deeper (envOfC qual (defScope st) s.heap.objs.size a cdv)) → sp vs H Q E →
      ∃ t, PSs (cxOf CX P w K mg base N qual (defScope st) a cdv A outer s H E) (defBody st) t ∧ t { nx := fun _ H' => Q .non H', rt := Q } (start N vs) H
abbrev Body0 (P : Program) (w : World) (K : PySem.W.Frag) (mg : Str → Option Value) (base : Heap) (k : Nat) (a : Addr) (qual : Str) (st : Stmt) (N : List Str) (sp : Sp) : Prop :=
  ∀ (cdv : Value) (A : Around) (outer : List Env) (s : Shared) (H : Hp) (vs : List V) (Q : VK) (E : XK), Room k (A.deeper (envOfC qual (defScope st) s.heap.objs.size a cdv)) → sp vs H Q E →
      ∃ t, PSs (cxOf CX0 P w K mg base N qual (defScope st) a cdv A outer s H E).nox (defBody st) t ∧ t { nx := fun _ H' => Q .non H', rt := Q } (start N vs) H
theorem body0 (h : Body0 P w K mg base k a qual st N sp) : Body P w K mg base CX0 k a qual st N sp := fun cdv A outer s H vs Q E hr q => by
  obtain ⟨t, h1, h2⟩ := h cdv A outer s H vs Q E hr q
  exact ⟨t, h1.nox, h2⟩
theorem FnAt.fn (F : FnAt K a x qual st []) (S : FnScope N ps (defScope st)) (len : ∀ vs H Q E, sp vs H Q E → vs.length = ps.length)
    (hb : ∀ (kV doc pm : Value) (an : Option Addr) (cdv ct : Value) (us : List Value), us.length = ps.length → bindArgs (PySem.W.fnOf x qual (defArgs st) (defBody st) (defScope st) .none kV doc pm an cdv ct) ⟨us, []⟩ = pure (ps.zip us))
    (hbody : Body P w K mg base CX k a qual st N sp) : FnR P w K mg base CX (k + 1) a sp := by
  obtain ⟨fd, F⟩ := F
  have G := (F.ok S len hbody).raw (F.bindsN hb) .nil
  intro A outer s H us vs Q E hr e0 r hs
  refine G A outer s H us vs Q E hr e0 r ?_
  show sp (vs ++ []) H Q E
  rw [List.append_nil]
  exact hs
/-- the same where the def has one default (the last parameter): called with it, and without -/
theorem FnAt.fnD (F : FnAt K a x qual st dvs) (S : FnScope N ps (defScope st)) (len : ∀ vs H Q E, sp vs H Q E → vs.length = ps.length) (n j : Nat) (hd : dvs ≠ []) (hn : n + (dvs.length - j) = ps.length)
    (hb : ∀ (T : Addr) (kV doc pm : Value) (an : Option Addr) (cdv ct : Value) (us its : List Value), us.length = n → its.length = dvs.length →
      ∃ k, bindArgs (PySem.W.fnOf x qual (defArgs st) (defBody st) (defScope st) (.ref T) kV doc pm an cdv ct) ⟨us, []⟩ = seqItems? (.ref T) >>= k ∧ k (some its.toArray) = pure (ps.zip (us ++ its.drop j)))
    (hbody : Body P w K mg base CX k a qual st N sp) : FnR P w K mg base CX (k + 1) a (fun vs H Q E => sp (vs ++ dvs.drop j) H Q E) := by
  obtain ⟨fd, F⟩ := F
  obtain ⟨ds, hv, hB⟩ := F.binds1 n j hd hn hb
  exact (F.ok S len hbody).raw hB hv
theorem fn_weak {k' : Nat} {sp' : Sp} (F : FnR P w K mg base CX k a sp) (hk : k ≤ k') (h : ∀ vs H Q E, sp' vs H Q E → sp vs H Q E) : FnR P w K mg base CX k' a sp' := (F.mono hk).imp h
end
theorem iteY {c A B : Prop} [Decidable c] (hc : c) (h : A) : if decide c = true then A else B := by
  rw [decide_eq_true hc]
  exact iteT h
theorem iteZ {c A B : Prop} [Decidable c] (hc : ¬ c) (h : B) : if decide c = true then A else B := by
  rw [decide_eq_false hc]
  exact iteF h
/-- the same of not -/
theorem iteNY {c A B : Prop} [Decidable c] (hc : c) (h : B) : if (!decide c) = true then A else B := iteNS hc h
theorem iteNZ {c A B : Prop} [Decidable c] (hc : ¬ c) (h : A) : if (!decide c) = true then A else B := by
  rw [decide_eq_false hc]
  exact iteT h
/-! ### calls -/
def tCallR (sp : Sp) (E : XK) (t : TA) : TE := fun σ H Q => t σ H fun vs H1 => sp vs H1 Q E
section
variable {X : Cx} {CX : CXT} {k : Nat} {f C p g : Addr} {sp : Sp} {E : XK} {x m : Str} {pp pos apos : Pos} {e o : Expr} {es : List Expr} {ta : TE} {t : TA} {pl : Sem Bool}
theorem pe_callR (F : FnR X.prog X.w X.K X.mg X.base CX k f sp) (hr : Room k X.A) (hk : PySem.W.keepIn X.K (.ref f) = true) (hm : X.mg x = some (.ref f)) (hx : Passes CX X E) (ha : PA X (e :: es) t)
    (hg : Gl X x := by rfl) (hdb : (x == ("__debug__" : Str)) = false := by decide) (he : starEach (e :: es) X.env = (false, eval e X.env) :: starEach es X.env := by rfl) (hpl : (backTo pos (starEach es X.env)).any (·.1) = false := by rfl) :
    PE X (.Call (.Name x pp) (e :: es) [] pos) (tCallR sp E t) := by
  refine ⟨fun pins s σ H Q I h => ?_⟩
  refine wpAny_Call_Name_kw (ld_glob I hg hm ?_ hdb)
  refine PySem.W.callWith_K (h₀ := X.base) I.ok.mod.kin hk (thn (ha.run pos pins s σ H _ I h) fun us s1 ⟨vs, H1, I1, r, q⟩ => ⟨I1.kIn, ?_⟩) he hpl
  exact wpAny_call (run_fnR F hr hx I1 r q)
theorem pe_methR0 (he : PE X o ta) (c : Cls X.K C) (hm : Meth X.K C m f) (F : FnR X.prog X.w X.K X.mg X.base CX k f sp) (hr : Room k X.A) (hx : Passes CX X E)
    (ht : eval (.Call (.Attribute o m apos) [] [] pos) X.env = (do
      let ov ← eval o X.env
      standAt apos.atName
      let (f, first) ← holding [ov] (getMethod ov m pl)
      callWith pos f first (backTo pos (starEach [] X.env)) (backToKw pos (keywordEach [] X.env))) := by rfl) :
    PE X (.Call (.Attribute o m apos) [] [] pos) (tMethR C m sp E ta tNil) := by
  refine ⟨fun pins s σ H Q I h => ?_⟩
  refine PySem.W.methodCall_KW (pl := pl) (thn (he.run pins s σ H _ I h) fun u s1 ⟨x, H1, I1, rx, a, dx, fs, ex, ea, l, q⟩ => ?_) ht
  subst ex
  obtain rfl : u = Value.ref a := rx
  refine getmeth_ok I1 ea c hm l ?_
  exact PySem.W.callWith_K0 (first := [.ref a]) I1.kIn hm.kp (wpAny_call (run_fnR (us := [.ref a]) (vs := [.ref a]) F hr hx I1 (.cons rfl .nil) q))
/-- e.f, a property -/
def tPropR (C : Addr) (sp : Sp) (E : XK) (ta : TE) : TE := fun σ H Q => ta σ H fun x H1 => ∃ a dx fs, x = .ref a ∧ H1 a = some (.ins C dx fs) ∧ sp [.ref a] H1 Q E
theorem pe_propR (he : PE X e ta) (c : Cls X.K C) (hp : PropOf X.K C m p g) (F : FnR X.prog X.w X.K X.mg X.base CX k g sp) (hr : Room (k + 1) X.A)
    (hx : Passes CX X.nox E) (hab : attributeBase e m X.env (eval e X.env) = eval e X.env := by rfl) : PE X (.Attribute e m pos) (tPropR C sp E ta) := by
  refine ⟨fun pins s σ H Q I h => ?_⟩
  refine attr_of hab (thn (he.run pins s σ H _ I h) fun u s1 ⟨x, H1, I1, rx, a, dx, fs, ex, ea, q⟩ => ?_)
  subst ex
  obtain rfl : u = Value.ref a := rx
  obtain ⟨mA, O, _, _, _, _⟩ := ins_get I1.hok ea
  obtain ⟨od, J, _⟩ := O.look
  obtain ⟨rest, hrec⟩ := hp.rec_
  have I2 := I1.tok (s1.toks + 1)
  have hc : (PySem.W.clsIn X.K C).isSome = true := by
    obtain ⟨cd, hc, _⟩ := PySem.W.any_some c.hd
    rw [hc]
    rfl
  refine PySem.W.get_bind I1.kIn J (PySem.W.plainGet_of (c.get m)).1 (PySem.W.findObj_data hc hp.at_ hp.get hp.tak) (PySem.W.plainGet_of (c.get m)).2 (wpAny_call (PySem.W.prop_get (s := { s1 with toks := s1.toks + 1 }) I1.kIn hrec ?_))
  refine codeAny_mono (F X.A.in1 X.stack { s1 with toks := s1.toks + 1 } H1 [.ref a] [.ref a] Q E hr.in1 I2.env0.in1 (.cons rfl .nil) q) fun r s' hq => ?_
  cases r with
  | error er => exact False.elim (hx pins σ H1 { s1 with toks := s1.toks + 1 } er s' (I2.wish _) hq)
  | ok fl =>
    cases fl with
    | ret u =>
      obtain ⟨v, H', I3, rv, q3⟩ := I2.after hq
      show wpAny _ _ (handedOut u) _ _ _
      rw [PySem.W.handedOut_of (handed_of rv)]
      exact wpAny_pure ⟨v, H', I3, rv, q3⟩
    | next => exact False.elim hq
    | brk => exact False.elim hq
    | cont => exact False.elim hq
end
end SfW
namespace SfW
open PySem PySem.Spec PyProof.Rows L2
/-! the text by places, and what of it is known behind the top (printed by gent.py) -/
/-- a property's getter, a classmethod's def -/
def pgA (K : PySem.W.Frag) (C : Addr) (f : Str) : Addr := match PySem.W.recIn K (He.ma K C f) "property" with
  | some (.ref g :: _) => g
  | _ => 0
def cmA (K : PySem.W.Frag) (C : Addr) (f : Str) : Addr := match PySem.W.recIn K (He.ma K C f) "classmethod" with
  | some (.ref g :: _) => g
  | _ => 0
abbrev s_is_name : Stmt := topS 27
abbrev N_is_name : List Str := ["value", "sign"]
theorem S_is_name : FnScope N_is_name ["value"] (defScope s_is_name) := ⟨rfl, rfl, rfl, by decide +kernel, rfl, by decide +kernel, by decide +kernel⟩
abbrev s_ascending_names : Stmt := topS 29
abbrev N_ascending_names : List Str := ["names", "name"]
theorem S_ascending_names : FnScope N_ascending_names ["names"] (defScope s_ascending_names) := ⟨rfl, rfl, rfl, by decide +kernel, rfl, by decide +kernel, by decide +kernel⟩
abbrev s_hosts_of : Stmt := topS 31
abbrev N_hosts_of : List Str := ["values", "most", "at", "value"]
theorem S_hosts_of : FnScope N_hosts_of ["values", "most"] (defScope s_hosts_of) := ⟨rfl, rfl, rfl, by decide +kernel, rfl, by decide +kernel, by decide +kernel⟩
abbrev s_Frame_init : Stmt := inClass (topS 35) 0
abbrev N_Frame_init : List Str := ["self", "sender", "target"]
theorem S_Frame_init : FnScope N_Frame_init ["self", "sender", "target"] (defScope s_Frame_init) := ⟨rfl, rfl, rfl, by decide +kernel, rfl, by decide +kernel, by decide +kernel⟩
abbrev s_Frame_place : Stmt := inClass (topS 35) 3
abbrev N_Frame_place : List Str := ["self"]
theorem S_Frame_place : FnScope N_Frame_place ["self"] (defScope s_Frame_place) := ⟨rfl, rfl, rfl, by decide +kernel, rfl, by decide +kernel, by decide +kernel⟩
abbrev s_Frame_eq : Stmt := inClass (topS 35) 8
abbrev N_Frame_eq : List Str := ["self", "other"]
theorem S_Frame_eq : FnScope N_Frame_eq ["self", "other"] (defScope s_Frame_eq) := ⟨rfl, rfl, rfl, by decide +kernel, rfl, by decide +kernel, by decide +kernel⟩
abbrev s_History_init : Stmt := inClass (topS 39) 1
abbrev N_History_init : List Str := ["self", "frames", "at", "frame"]
theorem S_History_init : FnScope N_History_init ["self", "frames"] (defScope s_History_init) := ⟨rfl, rfl, rfl, by decide +kernel, rfl, by decide +kernel, by decide +kernel⟩
abbrev s_History_of : Stmt := inClass (topS 39) 2
abbrev N_History_of : List Str := ["cls", "frames"]
theorem S_History_of : FnScope N_History_of ["cls", "frames"] (defScope s_History_of) := ⟨rfl, rfl, rfl, by decide +kernel, rfl, by decide +kernel, by decide +kernel⟩
abbrev s_History_frames : Stmt := inClass (topS 39) 4
abbrev N_History_frames : List Str := ["self"]
theorem S_History_frames : FnScope N_History_frames ["self"] (defScope s_History_frames) := ⟨rfl, rfl, rfl, by decide +kernel, rfl, by decide +kernel, by decide +kernel⟩
abbrev s_History_hosts : Stmt := inClass (topS 39) 5
abbrev N_History_hosts : List Str := ["self", "senders", "frame"]
theorem S_History_hosts : FnScope N_History_hosts ["self"] (defScope s_History_hosts) := ⟨rfl, rfl, rfl, by decide +kernel, rfl, by decide +kernel, by decide +kernel⟩
abbrev s_Note_init : Stmt := inClass (topS 41) 0
abbrev N_Note_init : List Str := ["self", "subject", "outer"]
theorem S_Note_init : FnScope N_Note_init ["self", "subject", "outer"] (defScope s_Note_init) := ⟨rfl, rfl, rfl, by decide +kernel, rfl, by decide +kernel, by decide +kernel⟩
abbrev s_Trial_init : Stmt := inClass (topS 42) 0
abbrev N_Trial_init : List Str := ["self", "subject"]
theorem S_Trial_init : FnScope N_Trial_init ["self", "subject"] (defScope s_Trial_init) := ⟨rfl, rfl, rfl, by decide +kernel, rfl, by decide +kernel, by decide +kernel⟩
abbrev s_Trial_enter : Stmt := inClass (topS 42) 1
abbrev N_Trial_enter : List Str := ["self"]
theorem S_Trial_enter : FnScope N_Trial_enter ["self"] (defScope s_Trial_enter) := ⟨rfl, rfl, rfl, by decide +kernel, rfl, by decide +kernel, by decide +kernel⟩
abbrev s_Trial_exit : Stmt := inClass (topS 42) 2
abbrev N_Trial_exit : List Str := ["self", "kind", "value", "trace"]
theorem S_Trial_exit : FnScope N_Trial_exit ["self", "kind", "value", "trace"] (defScope s_Trial_exit) := ⟨rfl, rfl, rfl, by decide +kernel, rfl, by decide +kernel, by decide +kernel⟩
abbrev s_Player_init : Stmt := inClass (topS 43) 0
abbrev N_Player_init : List Str := ["self", "ground_told", "hosts", "state"]
theorem S_Player_init : FnScope N_Player_init ["self", "ground_told", "hosts", "state"] (defScope s_Player_init) := ⟨rfl, rfl, rfl, by decide +kernel, rfl, by decide +kernel, by decide +kernel⟩
abbrev s_Player_hosts : Stmt := inClass (topS 43) 1
abbrev N_Player_hosts : List Str := ["self"]
theorem S_Player_hosts : FnScope N_Player_hosts ["self"] (defScope s_Player_hosts) := ⟨rfl, rfl, rfl, by decide +kernel, rfl, by decide +kernel, by decide +kernel⟩
abbrev s_Player_sights : Stmt := inClass (topS 43) 3
abbrev N_Player_sights : List Str := ["self"]
theorem S_Player_sights : FnScope N_Player_sights ["self"] (defScope s_Player_sights) := ⟨rfl, rfl, rfl, by decide +kernel, rfl, by decide +kernel, by decide +kernel⟩
abbrev s_need_host : Stmt := inClass (topS 43) 7
abbrev N_need_host : List Str := ["self", "host"]
theorem S_need_host : FnScope N_need_host ["self", "host"] (defScope s_need_host) := ⟨rfl, rfl, rfl, by decide +kernel, rfl, by decide +kernel, by decide +kernel⟩
abbrev s_need_frame : Stmt := inClass (topS 43) 8
abbrev N_need_frame : List Str := ["self", "frame"]
theorem S_need_frame : FnScope N_need_frame ["self", "frame"] (defScope s_need_frame) := ⟨rfl, rfl, rfl, by decide +kernel, rfl, by decide +kernel, by decide +kernel⟩
abbrev s_send : Stmt := inClass (topS 43) 9
abbrev N_send : List Str := ["self", "frame", "state", "sight"]
theorem S_send : FnScope N_send ["self", "frame"] (defScope s_send) := ⟨rfl, rfl, rfl, by decide +kernel, rfl, by decide +kernel, by decide +kernel⟩
abbrev s_play : Stmt := inClass (topS 43) 11
abbrev N_play : List Str := ["self", "history", "host", "frame"]
theorem S_play : FnScope N_play ["self", "history"] (defScope s_play) := ⟨rfl, rfl, rfl, by decide +kernel, rfl, by decide +kernel, by decide +kernel⟩
abbrev s_seers : Stmt := inClass (topS 43) 12
abbrev N_seers : List Str := ["self", "host", "seen", "frame", "sight", "one"]
theorem S_seers : FnScope N_seers ["self", "host"] (defScope s_seers) := ⟨rfl, rfl, rfl, by decide +kernel, rfl, by decide +kernel, by decide +kernel⟩
abbrev s_back : Stmt := inClass (topS 43) 15
abbrev N_back : List Str := ["self"]
theorem S_back : FnScope N_back ["self"] (defScope s_back) := ⟨rfl, rfl, rfl, by decide +kernel, rfl, by decide +kernel, by decide +kernel⟩
abbrev s_reset : Stmt := inClass (topS 43) 16
abbrev N_reset : List Str := ["self"]
theorem S_reset : FnScope N_reset ["self"] (defScope s_reset) := ⟨rfl, rfl, rfl, by decide +kernel, rfl, by decide +kernel, by decide +kernel⟩
abbrev s_trial : Stmt := inClass (topS 43) 18
abbrev N_trial : List Str := ["self"]
theorem S_trial : FnScope N_trial ["self"] (defScope s_trial) := ⟨rfl, rfl, rfl, by decide +kernel, rfl, by decide +kernel, by decide +kernel⟩
abbrev s_tried : Stmt := inClass (topS 43) 19
abbrev N_tried : List Str := ["self", "work", "same"]
theorem S_tried : FnScope N_tried ["self", "work"] (defScope s_tried) := ⟨rfl, rfl, rfl, by decide +kernel, rfl, by decide +kernel, by decide +kernel⟩
abbrev s_Player_eq : Stmt := inClass (topS 43) 20
abbrev N_Player_eq : List Str := ["self", "other"]
theorem S_Player_eq : FnScope N_Player_eq ["self", "other"] (defScope s_Player_eq) := ⟨rfl, rfl, rfl, by decide +kernel, rfl, by decide +kernel, by decide +kernel⟩
abbrev s_Player_len : Stmt := inClass (topS 43) 22
abbrev N_Player_len : List Str := ["self"]
theorem S_Player_len : FnScope N_Player_len ["self"] (defScope s_Player_len) := ⟨rfl, rfl, rfl, by decide +kernel, rfl, by decide +kernel, by decide +kernel⟩
abbrev s_is_side : Stmt := topS 46
abbrev N_is_side : List Str := ["value", "one"]
theorem S_is_side : FnScope N_is_side ["value"] (defScope s_is_side) := ⟨rfl, rfl, rfl, by decide +kernel, rfl, by decide +kernel, by decide +kernel⟩
abbrev s_ascending_cuts : Stmt := topS 47
abbrev N_ascending_cuts : List Str := ["names", "name"]
theorem S_ascending_cuts : FnScope N_ascending_cuts ["names"] (defScope s_ascending_cuts) := ⟨rfl, rfl, rfl, by decide +kernel, rfl, by decide +kernel, by decide +kernel⟩
abbrev s_Cut_init : Stmt := inClass (topS 49) 0
abbrev N_Cut_init : List Str := ["self", "one", "other", "first", "second", "is_turned", "name"]
theorem S_Cut_init : FnScope N_Cut_init ["self", "one", "other"] (defScope s_Cut_init) := ⟨rfl, rfl, rfl, by decide +kernel, rfl, by decide +kernel, by decide +kernel⟩
abbrev s_Cut_near : Stmt := inClass (topS 49) 2
abbrev N_Cut_near : List Str := ["self"]
theorem S_Cut_near : FnScope N_Cut_near ["self"] (defScope s_Cut_near) := ⟨rfl, rfl, rfl, by decide +kernel, rfl, by decide +kernel, by decide +kernel⟩
abbrev s_Cut_far : Stmt := inClass (topS 49) 3
abbrev N_Cut_far : List Str := ["self"]
theorem S_Cut_far : FnScope N_Cut_far ["self"] (defScope s_Cut_far) := ⟨rfl, rfl, rfl, by decide +kernel, rfl, by decide +kernel, by decide +kernel⟩
abbrev s_Cut_hosts : Stmt := inClass (topS 49) 4
abbrev N_Cut_hosts : List Str := ["self"]
theorem S_Cut_hosts : FnScope N_Cut_hosts ["self"] (defScope s_Cut_hosts) := ⟨rfl, rfl, rfl, by decide +kernel, rfl, by decide +kernel, by decide +kernel⟩
abbrev s_crosses : Stmt := inClass (topS 49) 6
abbrev N_crosses : List Str := ["self", "other", "side", "beside", "name"]
theorem S_crosses : FnScope N_crosses ["self", "other"] (defScope s_crosses) := ⟨rfl, rfl, rfl, by decide +kernel, rfl, by decide +kernel, by decide +kernel⟩
abbrev s_in_order : Stmt := topS 50
abbrev N_in_order : List Str := ["cuts", "by_far", "cut", "text", "key"]
theorem S_in_order : FnScope N_in_order ["cuts"] (defScope s_in_order) := ⟨rfl, rfl, rfl, by decide +kernel, rfl, by decide +kernel, by decide +kernel⟩
abbrev s_first_crossing : Stmt := topS 51
abbrev N_first_crossing : List Str := ["cuts", "at", "one", "other"]
theorem S_first_crossing : FnScope N_first_crossing ["cuts"] (defScope s_first_crossing) := ⟨rfl, rfl, rfl, by decide +kernel, rfl, by decide +kernel, by decide +kernel⟩
abbrev s_need_cuts : Stmt := topS 66
abbrev N_need_cuts : List Str := ["hosts", "cuts", "at", "cut", "found"]
theorem S_need_cuts : FnScope N_need_cuts ["hosts", "cuts"] (defScope s_need_cuts) := ⟨rfl, rfl, rfl, by decide +kernel, rfl, by decide +kernel, by decide +kernel⟩
abbrev s_Tree_init : Stmt := inClass (topS 68) 1
abbrev N_Tree_init : List Str := ["self", "hosts", "cuts", "names"]
theorem S_Tree_init : FnScope N_Tree_init ["self", "hosts", "cuts"] (defScope s_Tree_init) := ⟨rfl, rfl, rfl, by decide +kernel, rfl, by decide +kernel, by decide +kernel⟩
abbrev s_is_switch : Stmt := topS 72
abbrev N_is_switch : List Str := ["value"]
theorem S_is_switch : FnScope N_is_switch ["value"] (defScope s_is_switch) := ⟨rfl, rfl, rfl, by decide +kernel, rfl, by decide +kernel, by decide +kernel⟩
abbrev s_is_link : Stmt := topS 73
abbrev N_is_link : List Str := ["value"]
theorem S_is_link : FnScope N_is_link ["value"] (defScope s_is_link) := ⟨rfl, rfl, rfl, by decide +kernel, rfl, by decide +kernel, by decide +kernel⟩
abbrev s_need_links : Stmt := topS 74
abbrev N_need_links : List Str := ["links", "link"]
theorem S_need_links : FnScope N_need_links ["links"] (defScope s_need_links) := ⟨rfl, rfl, rfl, by decide +kernel, rfl, by decide +kernel, by decide +kernel⟩
abbrev s_need_places : Stmt := topS 75
abbrev N_need_places : List Str := ["places", "host"]
theorem S_need_places : FnScope N_need_places ["places"] (defScope s_need_places) := ⟨rfl, rfl, rfl, by decide +kernel, rfl, by decide +kernel, by decide +kernel⟩
abbrev s_links_in_order : Stmt := topS 76
abbrev N_links_in_order : List Str := ["links", "numbers", "one", "other", "number"]
theorem S_links_in_order : FnScope N_links_in_order ["links"] (defScope s_links_in_order) := ⟨rfl, rfl, rfl, by decide +kernel, rfl, by decide +kernel, by decide +kernel⟩
abbrev s_next_to : Stmt := topS 77
abbrev N_next_to : List Str := ["links", "switch", "one", "other"]
theorem S_next_to : FnScope N_next_to ["links", "switch"] (defScope s_next_to) := ⟨rfl, rfl, rfl, by decide +kernel, rfl, by decide +kernel, by decide +kernel⟩
abbrev s_guests_of : Stmt := topS 78
abbrev N_guests_of : List Str := ["places", "switch", "host"]
theorem S_guests_of : FnScope N_guests_of ["places", "switch"] (defScope s_guests_of) := ⟨rfl, rfl, rfl, by decide +kernel, rfl, by decide +kernel, by decide +kernel⟩
abbrev s_grouped : Stmt := topS 79
abbrev N_grouped : List Str := ["switches", "links", "groups", "one", "other", "left", "gone", "switch", "group"]
theorem S_grouped : FnScope N_grouped ["switches", "links"] (defScope s_grouped) := ⟨rfl, rfl, rfl, by decide +kernel, rfl, by decide +kernel, by decide +kernel⟩
abbrev s_Web_init : Stmt := inClass (topS 80) 0
abbrev N_Web_init : List Str := (["self", "links", "places", "ends", "cuts", "host", "link", "switch"] : List Str) ++ (["group", "one", "other", "cut"] : List Str)
theorem S_Web_init : FnScope N_Web_init ["self", "links", "places"] (defScope s_Web_init) := ⟨rfl, rfl, rfl, by decide +kernel, rfl, by decide +kernel, by decide +kernel⟩
abbrev s_Web_hosts : Stmt := inClass (topS 80) 2
abbrev N_Web_hosts : List Str := ["self"]
theorem S_Web_hosts : FnScope N_Web_hosts ["self"] (defScope s_Web_hosts) := ⟨rfl, rfl, rfl, by decide +kernel, rfl, by decide +kernel, by decide +kernel⟩
abbrev s_Web_switches : Stmt := inClass (topS 80) 3
abbrev N_Web_switches : List Str := ["self"]
theorem S_Web_switches : FnScope N_Web_switches ["self"] (defScope s_Web_switches) := ⟨rfl, rfl, rfl, by decide +kernel, rfl, by decide +kernel, by decide +kernel⟩
abbrev s_home : Stmt := inClass (topS 80) 7
abbrev N_home : List Str := ["self", "host"]
theorem S_home : FnScope N_home ["self", "host"] (defScope s_home) := ⟨rfl, rfl, rfl, by decide +kernel, rfl, by decide +kernel, by decide +kernel⟩
abbrev s_hosts_beyond : Stmt := inClass (topS 80) 8
abbrev N_hosts_beyond : List Str := ["self", "one", "other", "waiting", "found", "here", "past", "further"]
theorem S_hosts_beyond : FnScope N_hosts_beyond ["self", "one", "other"] (defScope s_hosts_beyond) := ⟨rfl, rfl, rfl, by decide +kernel, rfl, by decide +kernel, by decide +kernel⟩
abbrev s_is_joined : Stmt := inClass (topS 80) 9
abbrev N_is_joined : List Str := ["self", "one", "other"]
theorem S_is_joined : FnScope N_is_joined ["self", "one", "other"] (defScope s_is_joined) := ⟨rfl, rfl, rfl, by decide +kernel, rfl, by decide +kernel, by decide +kernel⟩
abbrev s_cut_of : Stmt := inClass (topS 80) 10
abbrev N_cut_of : List Str := ["self", "one", "other", "mine", "others"]
theorem S_cut_of : FnScope N_cut_of ["self", "one", "other"] (defScope s_cut_of) := ⟨rfl, rfl, rfl, by decide +kernel, rfl, by decide +kernel, by decide +kernel⟩
abbrev s_Web_eq : Stmt := inClass (topS 80) 15
abbrev N_Web_eq : List Str := ["self", "other"]
theorem S_Web_eq : FnScope N_Web_eq ["self", "other"] (defScope s_Web_eq) := ⟨rfl, rfl, rfl, by decide +kernel, rfl, by decide +kernel, by decide +kernel⟩
abbrev s_web_of : Stmt := topS 82
abbrev N_web_of : List Str := ["ground"]
theorem S_web_of : FnScope N_web_of ["ground"] (defScope s_web_of) := ⟨rfl, rfl, rfl, by decide +kernel, rfl, by decide +kernel, by decide +kernel⟩
abbrev s_Network_web : Stmt := inClass (topS 83) 1
abbrev N_Network_web : List Str := ["self"]
theorem S_Network_web : FnScope N_Network_web ["self"] (defScope s_Network_web) := ⟨rfl, rfl, rfl, by decide +kernel, rfl, by decide +kernel, by decide +kernel⟩
abbrev s_ports_out : Stmt := inClass (topS 83) 3
abbrev N_ports_out : List Str := ["self", "state", "switch", "port", "target", "ports", "one"]
theorem S_ports_out : FnScope N_ports_out ["self", "state", "switch", "port", "target"] (defScope s_ports_out) := ⟨rfl, rfl, rfl, by decide +kernel, rfl, by decide +kernel, by decide +kernel⟩
abbrev s_passage : Stmt := inClass (topS 83) 4
abbrev N_passage : List Str := ["self", "state", "frame", "seen", "came", "waiting", "switch", "port", "out"]
theorem S_passage : FnScope N_passage ["self", "state", "frame"] (defScope s_passage) := ⟨rfl, rfl, rfl, by decide +kernel, rfl, by decide +kernel, by decide +kernel⟩
abbrev s_sight_at : Stmt := inClass (topS 83) 5
abbrev N_sight_at : List Str := ["self", "state", "frame", "seen", "host"]
theorem S_sight_at : FnScope N_sight_at ["self", "state", "frame"] (defScope s_sight_at) := ⟨rfl, rfl, rfl, by decide +kernel, rfl, by decide +kernel, by decide +kernel⟩
abbrev s_state_behind : Stmt := inClass (topS 83) 6
abbrev N_state_behind : List Str := ["self", "state", "frame", "sight", "came"]
theorem S_state_behind : FnScope N_state_behind ["self", "state", "frame", "sight"] (defScope s_state_behind) := ⟨rfl, rfl, rfl, by decide +kernel, rfl, by decide +kernel, by decide +kernel⟩
abbrev s_knowers : Stmt := inClass (topS 83) 7
abbrev N_knowers : List Str := ["self", "host", "known", "switch"]
theorem S_knowers : FnScope N_knowers ["self", "host"] (defScope s_knowers) := ⟨rfl, rfl, rfl, by decide +kernel, rfl, by decide +kernel, by decide +kernel⟩
abbrev s_law_pen : Stmt := topS 85
abbrev N_law_pen : List Str := ["_law_script"]
theorem S_law_pen : FnScope N_law_pen ["_law_script"] (defScope s_law_pen) := ⟨rfl, rfl, rfl, by decide +kernel, rfl, by decide +kernel, by decide +kernel⟩
abbrev s_law_draw : Stmt := topS 86
abbrev N_law_draw : List Str := ["_law_pen_here", "_law_many", "_law_digit", "_law_at", "_law_cell", "_law_great", "_law_mixed"]
theorem S_law_draw : FnScope N_law_draw ["_law_pen_here", "_law_many"] (defScope s_law_draw) := ⟨rfl, rfl, rfl, by decide +kernel, rfl, by decide +kernel, by decide +kernel⟩
abbrev s_law_pick : Stmt := topS 87
abbrev N_law_pick : List Str := ["_law_pen_here", "_law_some"]
theorem S_law_pick : FnScope N_law_pick ["_law_pen_here", "_law_some"] (defScope s_law_pick) := ⟨rfl, rfl, rfl, by decide +kernel, rfl, by decide +kernel, by decide +kernel⟩
abbrev s_law_words : Stmt := topS 88
abbrev N_law_words : List Str := ["_law_pen_here", "_law_many", "_law_pools", "_law_left", "_law_sign", "_law_lap"]
theorem S_law_words : FnScope N_law_words ["_law_pen_here", "_law_many"] (defScope s_law_words) := ⟨rfl, rfl, rfl, by decide +kernel, rfl, by decide +kernel, by decide +kernel⟩
abbrev s_law_site : Stmt := topS 89
abbrev N_law_site : List Str := (["_law_pen_here", "_law_top", "_law_words_here", "_law_many", "_law_left", "_law_spots", "_law_way", "_law_ties"] : List Str) ++ (["_law_k", "_law_near_here", "_law_pair", "_law_some", "_law_lap", "_law_word"] : List Str)
theorem S_law_site : FnScope N_law_site ["_law_pen_here", "_law_top", "_law_words_here"] (defScope s_law_site) := ⟨rfl, rfl, rfl, by decide +kernel, rfl, by decide +kernel, by decide +kernel⟩
abbrev s_law_frame : Stmt := topS 91
abbrev N_law_frame : List Str := ["_law_pen_here", "_law_words_here", "_law_past", "_law_word", "_law_left", "_law_goal", "_law_one"]
theorem S_law_frame : FnScope N_law_frame ["_law_pen_here", "_law_words_here", "_law_past"] (defScope s_law_frame) := ⟨rfl, rfl, rfl, by decide +kernel, rfl, by decide +kernel, by decide +kernel⟩
abbrev s_law_is_so : Stmt := topS 92
abbrev N_law_is_so : List Str := ["_law_net", "_law_past", "_law_fresh", "_law_known", "_law_due", "_law_one", "_law_two", "_law_word"]
theorem S_law_is_so : FnScope N_law_is_so ["_law_net", "_law_past"] (defScope s_law_is_so) := ⟨rfl, rfl, rfl, by decide +kernel, rfl, by decide +kernel, by decide +kernel⟩
abbrev s_law_step : Stmt := topS 93
abbrev N_law_step : List Str := ["_law_pen_here", "_law_net", "_law_past", "_law_deep", "_law_way", "_law_pair"]
theorem S_law_step : FnScope N_law_step ["_law_pen_here", "_law_net", "_law_past", "_law_deep"] (defScope s_law_step) := ⟨rfl, rfl, rfl, by decide +kernel, rfl, by decide +kernel, by decide +kernel⟩
abbrev s_law_inside : Stmt := topS 94
abbrev N_law_inside : List Str := ["_law_pen_here", "_law_net", "_law_past", "_law_deep", "_law_marks", "_law_way", "_law_nothing", "_law_lap"]
theorem S_law_inside : FnScope N_law_inside ["_law_pen_here", "_law_net", "_law_past", "_law_deep"] (defScope s_law_inside) := ⟨rfl, rfl, rfl, by decide +kernel, rfl, by decide +kernel, by decide +kernel⟩
abbrev s_law_tried : Stmt := topS 95
abbrev N_law_tried : List Str := ["_law_pen_here", "_law_net", "_law_past", "_law_deep", "_law_told", "_law_is_left", "error", "_law_inner"]
theorem S_law_tried : FnScope N_law_tried ["_law_pen_here", "_law_net", "_law_past", "_law_deep"] (defScope s_law_tried) := ⟨rfl, rfl, rfl, by decide +kernel, rfl, by decide +kernel, by decide +kernel⟩
abbrev s_law_is_one : Stmt := topS 96
abbrev N_law_is_one : List Str := ["_law_net", "_law_same", "_law_before"]
theorem S_law_is_one : FnScope N_law_is_one ["_law_net", "_law_same"] (defScope s_law_is_one) := ⟨rfl, rfl, rfl, by decide +kernel, rfl, by decide +kernel, by decide +kernel⟩
abbrev s_NoHost_init : Stmt := inClass (topS 16) 0
abbrev s_Network_init : Stmt := inClass (topS 83) 0
structure TX (K : PySem.W.Frag) (mg : Str → Option Value) : Prop where
  g_is_name : mg "is_name" = some (.ref (He.ga K "is_name"))
  g_ascending_names : mg "ascending_names" = some (.ref (He.ga K "ascending_names"))
  g_hosts_of : mg "hosts_of" = some (.ref (He.ga K "hosts_of"))
  g_Frame : mg "Frame" = some (.ref (He.ga K "Frame"))
  g_History : mg "History" = some (.ref (He.ga K "History"))
  g_PlayerNote : mg "PlayerNote" = some (.ref (He.ga K "PlayerNote"))
  g_PlayerTrial : mg "PlayerTrial" = some (.ref (He.ga K "PlayerTrial"))
  g_is_side : mg "is_side" = some (.ref (He.ga K "is_side"))
  g_ascending_cuts : mg "ascending_cuts" = some (.ref (He.ga K "ascending_cuts"))
  g_Cut : mg "Cut" = some (.ref (He.ga K "Cut"))
  g_in_order : mg "in_order" = some (.ref (He.ga K "in_order"))
  g_first_crossing : mg "first_crossing" = some (.ref (He.ga K "first_crossing"))
  g_need_cuts : mg "need_cuts" = some (.ref (He.ga K "need_cuts"))
  g_Tree : mg "Tree" = some (.ref (He.ga K "Tree"))
  g_is_switch : mg "is_switch" = some (.ref (He.ga K "is_switch"))
  g_is_link : mg "is_link" = some (.ref (He.ga K "is_link"))
  g_need_links : mg "need_links" = some (.ref (He.ga K "need_links"))
  g_need_places : mg "need_places" = some (.ref (He.ga K "need_places"))
  g_links_in_order : mg "links_in_order" = some (.ref (He.ga K "links_in_order"))
  g_next_to : mg "next_to" = some (.ref (He.ga K "next_to"))
  g_guests_of : mg "guests_of" = some (.ref (He.ga K "guests_of"))
  g_grouped : mg "grouped" = some (.ref (He.ga K "grouped"))
  g_Web : mg "Web" = some (.ref (He.ga K "Web"))
  g_web_of : mg "web_of" = some (.ref (He.ga K "web_of"))
  g_Network : mg "Network" = some (.ref (He.ga K "Network"))
  g_Player : mg "Player" = some (.ref (He.ga K "Player"))
  g_NoHost : mg "NoHost" = some (.ref (He.ga K "NoHost"))
  g__law_pen : mg "_law_pen" = some (.ref (He.ga K "_law_pen"))
  g__law_draw : mg "_law_draw" = some (.ref (He.ga K "_law_draw"))
  g__law_pick : mg "_law_pick" = some (.ref (He.ga K "_law_pick"))
  g__law_words : mg "_law_words" = some (.ref (He.ga K "_law_words"))
  g__law_site : mg "_law_site" = some (.ref (He.ga K "_law_site"))
  g__law_frame : mg "_law_frame" = some (.ref (He.ga K "_law_frame"))
  g__law_is_so : mg "_law_is_so" = some (.ref (He.ga K "_law_is_so"))
  g__law_step : mg "_law_step" = some (.ref (He.ga K "_law_step"))
  g__law_inside : mg "_law_inside" = some (.ref (He.ga K "_law_inside"))
  g__law_tried : mg "_law_tried" = some (.ref (He.ga K "_law_tried"))
  g__law_is_one : mg "_law_is_one" = some (.ref (He.ga K "_law_is_one"))
  b_isinstance : mg "isinstance" = none
  b_len : mg "len" = none
  b_all : mg "all" = none
  b_any : mg "any" = none
  b_list : mg "list" = none
  b_tuple : mg "tuple" = none
  b_set : mg "set" = none
  b_str : mg "str" = none
  b_int : mg "int" = none
  b_sorted : mg "sorted" = none
  b_dict : mg "dict" = none
  b_enumerate : mg "enumerate" = none
  b_range : mg "range" = none
  b_zip : mg "zip" = none
  b_min : mg "min" = none
  b_max : mg "max" = none
  b_super : mg "super" = none
  b_repr : mg "repr" = none
  b_abs : mg "abs" = none
  b_KeyError : mg "KeyError" = none
  b_bool : mg "bool" = none
  i_LONGEST_NAME : ∃ t, mg "LONGEST_NAME" = some (.int 8 t)
  i_LEAST_SIDE : ∃ t, mg "LEAST_SIDE" = some (.int 2 t)
  i_MOST_HOSTS_webs : ∃ t, mg "MOST_HOSTS_webs" = some (.int 40 t)
  i_SWITCHES : ∃ t, mg "SWITCHES" = some (.int 100 t)
  t_LETTERS : ∃ t, mg "LETTERS" = some (.str "abcdefghijklmnopqrstuvwxyz" t)
  c_Frame : Cls K (He.ga K "Frame")
  c_History : Cls K (He.ga K "History")
  c_PlayerNote : Cls K (He.ga K "PlayerNote")
  c_PlayerTrial : Cls K (He.ga K "PlayerTrial")
  c_Cut : Cls K (He.ga K "Cut")
  c_Tree : Cls K (He.ga K "Tree")
  c_Web : Cls K (He.ga K "Web")
  c_Network : Cls K (He.ga K "Network")
  n_Frame_sender : NoAttr K (He.ga K "Frame") "sender"
  n_Frame_target : NoAttr K (He.ga K "Frame") "target"
  n_History_rows : NoAttr K (He.ga K "History") "rows"
  n_PlayerNote_states : NoAttr K (He.ga K "PlayerNote") "states"
  n_PlayerNote_sent : NoAttr K (He.ga K "PlayerNote") "sent"
  n_PlayerNote_own_sights : NoAttr K (He.ga K "PlayerNote") "own_sights"
  n_PlayerNote_outer : NoAttr K (He.ga K "PlayerNote") "outer"
  n_PlayerTrial_subject : NoAttr K (He.ga K "PlayerTrial") "subject"
  n_PlayerTrial_kept : NoAttr K (He.ga K "PlayerTrial") "kept"
  n_Cut_near_side : NoAttr K (He.ga K "Cut") "near_side"
  n_Cut_far_side : NoAttr K (He.ga K "Cut") "far_side"
  n_Cut_all_names : NoAttr K (He.ga K "Cut") "all_names"
  n_Tree_all_names : NoAttr K (He.ga K "Tree") "all_names"
  n_Tree_own_cuts : NoAttr K (He.ga K "Tree") "own_cuts"
  n_Web_own_links : NoAttr K (He.ga K "Web") "own_links"
  n_Web_own_hosts : NoAttr K (He.ga K "Web") "own_hosts"
  n_Web_own_places : NoAttr K (He.ga K "Web") "own_places"
  n_Web_own_switches : NoAttr K (He.ga K "Web") "own_switches"
  n_Web_sides : NoAttr K (He.ga K "Web") "sides"
  n_Web_guests : NoAttr K (He.ga K "Web") "guests"
  n_Web_own_tree : NoAttr K (He.ga K "Web") "own_tree"
  n_Network_own_web : NoAttr K (He.ga K "Network") "own_web"
  n_Network_ground_told : NoAttr K (He.ga K "Network") "ground_told"
  n_Network_own_hosts : NoAttr K (He.ga K "Network") "own_hosts"
  n_Network_states : NoAttr K (He.ga K "Network") "states"
  n_Network_sent : NoAttr K (He.ga K "Network") "sent"
  n_Network_own_sights : NoAttr K (He.ga K "Network") "own_sights"
  m_PlayerTrial_enter : Meth K (He.ga K "PlayerTrial") "__enter__" (He.ma K (He.ga K "PlayerTrial") "__enter__")
  m_PlayerTrial_exit : Meth K (He.ga K "PlayerTrial") "__exit__" (He.ma K (He.ga K "PlayerTrial") "__exit__")
  m_Frame_frame_place : Meth K (He.ga K "Frame") "frame_place" (He.ma K (He.ga K "Frame") "frame_place")
  m_Frame_eq : Meth K (He.ga K "Frame") "__eq__" (He.ma K (He.ga K "Frame") "__eq__")
  m_Network_sight_at : Meth K (He.ga K "Network") "sight_at" (He.ma K (He.ga K "Network") "sight_at")
  m_Network_state_behind : Meth K (He.ga K "Network") "state_behind" (He.ma K (He.ga K "Network") "state_behind")
  m_Network_need_host : Meth K (He.ga K "Network") "need_host" (He.ma K (He.ga K "Network") "need_host")
  m_Network_need_frame : Meth K (He.ga K "Network") "need_frame" (He.ma K (He.ga K "Network") "need_frame")
  m_Network_send : Meth K (He.ga K "Network") "send" (He.ma K (He.ga K "Network") "send")
  m_Network_play : Meth K (He.ga K "Network") "play" (He.ma K (He.ga K "Network") "play")
  m_Network_seers : Meth K (He.ga K "Network") "seers" (He.ma K (He.ga K "Network") "seers")
  m_Network_back : Meth K (He.ga K "Network") "back" (He.ma K (He.ga K "Network") "back")
  m_Network_reset : Meth K (He.ga K "Network") "reset" (He.ma K (He.ga K "Network") "reset")
  m_Network_trial : Meth K (He.ga K "Network") "trial" (He.ma K (He.ga K "Network") "trial")
  m_Network_tried : Meth K (He.ga K "Network") "tried" (He.ma K (He.ga K "Network") "tried")
  m_Network_passage : Meth K (He.ga K "Network") "passage" (He.ma K (He.ga K "Network") "passage")
  m_Network_ports_out : Meth K (He.ga K "Network") "ports_out" (He.ma K (He.ga K "Network") "ports_out")
  m_Network_knowers : Meth K (He.ga K "Network") "knowers" (He.ma K (He.ga K "Network") "knowers")
  m_Network_eq : Meth K (He.ga K "Network") "__eq__" (He.ma K (He.ga K "Network") "__eq__")
  m_Network_len : Meth K (He.ga K "Network") "__len__" (He.ma K (He.ga K "Network") "__len__")
  m_Web_home : Meth K (He.ga K "Web") "home" (He.ma K (He.ga K "Web") "home")
  m_Web_hosts_beyond : Meth K (He.ga K "Web") "hosts_beyond" (He.ma K (He.ga K "Web") "hosts_beyond")
  m_Web_is_joined : Meth K (He.ga K "Web") "is_joined" (He.ma K (He.ga K "Web") "is_joined")
  m_Web_cut_of : Meth K (He.ga K "Web") "cut_of" (He.ma K (He.ga K "Web") "cut_of")
  m_Web_eq : Meth K (He.ga K "Web") "__eq__" (He.ma K (He.ga K "Web") "__eq__")
  m_Cut_crosses : Meth K (He.ga K "Cut") "crosses" (He.ma K (He.ga K "Cut") "crosses")
  k_Frame : Mk K (He.ga K "Frame") (He.ma K (He.ga K "Frame") "__init__")
  k_History : Mk K (He.ga K "History") (He.ma K (He.ga K "History") "__init__")
  k_PlayerNote : Mk K (He.ga K "PlayerNote") (He.ma K (He.ga K "PlayerNote") "__init__")
  k_PlayerTrial : Mk K (He.ga K "PlayerTrial") (He.ma K (He.ga K "PlayerTrial") "__init__")
  k_Cut : Mk K (He.ga K "Cut") (He.ma K (He.ga K "Cut") "__init__")
  k_Tree : Mk K (He.ga K "Tree") (He.ma K (He.ga K "Tree") "__init__")
  k_Web : Mk K (He.ga K "Web") (He.ma K (He.ga K "Web") "__init__")
  k_Network : Mk K (He.ga K "Network") (He.ma K (He.ga K "Network") "__init__")
  q_Frame : SlX.SIsi K (He.ga K "Frame")
  q_History : SlX.SIsi K (He.ga K "History")
  q_PlayerNote : SlX.SIsi K (He.ga K "PlayerNote")
  q_PlayerTrial : SlX.SIsi K (He.ga K "PlayerTrial")
  q_Cut : SlX.SIsi K (He.ga K "Cut")
  q_Tree : SlX.SIsi K (He.ga K "Tree")
  q_Web : SlX.SIsi K (He.ga K "Web")
  q_Network : SlX.SIsi K (He.ga K "Network")
  is_Frame_Frame : PySem.W.kitOne K (.ref (He.ga K "Frame")) (.ref (He.ga K "Frame")) = some true
  is_Cut_Cut : PySem.W.kitOne K (.ref (He.ga K "Cut")) (.ref (He.ga K "Cut")) = some true
  is_Web_Web : PySem.W.kitOne K (.ref (He.ga K "Web")) (.ref (He.ga K "Web")) = some true
  is_Network_Player : PySem.W.kitOne K (.ref (He.ga K "Network")) (.ref (He.ga K "Player")) = some true
  cr_History : ClX.CRead K (He.ga K "History") (.type "type")
  cv_History : ∃ u, ClX.CVal K (He.ga K "History") (.type "type") "MOST" (.int 60) u
  cm_History : ClX.CMet K (He.ga K "History") (.type "type") "of" (He.ma K (He.ga K "History") "of") (cmA K (He.ga K "History") "of")
  p_History_frames : PropOf K (He.ga K "History") "frames" (He.ma K (He.ga K "History") "frames") (pgA K (He.ga K "History") "frames")
  p_History_hosts : PropOf K (He.ga K "History") "hosts" (He.ma K (He.ga K "History") "hosts") (pgA K (He.ga K "History") "hosts")
  p_Network_hosts : PropOf K (He.ga K "Network") "hosts" (He.ma K (He.ga K "Network") "hosts") (pgA K (He.ga K "Network") "hosts")
  p_Network_sights : PropOf K (He.ga K "Network") "sights" (He.ma K (He.ga K "Network") "sights") (pgA K (He.ga K "Network") "sights")
  p_Cut_near : PropOf K (He.ga K "Cut") "near" (He.ma K (He.ga K "Cut") "near") (pgA K (He.ga K "Cut") "near")
  p_Cut_far : PropOf K (He.ga K "Cut") "far" (He.ma K (He.ga K "Cut") "far") (pgA K (He.ga K "Cut") "far")
  p_Cut_hosts : PropOf K (He.ga K "Cut") "hosts" (He.ma K (He.ga K "Cut") "hosts") (pgA K (He.ga K "Cut") "hosts")
  p_Web_hosts : PropOf K (He.ga K "Web") "hosts" (He.ma K (He.ga K "Web") "hosts") (pgA K (He.ga K "Web") "hosts")
  p_Web_switches : PropOf K (He.ga K "Web") "switches" (He.ma K (He.ga K "Web") "switches") (pgA K (He.ga K "Web") "switches")
  p_Network_web : PropOf K (He.ga K "Network") "web" (He.ma K (He.ga K "Network") "web") (pgA K (He.ga K "Network") "web")
  f_is_name : FnAt K (He.ga K "is_name") "is_name" "is_name" s_is_name []
  f_ascending_names : FnAt K (He.ga K "ascending_names") "ascending" "ascending" s_ascending_names []
  f_hosts_of : FnAt K (He.ga K "hosts_of") "hosts_of" "hosts_of" s_hosts_of [.int 40]
  f_Frame_init : FnAt K (He.ma K (He.ga K "Frame") "__init__") "__init__" "Frame.__init__" s_Frame_init [.non]
  f_Frame_place : FnAt K (He.ma K (He.ga K "Frame") "frame_place") "frame_place" "Frame.frame_place" s_Frame_place []
  f_Frame_eq : FnAt K (He.ma K (He.ga K "Frame") "__eq__") "__eq__" "Frame.__eq__" s_Frame_eq []
  f_History_init : FnAt K (He.ma K (He.ga K "History") "__init__") "__init__" "History.__init__" s_History_init []
  f_History_of : FnAt K (cmA K (He.ga K "History") "of") "of" "History.of" s_History_of []
  f_History_frames : FnAt K (pgA K (He.ga K "History") "frames") "frames" "History.frames" s_History_frames []
  f_History_hosts : FnAt K (pgA K (He.ga K "History") "hosts") "hosts" "History.hosts" s_History_hosts []
  f_Note_init : FnAt K (He.ma K (He.ga K "PlayerNote") "__init__") "__init__" "PlayerNote.__init__" s_Note_init []
  f_Trial_init : FnAt K (He.ma K (He.ga K "PlayerTrial") "__init__") "__init__" "PlayerTrial.__init__" s_Trial_init []
  f_Trial_enter : FnAt K (He.ma K (He.ga K "PlayerTrial") "__enter__") "__enter__" "PlayerTrial.__enter__" s_Trial_enter []
  f_Trial_exit : FnAt K (He.ma K (He.ga K "PlayerTrial") "__exit__") "__exit__" "PlayerTrial.__exit__" s_Trial_exit []
  f_Player_init : FnAt K (He.ma K (He.ga K "Player") "__init__") "__init__" "Player.__init__" s_Player_init []
  f_Player_hosts : FnAt K (pgA K (He.ga K "Network") "hosts") "hosts" "Player.hosts" s_Player_hosts []
  f_Player_sights : FnAt K (pgA K (He.ga K "Network") "sights") "sights" "Player.sights" s_Player_sights []
  f_need_host : FnAt K (He.ma K (He.ga K "Network") "need_host") "need_host" "Player.need_host" s_need_host []
  f_need_frame : FnAt K (He.ma K (He.ga K "Network") "need_frame") "need_frame" "Player.need_frame" s_need_frame []
  f_send : FnAt K (He.ma K (He.ga K "Network") "send") "send" "Player.send" s_send []
  f_play : FnAt K (He.ma K (He.ga K "Network") "play") "play" "Player.play" s_play []
  f_seers : FnAt K (He.ma K (He.ga K "Network") "seers") "seers" "Player.seers" s_seers []
  f_back : FnAt K (He.ma K (He.ga K "Network") "back") "back" "Player.back" s_back []
  f_reset : FnAt K (He.ma K (He.ga K "Network") "reset") "reset" "Player.reset" s_reset []
  f_trial : FnAt K (He.ma K (He.ga K "Network") "trial") "trial" "Player.trial" s_trial []
  f_tried : FnAt K (He.ma K (He.ga K "Network") "tried") "tried" "Player.tried" s_tried []
  f_Player_eq : FnAt K (He.ma K (He.ga K "Network") "__eq__") "__eq__" "Player.__eq__" s_Player_eq []
  f_Player_len : FnAt K (He.ma K (He.ga K "Network") "__len__") "__len__" "Player.__len__" s_Player_len []
  f_is_side : FnAt K (He.ga K "is_side") "is_side" "is_side" s_is_side []
  f_ascending_cuts : FnAt K (He.ga K "ascending_cuts") "ascending" "ascending" s_ascending_cuts []
  f_Cut_init : FnAt K (He.ma K (He.ga K "Cut") "__init__") "__init__" "Cut.__init__" s_Cut_init []
  f_Cut_near : FnAt K (pgA K (He.ga K "Cut") "near") "near" "Cut.near" s_Cut_near []
  f_Cut_far : FnAt K (pgA K (He.ga K "Cut") "far") "far" "Cut.far" s_Cut_far []
  f_Cut_hosts : FnAt K (pgA K (He.ga K "Cut") "hosts") "hosts" "Cut.hosts" s_Cut_hosts []
  f_crosses : FnAt K (He.ma K (He.ga K "Cut") "crosses") "crosses" "Cut.crosses" s_crosses []
  f_in_order : FnAt K (He.ga K "in_order") "in_order" "in_order" s_in_order []
  f_first_crossing : FnAt K (He.ga K "first_crossing") "first_crossing" "first_crossing" s_first_crossing []
  f_need_cuts : FnAt K (He.ga K "need_cuts") "need_cuts" "need_cuts" s_need_cuts []
  f_Tree_init : FnAt K (He.ma K (He.ga K "Tree") "__init__") "__init__" "Tree.__init__" s_Tree_init [.ref (He.dflAt ("Tree", some "__init__") 0 K)]
  f_is_switch : FnAt K (He.ga K "is_switch") "is_switch" "is_switch" s_is_switch []
  f_is_link : FnAt K (He.ga K "is_link") "is_link" "is_link" s_is_link []
  f_need_links : FnAt K (He.ga K "need_links") "need_links" "need_links" s_need_links []
  f_need_places : FnAt K (He.ga K "need_places") "need_places" "need_places" s_need_places []
  f_links_in_order : FnAt K (He.ga K "links_in_order") "links_in_order" "links_in_order" s_links_in_order []
  f_next_to : FnAt K (He.ga K "next_to") "next_to" "next_to" s_next_to []
  f_guests_of : FnAt K (He.ga K "guests_of") "guests_of" "guests_of" s_guests_of []
  f_grouped : FnAt K (He.ga K "grouped") "grouped" "grouped" s_grouped []
  f_Web_init : FnAt K (He.ma K (He.ga K "Web") "__init__") "__init__" "Web.__init__" s_Web_init []
  f_Web_hosts : FnAt K (pgA K (He.ga K "Web") "hosts") "hosts" "Web.hosts" s_Web_hosts []
  f_Web_switches : FnAt K (pgA K (He.ga K "Web") "switches") "switches" "Web.switches" s_Web_switches []
  f_home : FnAt K (He.ma K (He.ga K "Web") "home") "home" "Web.home" s_home []
  f_hosts_beyond : FnAt K (He.ma K (He.ga K "Web") "hosts_beyond") "hosts_beyond" "Web.hosts_beyond" s_hosts_beyond []
  f_is_joined : FnAt K (He.ma K (He.ga K "Web") "is_joined") "is_joined" "Web.is_joined" s_is_joined []
  f_cut_of : FnAt K (He.ma K (He.ga K "Web") "cut_of") "cut_of" "Web.cut_of" s_cut_of []
  f_Web_eq : FnAt K (He.ma K (He.ga K "Web") "__eq__") "__eq__" "Web.__eq__" s_Web_eq []
  f_web_of : FnAt K (He.ga K "web_of") "web_of" "web_of" s_web_of []
  f_Network_web : FnAt K (pgA K (He.ga K "Network") "web") "web" "Network.web" s_Network_web []
  f_ports_out : FnAt K (He.ma K (He.ga K "Network") "ports_out") "ports_out" "Network.ports_out" s_ports_out []
  f_passage : FnAt K (He.ma K (He.ga K "Network") "passage") "passage" "Network.passage" s_passage []
  f_sight_at : FnAt K (He.ma K (He.ga K "Network") "sight_at") "sight_at" "Network.sight_at" s_sight_at []
  f_state_behind : FnAt K (He.ma K (He.ga K "Network") "state_behind") "state_behind" "Network.state_behind" s_state_behind []
  f_knowers : FnAt K (He.ma K (He.ga K "Network") "knowers") "knowers" "Network.knowers" s_knowers []
  f_law_pen : FnAt K (He.ga K "_law_pen") "_law_pen" "_law_pen" s_law_pen []
  f_law_draw : FnAt K (He.ga K "_law_draw") "_law_draw" "_law_draw" s_law_draw []
  f_law_pick : FnAt K (He.ga K "_law_pick") "_law_pick" "_law_pick" s_law_pick []
  f_law_words : FnAt K (He.ga K "_law_words") "_law_words" "_law_words" s_law_words []
  f_law_site : FnAt K (He.ga K "_law_site") "_law_site" "_law_site" s_law_site []
  f_law_frame : FnAt K (He.ga K "_law_frame") "_law_frame" "_law_frame" s_law_frame []
  f_law_is_so : FnAt K (He.ga K "_law_is_so") "_law_is_so" "_law_is_so" s_law_is_so []
  f_law_step : FnAt K (He.ga K "_law_step") "_law_step" "_law_step" s_law_step []
  f_law_inside : FnAt K (He.ga K "_law_inside") "_law_inside" "_law_inside" s_law_inside []
  f_law_tried : FnAt K (He.ga K "_law_tried") "_law_tried" "_law_tried" s_law_tried []
  f_law_is_one : FnAt K (He.ga K "_law_is_one") "_law_is_one" "_law_is_one" s_law_is_one []
end SfW
namespace SfW
open PySem PySem.Spec PyProof.Rows L2
/-! what of the text stands behind the top: read in one look -/
abbrev FB : Type := PySem.W.Frag → Bool
/-- a def: where, its row in the text, its defaults, the names of its cells -/
structure DefC where
  at_ : PySem.W.Frag → Addr
  name : Str
  qual : Str
  st : Stmt
  dfl : List He.Dv := []
  cl : List Str := []
abbrev FnV : Type := Option (Str × Str × Arguments × FuncBody × Scope × Addr × List Str × Addr)
def fnV (K : PySem.W.Frag) (a : Addr) : FnV := match K.lookup a with
  | some ⟨_, _, .func fd, _⟩ => some (fd.name, fd.qualname, fd.params, fd.body, fd.scope, fd.globals, fd.closure.map (·.1), fd.builtins)
  | _ => none
def DefC.val (d : DefC) : FnV := some (d.name, d.qual, defArgs d.st, .stmts (defBody d.st), defScope d.st, mainGlobals, d.cl, builtinsNs)
def DefC.dv (K : PySem.W.Frag) (d : DefC) : List V := d.dfl.map (He.Dv.v K)
def DefC.good (K : PySem.W.Frag) (d : DefC) : Bool := PySem.W.keepIn K (.ref (d.at_ K)) && (match K.lookup (d.at_ K) with
  | some ⟨_, _, .func fd, _⟩ => PySem.W.codeIn K fd.code d.qual && He.dflB K fd.defaults (d.dv K)
  | _ => false)
theorem DefC.read {K : PySem.W.Frag} {d : DefC} (e : fnV K (d.at_ K) = d.val) (c : d.good K = true) :
    ∃ (oc : Value) (od : Option Addr) (osl : Array (Option Value)) (cl : List (Str × Addr)) (dV kV doc pm : Value) (an : Option Addr) (cdv ct : Value),
      cl.map (·.1) = d.cl ∧ K.lookup (d.at_ K) = some ⟨oc, od, .func (PySem.W.fnX d.name d.qual (defArgs d.st) (defBody d.st) (defScope d.st) cl dV kV doc pm an cdv ct), osl⟩ ∧ PySem.W.codeIn K cdv d.qual = true ∧ DflV K dV (d.dv K) ∧ PySem.W.keepIn K (.ref (d.at_ K)) = true := by
  obtain ⟨kp, c⟩ := He.ba c
  unfold fnV at e
  cases q : K.lookup (d.at_ K) with
  | none => rw [q] at c <;> cases c
  | some o =>
    obtain ⟨oc, od, dt, osl⟩ := o
    rw [q] at c e
    cases dt with
    | func fd =>
      obtain ⟨a1, a2, a3, a4, a5, a6, a7, a8, a9, b1, b2, b3, b4, b5, b6⟩ := fd
      have z : (some (a1, a2, a3, a4, a5, a6, a7.map (·.1), b6) : FnV) = some (d.name, d.qual, defArgs d.st, .stmts (defBody d.st), defScope d.st, mainGlobals, d.cl, builtinsNs) := e
      simp only [Option.some.injEq, Prod.mk.injEq] at z
      obtain ⟨h1, h2, h3, h4, h5, h6, h7, h8⟩ := z
      subst h1 h2 h3 h4 h5 h6 h8
      obtain ⟨k1, k2⟩ := He.ba c
      exact ⟨oc, od, osl, a7, a8, a9, b1, b2, b3, b4, b5, h7, rfl, k1, He.dflB_ok k2, kp⟩
    | _ => cases c
theorem DefC.fnAt {K : PySem.W.Frag} {d : DefC} (e : fnV K (d.at_ K) = d.val) (c : d.good K = true) (h : d.cl = []) : FnAt K (d.at_ K) d.name d.qual d.st (d.dv K) := by
  obtain ⟨oc, od, osl, cl, dV, kV, doc, pm, an, cdv, ct, hcl, lk, hc, hd, kp⟩ := DefC.read e c
  have e0 : cl = [] := List.map_eq_nil_iff.mp (hcl.trans h)
  subst e0
  exact ⟨_, ⟨oc, od, dV, kV, doc, pm, an, cdv, ct, osl, rfl, lk, hc, hd, .inl rfl⟩, kp⟩
theorem dfl_nil {K : PySem.W.Frag} {dV : Value} (h : DflV K dV []) : dV = .none := by
  rcases h with ⟨_, e⟩ | ⟨e, _⟩
  · exact e
  · exact absurd rfl e
/-- a def that closes over its class -/
def isCell (K : PySem.W.Frag) (D cc : Addr) : Bool := match K.lookup cc with
  | some ⟨_, _, .cell (some (.ref d)), _⟩ => decide (d = D)
  | _ => false
def cellB (K : PySem.W.Frag) (D : Addr) : List (Str × Addr) → Bool
  | [p] => isCell K D p.2
  | _ => false
theorem cellB_ok {K : PySem.W.Frag} {D : Addr} {cl : List (Str × Addr)} {x : Str} (h : cellB K D cl = true) (hx : cl.map (·.1) = [x]) : ∃ cc o, cl = [(x, cc)] ∧ K.lookup cc = some o ∧ o.data = .cell (some (.ref D)) := by
  match cl, hx, h with
  | [(y, cc)], hx, h =>
    have ex : y = x := (List.cons.inj hx).1
    subst ex
    have h : isCell K D cc = true := h
    unfold isCell at h
    split at h
    · rename_i k1 k2 dd k3 ek
      have ed : dd = D := of_decide_eq_true h
      subst ed
      exact ⟨cc, _, rfl, ek, rfl⟩
    · cases h
  | [], hx, _ => cases hx
  | _ :: _ :: _, hx, _ => cases hx
def inFile (K : PySem.W.Frag) (file : Str) (c : Addr) : Bool := match K.lookup c with
  | some ⟨_, _, .fields vs, _⟩ => (match (vs[2]? : Option Value) with
    | some (.str f _) => file == f
    | _ => false)
  | _ => false
def fileB (K : PySem.W.Frag) (file : Str) : Value → Bool
  | .ref c => inFile K file c
  | _ => false
theorem fileB_ok {K : PySem.W.Frag} {file : Str} {c : Addr} (h : fileB K file (.ref c) = true) : ∃ (o : Obj) (vs : Array Value) (f : Str) (tf : Tok), K.lookup c = some o ∧ o.data = .fields vs ∧ vs[2]? = some (.str f tf) ∧ (file == f) = true := by
  have h : inFile K file c = true := h
  unfold inFile at h
  split at h
  · rename_i m1 m2 vs m3 em
    split at h
    · rename_i f tf ef
      exact ⟨_, vs, f, tf, em, rfl, ef, h⟩
    · cases h
  · cases h
def celB (K : PySem.W.Frag) (file : Str) (a D : Addr) : Bool := match K.lookup a with
  | some ⟨_, _, .func fd, _⟩ => cellB K D fd.closure && fileB K file fd.code
  | _ => false
/-! ### facts of classes -/
def sisB (K : PySem.W.Frag) (C : Addr) : Bool := He.eqO (PySem.W.findIn K (.ref C) "__class__") (some (some (.builtin "object.__class__"))) && (He.eqO (PySem.W.specialIn K (.builtin "object.__class__") "__get__") (some (some (.builtin "getset_descriptor.__get__"))) &&
  (decide (PySem.W.takesIn K (.builtin "object.__class__") = some true) && decide (PySem.W.mroIn K C (.type "object") = some true)))
theorem sisB_ok {K : PySem.W.Frag} {C : Addr} (h : sisB K C = true) : SlX.SIsi K C := by
  obtain ⟨h1, h⟩ := He.ba h
  obtain ⟨h2, h⟩ := He.ba h
  obtain ⟨h3, h4⟩ := He.ba h
  exact ⟨He.eqO_ok h1, He.eqO_ok h2, of_decide_eq_true h3, of_decide_eq_true h4⟩
def readB (K : PySem.W.Frag) (C : Addr) : Bool := PySem.W.readsIn K C (.type "type") && He.eqO (PySem.W.specialIn K (.ref C) "__getattribute__") (some (some (.builtin "type.__getattribute__")))
theorem readB_ok {K : PySem.W.Frag} {C : Addr} (h : readB K C = true) : ClX.CRead K C (.type "type") := ⟨(He.ba h).1, He.eqO_ok (He.ba h).2⟩
def cvalB (K : PySem.W.Frag) (C : Addr) (f : Str) (v : V) : Bool := match PySem.W.findCls K (.ref C) (.type "type") f with
  | some (.val u) => He.relB v u
  | _ => false
theorem cvalB_ok {K : PySem.W.Frag} {C : Addr} {f : Str} {v : V} (h : cvalB K C f v = true) : ∃ u, ClX.CVal K C (.type "type") f v u := by
  unfold cvalB at h
  split at h
  · rename_i u e
    exact ⟨u, e, He.relB_ok h⟩
  · cases h
def cmetB (K : PySem.W.Frag) (C : Addr) (m : Str) : Bool := He5.wrapB K C "classmethod" "classmethod.__get__" m && PySem.W.fnIn K (cmA K C m)
theorem cmetB_ok {K : PySem.W.Frag} {C : Addr} {m : Str} (h : cmetB K C m = true) : ClX.CMet K C (.type "type") m (He.ma K C m) (cmA K C m) := He5.cmet_of (He.ba h).1 (He.ba h).2
def propB (K : PySem.W.Frag) (C : Addr) (f : Str) : Bool := He.eqO (PySem.W.findIn K (.ref C) f) (some (some (.ref (He.ma K C f)))) && (He.eqO (PySem.W.specialIn K (.ref (He.ma K C f)) "__get__") (some (some (.builtin "property.__get__"))) &&
  (decide (PySem.W.takesIn K (.ref (He.ma K C f)) = some true) && (match PySem.W.recIn K (He.ma K C f) "property" with
    | some (.ref _ :: _) => true
    | _ => false)))
theorem propB_ok {K : PySem.W.Frag} {C : Addr} {f : Str} (h : propB K C f = true) : PropOf K C f (He.ma K C f) (pgA K C f) := by
  obtain ⟨h1, h⟩ := He.ba h
  obtain ⟨h2, h⟩ := He.ba h
  obtain ⟨h3, h4⟩ := He.ba h
  refine ⟨He.eqO_ok h1, He.eqO_ok h2, of_decide_eq_true h3, ?_⟩
  unfold pgA
  split at h4
  · rename_i g r e
    exact ⟨r, by rw [e]⟩
  · cases h4
def oexB (K : PySem.W.Frag) (C : Addr) : Bool := (match K.lookup C with
  | some ⟨.type t, _, .cls cd, sl⟩ => decide (t = "type") && (match cd.mro, sl.toList with
    | .ref C2 :: bm, [_, _, _, _, some (.builtin n), _] => decide (C2 = C) && (decide (n = "ValueError.__new__") && (!cd.hasDel && (cd.hasDict && PySem.HandSPX.refsVE bm)))
    | _, _ => false)
  | _ => false) && (He.eqO (PySem.W.findIn K (.ref C) "__setattr__") (some (some (.builtin "object.__setattr__"))) && (decide (PySem.W.subIn K (.ref C) (.type "BaseException") = some true) &&
  (decide (PySem.W.typeIn K (.ref C) = some (.type "type")) && PySem.W.keepIn K (.ref C))))
theorem oexB_ok {K : PySem.W.Frag} {C : Addr} (h : oexB K C = true) : OexC K C := by
  obtain ⟨h0, h⟩ := He.ba h
  obtain ⟨h1, h⟩ := He.ba h
  obtain ⟨h2, h⟩ := He.ba h
  obtain ⟨h3, h4⟩ := He.ba h
  refine ⟨?_, He.eqO_ok h1, of_decide_eq_true h2, of_decide_eq_true h3, h4⟩
  split at h0
  · rename_i t dd cd sl lk
    obtain ⟨ht, h5⟩ := He.ba h0
    have et : t = "type" := of_decide_eq_true ht
    subst et
    split at h5
    · rename_i C2 bm k0 k1 k2 k3 n k5 hm hs
      obtain ⟨g1, g⟩ := He.ba h5
      obtain ⟨g2, g⟩ := He.ba g
      obtain ⟨g3, g⟩ := He.ba g
      obtain ⟨g4, g5⟩ := He.ba g
      have e1 : C2 = C := of_decide_eq_true g1
      have e2 : n = "ValueError.__new__" := of_decide_eq_true g2
      subst e1 e2
      obtain ⟨nm, bs, mro, ns, qn, hd, sn, sub, ab, col, del⟩ := cd
      obtain ⟨l⟩ := sl
      dsimp only at hm hs g3 g4
      subst hm hs g4
      cases del with
      | true => cases g3
      | false => exact ⟨nm, qn, ns, bs, bm, sn, sub, ab, col, dd, k0, k1, k2, k3, k5, lk, g5⟩
    · cases h5
  · cases h0
/-! ### the look -/
section
variable {α : Type}
/-- a list of addresses, each forced -/
def frL : List Addr → List Addr → (List Addr → α) → α
  | [], acc, k => k acc
  | a :: r, acc, k => HandSHeadRun.frNat a fun a => frL r (a :: acc) k
theorem frL_eq (k : List Addr → α) : ∀ l acc : List Addr, frL l acc k = k (l.reverseAux acc)
  | [], acc => rfl
  | a :: r, acc => by
    show HandSHeadRun.frNat a (fun a => frL r (a :: acc) k) = _
    rw [HandSHeadRun.frNat_eq, frL_eq k r (a :: acc)] <;> rfl
/-- what stands there, one behind another -/
def gath (g : Addr → Option Obj) : List Addr → PySem.W.Frag → (PySem.W.Frag → α) → α
  | [], acc, k => k acc
  | a :: r, acc, k => HandSHeadRun.frNat a fun a => match g a with
    | some o => gath g r ((a, o) :: acc) k
    | none => gath g r acc k
def gathL (g : Addr → Option Obj) : List Addr → PySem.W.Frag → PySem.W.Frag
  | [], acc => acc
  | a :: r, acc => match g a with
    | some o => gathL g r ((a, o) :: acc)
    | none => gathL g r acc
theorem gath_eq (g : Addr → Option Obj) (k : PySem.W.Frag → α) : ∀ (l : List Addr) (acc : PySem.W.Frag), gath g l acc k = k (gathL g l acc)
  | [], acc => rfl
  | a :: r, acc => by
    show HandSHeadRun.frNat a (fun a => match g a with
      | some o => gath g r ((a, o) :: acc) k
      | none => gath g r acc k) = k (match g a with
      | some o => gathL g r ((a, o) :: acc)
      | none => gathL g r acc)
    rw [HandSHeadRun.frNat_eq]
    cases g a with
    | none => exact gath_eq g k r acc
    | some o => exact gath_eq g k r ((a, o) :: acc)
end
theorem gathL_mem {g : Addr → Option Obj} : ∀ (l : List Addr) (acc : PySem.W.Frag), (∀ p ∈ acc, g p.1 = some p.2) → ∀ p ∈ gathL g l acc, g p.1 = some p.2
  | [], acc, h => h
  | a :: r, acc, h => by
    show ∀ p ∈ (match g a with
      | some o => gathL g r ((a, o) :: acc)
      | none => gathL g r acc), g p.1 = some p.2
    cases e : g a with
    | none => exact gathL_mem r acc h
    | some o =>
      refine gathL_mem r ((a, o) :: acc) fun p hp => ?_
      rcases List.mem_cons.mp hp with z | z
      · rw [z]
        exact e
      · exact h p z
theorem gathL_in {g : Addr → Option Obj} {l : List Addr} {a : Addr} {o : Obj} (h : (gathL g l []).lookup a = some o) : g a = some o := gathL_mem l [] (fun _ h => (List.not_mem_nil h).elim) _ (He.lookup_mem h)
/-- which addresses: by the module's names, the classes and their names -/
structure Wish where
  names : List Str
  classes : List Str
  inside : List Str
def refsOf (g : Addr → Option Obj) (a : Addr) : List Addr := match g a with
  | some ⟨_, _, .func fd, _⟩ => He.refV fd.code ++ (He.refV fd.defaults ++ fd.closure.map (·.2))
  | _ => []
def recOf (g : Addr → Option Obj) (a : Addr) : List Addr := match g a with
  | some ⟨_, _, .fields vs, _⟩ => vs.toList.flatMap He.refV
  | _ => []
def nsOf (g : Addr → Option Obj) (a : Addr) : List Addr := match g a with
  | some ⟨_, _, .cls cd, _⟩ => [cd.ns]
  | _ => []
def insOf (ms : List Str) (g : Addr → Option Obj) (a : Addr) : List Addr := match g a with
  | some ⟨_, _, .dict es _, _⟩ => es.toList.flatMap fun e => match ms.any fun m => e.key.isStr m with
    | true => He.refV e.val
    | false => []
  | _ => []
/-- the part of the heap that is looked at -/
def part {α : Type} (W : Wish) (g : Addr → Option Obj) (k : PySem.W.Frag → α) : α :=
  gath g [mainGlobals] [] fun m =>
  frL (W.classes.map (He.ga m)) [] fun c =>
  frL (c.flatMap (nsOf g)) [] fun n =>
  frL (n.flatMap (insOf W.inside g)) [] fun v =>
  frL (v.flatMap (recOf g)) [] fun r =>
  frL (W.names.map (He.ga m)) [] fun f =>
  frL ((f ++ (v ++ r)).flatMap (refsOf g)) [] fun q =>
  gath g (q ++ (r ++ (v ++ (f ++ (n ++ (c ++ [cStatics, mainGlobals])))))) [] k
def GoodP (g : Addr → Option Obj) (t : ∀ α : Type, (PySem.W.Frag → α) → α) : Prop := ∃ l, ∀ (α : Type) (k : PySem.W.Frag → α), t α k = k (gathL g l [])
theorem good_frL {g : Addr → Option Obj} {l : List Addr} {u : List Addr → ∀ α : Type, (PySem.W.Frag → α) → α} (h : ∀ x, GoodP g (u x)) : GoodP g fun α k => frL l [] fun x => u x α k := by
  obtain ⟨l1, q⟩ := h (l.reverseAux [])
  exact ⟨l1, fun α k => (frL_eq _ l []).trans (q α k)⟩
theorem good_gath {g : Addr → Option Obj} {l : List Addr} {u : PySem.W.Frag → ∀ α : Type, (PySem.W.Frag → α) → α} (h : ∀ x, GoodP g (u x)) : GoodP g fun α k => gath g l [] fun x => u x α k := by
  obtain ⟨l1, q⟩ := h (gathL g l [])
  exact ⟨l1, fun α k => (gath_eq g _ l []).trans (q α k)⟩
theorem part_good (W : Wish) (g : Addr → Option Obj) : GoodP g fun α k => part W g k :=
  good_gath (u := fun m α k => _) fun m => good_frL (u := fun c α k => _) fun c => good_frL (u := fun n α k => _) fun n => good_frL (u := fun v α k => _) fun v => good_frL (u := fun r α k => _) fun r => good_frL (u := fun f α k => _) fun f => good_frL (u := fun q α k => _) fun q => ⟨_, fun α k => gath_eq g k _ []⟩
theorem part_eq (W : Wish) (g : Addr → Option Obj) : ∃ K : PySem.W.Frag, (∀ a o, K.lookup a = some o → g a = some o) ∧ ∀ (α : Type) (k : PySem.W.Frag → α), part W g k = k K := by
  obtain ⟨l, q⟩ := part_good W g
  exact ⟨_, fun a o h => gathL_in h, q⟩
def tabB (g : Addr → Option Obj) (K : PySem.W.Frag) (p : He.Defn) : Bool := PySem.W.codeHdIn K (He.cT K p).1 (He.cT K p).2 && ((match g (He.cT K p).2 with
  | some o => He.emptyTab o
  | none => false) && (K.lookup (He.cT K p).2).isNone)
def lookA (fs : List (List FB)) (K : PySem.W.Frag) : Bool := fs.all fun l => l.all fun f => f K
def lookB (fn : List (List DefC)) (tf : List He.Defn) (g : Addr → Option Obj) (K : PySem.W.Frag) : Bool := (fn.all fun l => l.all fun d => d.good K) && tf.all fun p => tabB g K p
def lookC (fn : List (List DefC)) (K : PySem.W.Frag) : List (List FnV) := fn.map fun l => l.map fun d => fnV K (d.at_ K)
def look (fs : List (List FB)) (fn : List (List DefC)) (tf : List He.Defn) (W : Wish) (g : Addr → Option Obj) : Bool × List (List FnV) := part W g fun K => (lookA fs K && lookB fn tf g K, lookC fn K)
theorem look_join {fs : List (List FB)} {fn : List (List DefC)} {tf : List He.Defn} {W : Wish} {g : Addr → Option Obj} {v : List (List FnV)} (h1 : part W g (lookA fs) = true) (h2 : part W g (lookB fn tf g) = true) (h3 : part W g (lookC fn) = v) : look fs fn tf W g = (true, v) := by
  obtain ⟨K, _, hp⟩ := part_eq W g
  rw [hp] at h1 h2 h3
  unfold look
  rw [hp, h1, h2, h3] <;> rfl
def lookV (fn : List (List DefC)) : Bool × List (List FnV) := (true, fn.map fun l => l.map DefC.val)
structure Told (fs : List (List FB)) (fn : List (List DefC)) (tf : List He.Defn) (h : Heap) (K : PySem.W.Frag) : Prop where
  all : (fs.all fun l => l.all fun f => f K) = true
  good : (fn.all fun l => l.all fun d => d.good K) = true
  val : (fn.map fun l => l.map fun d => fnV K (d.at_ K)) = fn.map fun l => l.map DefC.val
  hd : ∀ p ∈ tf, PySem.W.codeHdIn K (He.cT K p).1 (He.cT K p).2 = true
  out : ∀ p ∈ tf, K.lookup (He.cT K p).2 = none
  emp : ∀ p ∈ tf, h.get? (He.cT K p).2 = some { cls := .none, data := .fields #[] }
theorem told_of {fs : List (List FB)} {fn : List (List DefC)} {tf : List He.Defn} {W : Wish} {h : Heap} (e : look fs fn tf W h.get? = lookV fn) : ∃ K : PySem.W.Frag, K.In h ∧ Told fs fn tf h K := by
  obtain ⟨K, hK, hp⟩ := part_eq W h.get?
  have e : _ = lookV fn := (hp _ _).symm.trans e
  have e1 := congrArg Prod.fst e
  have e2 := congrArg Prod.snd e
  obtain ⟨h1, h2⟩ := He.ba e1
  obtain ⟨h2, h3⟩ := He.ba h2
  have key := fun p hp => He.ba (List.all_eq_true.mp h3 p hp)
  refine ⟨K, hK, h1, h2, e2, fun p hp => (key p hp).1, fun p hp => ?_, fun p hp => ?_⟩
  · exact Option.isNone_iff_eq_none.mp (He.ba (key p hp).2).2
  · have z := (He.ba (key p hp).2).1
    split at z
    · rename_i o q
      rw [q, He.emptyTab_eq z]
    · cases z
def hookL (fs : List (List FB)) (fn : List (List DefC)) (tf : List He.Defn) (W : Wish) : PySem.W.Hook where
  α := Bool × List (List FnV)
  obs := fun s => look fs fn tf W s.heap.get?
  val := fun _ => lookV fn
  says := fun _ h => ∃ K : PySem.W.Frag, K.In h ∧ Told fs fn tf h K
  of := fun _ _ e => told_of e
  keeps := fun _ _ _ ⟨K, hK, c⟩ k => ⟨K, hK.keeps k, c.all, c.good, c.val, c.hd, c.out, fun p hp => k _ _ (c.emp p hp)⟩
theorem look_eq {fs : List (List FB)} {fn : List (List DefC)} {tf : List He.Defn} {W : Wish} {g : Addr → Option Obj} {s : Shared} (h : ∀ a, g a = s.heap.get? a) : look fs fn tf W g = (hookL fs fn tf W).obs s := by
  have e : g = s.heap.get? := funext h
  rw [e] <;> rfl
section
variable {fs : List (List FB)} {fn : List (List DefC)} {tf : List He.Defn} {h : Heap} {K : PySem.W.Frag}
theorem Told.fact (c : Told fs fn tf h K) (i j : Nat) {l : List FB} {f : FB} (hi : fs[i]? = some l) (hj : l[j]? = some f) : f K = true :=
  List.all_eq_true.mp (List.all_eq_true.mp c.all l (List.mem_of_getElem? hi)) f (List.mem_of_getElem? hj)
theorem Told.def_ (c : Told fs fn tf h K) (i j : Nat) {l : List DefC} {d : DefC} (hi : fn[i]? = some l) (hj : l[j]? = some d) : fnV K (d.at_ K) = d.val ∧ d.good K = true := by
  refine ⟨?_, List.all_eq_true.mp (List.all_eq_true.mp c.good l (List.mem_of_getElem? hi)) d (List.mem_of_getElem? hj)⟩
  have z : (fn.map fun l => l.map fun d => fnV K (d.at_ K))[i]? = (fn.map fun l => l.map DefC.val)[i]? := by rw [c.val]
  rw [List.getElem?_map, List.getElem?_map, hi] at z
  have z1 : (l.map fun d => fnV K (d.at_ K)) = l.map DefC.val := Option.some.inj z
  have z2 : (l.map fun d => fnV K (d.at_ K))[j]? = (l.map DefC.val)[j]? := by rw [z1]
  rw [List.getElem?_map, List.getElem?_map, hj] at z2
  exact Option.some.inj z2
end
end SfW
namespace SfW
open PySem PySem.Spec PyProof.Rows L2
/-! the look: which facts, which defs (printed by genhd.py) -/
abbrev R39 : PySem.W.OpenRow := PySem.W.OpenLaw.row PySem.Challenge.rw_seenframes_k39_whole_trials_of_networks
abbrev qv : Program := PySem.W.view R39.prog [97]
def qN0 : List Str := ["_wall", "SeenError", "BadInput", "Refused", "BadHosts", "BadFrame", "BadHistory", "BadIndex", "BadCut", "BadTree"]
def qN1 : List Str := ["BadFour", "BadParting", "BadWeb", "BadGround", "BadText", "NoHost", "NoSwitch", "Unlike", "TooMany", "Crossed"]
def qN2 : List Str := ["NoChange", "LETTERS", "LONGEST_NAME", "MOST_HOSTS_names", "is_integer", "is_name", "are_names", "ascending", "ascending_names", "hosts_of"]
def qN3 : List Str := ["STAR", "NOTHING", "Frame", "is_target", "frame_in", "frames_in", "History", "PlayerNote", "PlayerTrial", "Player"]
def qN4 : List Str := ["LEAST_SIDE", "is_side", "ascending_cuts", "Cut", "in_order", "first_crossing", "holder_of", "parents_of", "road_up", "way_between"]
def qN5 : List Str := ["links_of", "text_behind", "groups_in", "PAIR_partings", "Parting", "PAIR_trees", "FOUR", "need_cuts", "need_same", "Tree"]
def qN6 : List Str := ["MOST_HOSTS_webs", "SWITCHES", "is_switch", "is_link", "need_links", "need_places", "links_in_order", "next_to", "guests_of", "grouped"]
def qN7 : List Str := ["Web", "web_of", "Network", "_law_pen", "_law_draw", "_law_pick", "_law_words", "_law_site", "_law_near", "_law_frame"]
def qN8 : List Str := ["_law_is_so", "_law_step", "_law_inside", "_law_tried", "_law_is_one"]
abbrev qN : List Str := qN0 ++ (qN1 ++ (qN2 ++ (qN3 ++ (qN4 ++ (qN5 ++ (qN6 ++ (qN7 ++ (qN8))))))))
def gN0 : List Str := ["is_name", "ascending_names", "hosts_of", "is_side", "ascending_cuts", "in_order", "first_crossing", "need_cuts", "is_switch", "is_link"]
def gN1 : List Str := ["need_links", "need_places", "links_in_order", "next_to", "guests_of", "grouped", "web_of", "_law_pen", "_law_draw", "_law_pick"]
def gN2 : List Str := ["_law_words", "_law_site", "_law_frame", "_law_is_so", "_law_step", "_law_inside", "_law_tried", "_law_is_one", "law"]
abbrev gN : List Str := gN0 ++ (gN1 ++ (gN2))
def mN0 : List Str := ["__enter__", "__exit__", "frame_place", "__eq__", "sight_at", "state_behind", "need_host", "need_frame", "send", "play"]
def mN1 : List Str := ["seers", "back", "reset", "trial", "tried", "passage", "ports_out", "knowers", "__len__", "home"]
def mN2 : List Str := ["hosts_beyond", "is_joined", "cut_of", "crosses", "__init__", "of", "frames", "hosts", "sights", "near"]
def mN3 : List Str := ["far", "switches", "web", "MOST"]
abbrev mN : List Str := mN0 ++ (mN1 ++ (mN2 ++ (mN3)))
def cN0 : List Str := ["Frame", "History", "PlayerNote", "PlayerTrial", "Player", "Cut", "Tree", "Web", "Network", "NoHost"]
def cN1 : List Str := ["Refused", "SeenError"]
abbrev cN : List Str := cN0 ++ (cN1)
def need : Wish := ⟨gN, cN, mN⟩
def fs0_0 : DefC := ⟨fun K => He.ga K "is_name", "is_name", "is_name", s_is_name, [], []⟩
def fs0_1 : DefC := ⟨fun K => He.ga K "ascending_names", "ascending", "ascending", s_ascending_names, [], []⟩
def fs0_2 : DefC := ⟨fun K => He.ga K "hosts_of", "hosts_of", "hosts_of", s_hosts_of, [.int 40], []⟩
def fs0_3 : DefC := ⟨fun K => He.ma K (He.ga K "Frame") "__init__", "__init__", "Frame.__init__", s_Frame_init, [.non], []⟩
def fs0_4 : DefC := ⟨fun K => He.ma K (He.ga K "Frame") "frame_place", "frame_place", "Frame.frame_place", s_Frame_place, [], []⟩
def fs0_5 : DefC := ⟨fun K => He.ma K (He.ga K "Frame") "__eq__", "__eq__", "Frame.__eq__", s_Frame_eq, [], []⟩
def fs0_6 : DefC := ⟨fun K => He.ma K (He.ga K "History") "__init__", "__init__", "History.__init__", s_History_init, [], []⟩
def fs0_7 : DefC := ⟨fun K => cmA K (He.ga K "History") "of", "of", "History.of", s_History_of, [], []⟩
def fs0_8 : DefC := ⟨fun K => pgA K (He.ga K "History") "frames", "frames", "History.frames", s_History_frames, [], []⟩
def fs0_9 : DefC := ⟨fun K => pgA K (He.ga K "History") "hosts", "hosts", "History.hosts", s_History_hosts, [], []⟩
def fs0 : List DefC := [fs0_0, fs0_1, fs0_2, fs0_3, fs0_4, fs0_5, fs0_6, fs0_7, fs0_8, fs0_9]
def fs1_0 : DefC := ⟨fun K => He.ma K (He.ga K "PlayerNote") "__init__", "__init__", "PlayerNote.__init__", s_Note_init, [], []⟩
def fs1_1 : DefC := ⟨fun K => He.ma K (He.ga K "PlayerTrial") "__init__", "__init__", "PlayerTrial.__init__", s_Trial_init, [], []⟩
def fs1_2 : DefC := ⟨fun K => He.ma K (He.ga K "PlayerTrial") "__enter__", "__enter__", "PlayerTrial.__enter__", s_Trial_enter, [], []⟩
def fs1_3 : DefC := ⟨fun K => He.ma K (He.ga K "PlayerTrial") "__exit__", "__exit__", "PlayerTrial.__exit__", s_Trial_exit, [], []⟩
def fs1_4 : DefC := ⟨fun K => He.ma K (He.ga K "Player") "__init__", "__init__", "Player.__init__", s_Player_init, [], []⟩
def fs1_5 : DefC := ⟨fun K => pgA K (He.ga K "Network") "hosts", "hosts", "Player.hosts", s_Player_hosts, [], []⟩
def fs1_6 : DefC := ⟨fun K => pgA K (He.ga K "Network") "sights", "sights", "Player.sights", s_Player_sights, [], []⟩
def fs1_7 : DefC := ⟨fun K => He.ma K (He.ga K "Network") "need_host", "need_host", "Player.need_host", s_need_host, [], []⟩
def fs1_8 : DefC := ⟨fun K => He.ma K (He.ga K "Network") "need_frame", "need_frame", "Player.need_frame", s_need_frame, [], []⟩
def fs1_9 : DefC := ⟨fun K => He.ma K (He.ga K "Network") "send", "send", "Player.send", s_send, [], []⟩
def fs1 : List DefC := [fs1_0, fs1_1, fs1_2, fs1_3, fs1_4, fs1_5, fs1_6, fs1_7, fs1_8, fs1_9]
def fs2_0 : DefC := ⟨fun K => He.ma K (He.ga K "Network") "play", "play", "Player.play", s_play, [], []⟩
def fs2_1 : DefC := ⟨fun K => He.ma K (He.ga K "Network") "seers", "seers", "Player.seers", s_seers, [], []⟩
def fs2_2 : DefC := ⟨fun K => He.ma K (He.ga K "Network") "back", "back", "Player.back", s_back, [], []⟩
def fs2_3 : DefC := ⟨fun K => He.ma K (He.ga K "Network") "reset", "reset", "Player.reset", s_reset, [], []⟩
def fs2_4 : DefC := ⟨fun K => He.ma K (He.ga K "Network") "trial", "trial", "Player.trial", s_trial, [], []⟩
def fs2_5 : DefC := ⟨fun K => He.ma K (He.ga K "Network") "tried", "tried", "Player.tried", s_tried, [], []⟩
def fs2_6 : DefC := ⟨fun K => He.ma K (He.ga K "Network") "__eq__", "__eq__", "Player.__eq__", s_Player_eq, [], []⟩
def fs2_7 : DefC := ⟨fun K => He.ma K (He.ga K "Network") "__len__", "__len__", "Player.__len__", s_Player_len, [], []⟩
def fs2_8 : DefC := ⟨fun K => He.ga K "is_side", "is_side", "is_side", s_is_side, [], []⟩
def fs2_9 : DefC := ⟨fun K => He.ga K "ascending_cuts", "ascending", "ascending", s_ascending_cuts, [], []⟩
def fs2 : List DefC := [fs2_0, fs2_1, fs2_2, fs2_3, fs2_4, fs2_5, fs2_6, fs2_7, fs2_8, fs2_9]
def fs3_0 : DefC := ⟨fun K => He.ma K (He.ga K "Cut") "__init__", "__init__", "Cut.__init__", s_Cut_init, [], []⟩
def fs3_1 : DefC := ⟨fun K => pgA K (He.ga K "Cut") "near", "near", "Cut.near", s_Cut_near, [], []⟩
def fs3_2 : DefC := ⟨fun K => pgA K (He.ga K "Cut") "far", "far", "Cut.far", s_Cut_far, [], []⟩
def fs3_3 : DefC := ⟨fun K => pgA K (He.ga K "Cut") "hosts", "hosts", "Cut.hosts", s_Cut_hosts, [], []⟩
def fs3_4 : DefC := ⟨fun K => He.ma K (He.ga K "Cut") "crosses", "crosses", "Cut.crosses", s_crosses, [], []⟩
def fs3_5 : DefC := ⟨fun K => He.ga K "in_order", "in_order", "in_order", s_in_order, [], []⟩
def fs3_6 : DefC := ⟨fun K => He.ga K "first_crossing", "first_crossing", "first_crossing", s_first_crossing, [], []⟩
def fs3_7 : DefC := ⟨fun K => He.ga K "need_cuts", "need_cuts", "need_cuts", s_need_cuts, [], []⟩
def fs3_8 : DefC := ⟨fun K => He.ma K (He.ga K "Tree") "__init__", "__init__", "Tree.__init__", s_Tree_init, [.adr (He.dflAt ("Tree", some "__init__") 0)], []⟩
def fs3_9 : DefC := ⟨fun K => He.ga K "is_switch", "is_switch", "is_switch", s_is_switch, [], []⟩
def fs3 : List DefC := [fs3_0, fs3_1, fs3_2, fs3_3, fs3_4, fs3_5, fs3_6, fs3_7, fs3_8, fs3_9]
def fs4_0 : DefC := ⟨fun K => He.ga K "is_link", "is_link", "is_link", s_is_link, [], []⟩
def fs4_1 : DefC := ⟨fun K => He.ga K "need_links", "need_links", "need_links", s_need_links, [], []⟩
def fs4_2 : DefC := ⟨fun K => He.ga K "need_places", "need_places", "need_places", s_need_places, [], []⟩
def fs4_3 : DefC := ⟨fun K => He.ga K "links_in_order", "links_in_order", "links_in_order", s_links_in_order, [], []⟩
def fs4_4 : DefC := ⟨fun K => He.ga K "next_to", "next_to", "next_to", s_next_to, [], []⟩
def fs4_5 : DefC := ⟨fun K => He.ga K "guests_of", "guests_of", "guests_of", s_guests_of, [], []⟩
def fs4_6 : DefC := ⟨fun K => He.ga K "grouped", "grouped", "grouped", s_grouped, [], []⟩
def fs4_7 : DefC := ⟨fun K => He.ma K (He.ga K "Web") "__init__", "__init__", "Web.__init__", s_Web_init, [], []⟩
def fs4_8 : DefC := ⟨fun K => pgA K (He.ga K "Web") "hosts", "hosts", "Web.hosts", s_Web_hosts, [], []⟩
def fs4_9 : DefC := ⟨fun K => pgA K (He.ga K "Web") "switches", "switches", "Web.switches", s_Web_switches, [], []⟩
def fs4 : List DefC := [fs4_0, fs4_1, fs4_2, fs4_3, fs4_4, fs4_5, fs4_6, fs4_7, fs4_8, fs4_9]
def fs5_0 : DefC := ⟨fun K => He.ma K (He.ga K "Web") "home", "home", "Web.home", s_home, [], []⟩
def fs5_1 : DefC := ⟨fun K => He.ma K (He.ga K "Web") "hosts_beyond", "hosts_beyond", "Web.hosts_beyond", s_hosts_beyond, [], []⟩
def fs5_2 : DefC := ⟨fun K => He.ma K (He.ga K "Web") "is_joined", "is_joined", "Web.is_joined", s_is_joined, [], []⟩
def fs5_3 : DefC := ⟨fun K => He.ma K (He.ga K "Web") "cut_of", "cut_of", "Web.cut_of", s_cut_of, [], []⟩
def fs5_4 : DefC := ⟨fun K => He.ma K (He.ga K "Web") "__eq__", "__eq__", "Web.__eq__", s_Web_eq, [], []⟩
def fs5_5 : DefC := ⟨fun K => He.ga K "web_of", "web_of", "web_of", s_web_of, [], []⟩
def fs5_6 : DefC := ⟨fun K => pgA K (He.ga K "Network") "web", "web", "Network.web", s_Network_web, [], []⟩
def fs5_7 : DefC := ⟨fun K => He.ma K (He.ga K "Network") "ports_out", "ports_out", "Network.ports_out", s_ports_out, [], []⟩
def fs5_8 : DefC := ⟨fun K => He.ma K (He.ga K "Network") "passage", "passage", "Network.passage", s_passage, [], []⟩
def fs5_9 : DefC := ⟨fun K => He.ma K (He.ga K "Network") "sight_at", "sight_at", "Network.sight_at", s_sight_at, [], []⟩
def fs5 : List DefC := [fs5_0, fs5_1, fs5_2, fs5_3, fs5_4, fs5_5, fs5_6, fs5_7, fs5_8, fs5_9]
def fs6_0 : DefC := ⟨fun K => He.ma K (He.ga K "Network") "state_behind", "state_behind", "Network.state_behind", s_state_behind, [], []⟩
def fs6_1 : DefC := ⟨fun K => He.ma K (He.ga K "Network") "knowers", "knowers", "Network.knowers", s_knowers, [], []⟩
def fs6_2 : DefC := ⟨fun K => He.ga K "_law_pen", "_law_pen", "_law_pen", s_law_pen, [], []⟩
def fs6_3 : DefC := ⟨fun K => He.ga K "_law_draw", "_law_draw", "_law_draw", s_law_draw, [], []⟩
def fs6_4 : DefC := ⟨fun K => He.ga K "_law_pick", "_law_pick", "_law_pick", s_law_pick, [], []⟩
def fs6_5 : DefC := ⟨fun K => He.ga K "_law_words", "_law_words", "_law_words", s_law_words, [], []⟩
def fs6_6 : DefC := ⟨fun K => He.ga K "_law_site", "_law_site", "_law_site", s_law_site, [], []⟩
def fs6_7 : DefC := ⟨fun K => He.ga K "_law_frame", "_law_frame", "_law_frame", s_law_frame, [], []⟩
def fs6_8 : DefC := ⟨fun K => He.ga K "_law_is_so", "_law_is_so", "_law_is_so", s_law_is_so, [], []⟩
def fs6_9 : DefC := ⟨fun K => He.ga K "_law_step", "_law_step", "_law_step", s_law_step, [], []⟩
def fs6 : List DefC := [fs6_0, fs6_1, fs6_2, fs6_3, fs6_4, fs6_5, fs6_6, fs6_7, fs6_8, fs6_9]
def fs7_0 : DefC := ⟨fun K => He.ga K "_law_inside", "_law_inside", "_law_inside", s_law_inside, [], []⟩
def fs7_1 : DefC := ⟨fun K => He.ga K "_law_tried", "_law_tried", "_law_tried", s_law_tried, [], []⟩
def fs7_2 : DefC := ⟨fun K => He.ga K "_law_is_one", "_law_is_one", "_law_is_one", s_law_is_one, [], []⟩
def fs7_3 : DefC := ⟨fun K => He.ma K (He.ga K "Network") "__init__", "__init__", "Network.__init__", s_Network_init, [], ["__class__"]⟩
def fs7_4 : DefC := ⟨fun K => He.ma K (He.ga K "NoHost") "__init__", "__init__", "NoHost.__init__", s_NoHost_init, [], ["__class__"]⟩
def fs7_5 : DefC := ⟨fun K => He.ga K "law", "law", "law", topS 97, [], []⟩
def fs7 : List DefC := [fs7_0, fs7_1, fs7_2, fs7_3, fs7_4, fs7_5]
def fsn : List (List DefC) := [fs0, fs1, fs2, fs3, fs4, fs5, fs6, fs7]
def fb0 : List FB := [fun K => (He.Fa.glo "is_name").ok K, fun K => (He.Fa.glo "ascending_names").ok K, fun K => (He.Fa.glo "hosts_of").ok K, fun K => (He.Fa.glo "Frame").ok K, fun K => (He.Fa.glo "History").ok K, fun K => (He.Fa.glo "PlayerNote").ok K, fun K => (He.Fa.glo "PlayerTrial").ok K, fun K => (He.Fa.glo "is_side").ok K, fun K => (He.Fa.glo "ascending_cuts").ok K, fun K => (He.Fa.glo "Cut").ok K]
def fb1 : List FB := [fun K => (He.Fa.glo "in_order").ok K, fun K => (He.Fa.glo "first_crossing").ok K, fun K => (He.Fa.glo "need_cuts").ok K, fun K => (He.Fa.glo "Tree").ok K, fun K => (He.Fa.glo "is_switch").ok K, fun K => (He.Fa.glo "is_link").ok K, fun K => (He.Fa.glo "need_links").ok K, fun K => (He.Fa.glo "need_places").ok K, fun K => (He.Fa.glo "links_in_order").ok K, fun K => (He.Fa.glo "next_to").ok K]
def fb2 : List FB := [fun K => (He.Fa.glo "guests_of").ok K, fun K => (He.Fa.glo "grouped").ok K, fun K => (He.Fa.glo "Web").ok K, fun K => (He.Fa.glo "web_of").ok K, fun K => (He.Fa.glo "Network").ok K, fun K => (He.Fa.glo "Player").ok K, fun K => (He.Fa.glo "NoHost").ok K, fun K => (He.Fa.glo "_law_pen").ok K, fun K => (He.Fa.glo "_law_draw").ok K, fun K => (He.Fa.glo "_law_pick").ok K]
def fb3 : List FB := [fun K => (He.Fa.glo "_law_words").ok K, fun K => (He.Fa.glo "_law_site").ok K, fun K => (He.Fa.glo "_law_frame").ok K, fun K => (He.Fa.glo "_law_is_so").ok K, fun K => (He.Fa.glo "_law_step").ok K, fun K => (He.Fa.glo "_law_inside").ok K, fun K => (He.Fa.glo "_law_tried").ok K, fun K => (He.Fa.glo "_law_is_one").ok K, fun K => (He.Fa.free "isinstance").ok K, fun K => (He.Fa.free "len").ok K]
def fb4 : List FB := [fun K => (He.Fa.free "all").ok K, fun K => (He.Fa.free "any").ok K, fun K => (He.Fa.free "list").ok K, fun K => (He.Fa.free "tuple").ok K, fun K => (He.Fa.free "set").ok K, fun K => (He.Fa.free "str").ok K, fun K => (He.Fa.free "int").ok K, fun K => (He.Fa.free "sorted").ok K, fun K => (He.Fa.free "dict").ok K, fun K => (He.Fa.free "enumerate").ok K]
def fb5 : List FB := [fun K => (He.Fa.free "range").ok K, fun K => (He.Fa.free "zip").ok K, fun K => (He.Fa.free "min").ok K, fun K => (He.Fa.free "max").ok K, fun K => (He.Fa.free "super").ok K, fun K => (He.Fa.free "repr").ok K, fun K => (He.Fa.free "abs").ok K, fun K => (He.Fa.free "KeyError").ok K, fun K => (He.Fa.free "bool").ok K, fun K => (He.Fa.int "LONGEST_NAME" 8).ok K]
def fb6 : List FB := [fun K => (He.Fa.int "LEAST_SIDE" 2).ok K, fun K => (He.Fa.int "MOST_HOSTS_webs" 40).ok K, fun K => (He.Fa.int "SWITCHES" 100).ok K, fun K => (He.Fa.str "LETTERS" "abcdefghijklmnopqrstuvwxyz").ok K, fun K => (He.Fa.cls "Frame").ok K, fun K => (He.Fa.cls "History").ok K, fun K => (He.Fa.cls "PlayerNote").ok K, fun K => (He.Fa.cls "PlayerTrial").ok K, fun K => (He.Fa.cls "Cut").ok K, fun K => (He.Fa.cls "Tree").ok K]
def fb7 : List FB := [fun K => (He.Fa.cls "Web").ok K, fun K => (He.Fa.cls "Network").ok K, fun K => (He.Fa.noat "Frame" "sender").ok K, fun K => (He.Fa.noat "Frame" "target").ok K, fun K => (He.Fa.noat "History" "rows").ok K, fun K => (He.Fa.noat "PlayerNote" "states").ok K, fun K => (He.Fa.noat "PlayerNote" "sent").ok K, fun K => (He.Fa.noat "PlayerNote" "own_sights").ok K, fun K => (He.Fa.noat "PlayerNote" "outer").ok K, fun K => (He.Fa.noat "PlayerTrial" "subject").ok K]
def fb8 : List FB := [fun K => (He.Fa.noat "PlayerTrial" "kept").ok K, fun K => (He.Fa.noat "Cut" "near_side").ok K, fun K => (He.Fa.noat "Cut" "far_side").ok K, fun K => (He.Fa.noat "Cut" "all_names").ok K, fun K => (He.Fa.noat "Tree" "all_names").ok K, fun K => (He.Fa.noat "Tree" "own_cuts").ok K, fun K => (He.Fa.noat "Web" "own_links").ok K, fun K => (He.Fa.noat "Web" "own_hosts").ok K, fun K => (He.Fa.noat "Web" "own_places").ok K, fun K => (He.Fa.noat "Web" "own_switches").ok K]
def fb9 : List FB := [fun K => (He.Fa.noat "Web" "sides").ok K, fun K => (He.Fa.noat "Web" "guests").ok K, fun K => (He.Fa.noat "Web" "own_tree").ok K, fun K => (He.Fa.noat "Network" "own_web").ok K, fun K => (He.Fa.noat "Network" "ground_told").ok K, fun K => (He.Fa.noat "Network" "own_hosts").ok K, fun K => (He.Fa.noat "Network" "states").ok K, fun K => (He.Fa.noat "Network" "sent").ok K, fun K => (He.Fa.noat "Network" "own_sights").ok K, fun K => (He.Fa.meth "PlayerTrial" "__enter__").ok K]
def fb10 : List FB := [fun K => (He.Fa.meth "PlayerTrial" "__exit__").ok K, fun K => (He.Fa.meth "Frame" "frame_place").ok K, fun K => (He.Fa.meth "Frame" "__eq__").ok K, fun K => (He.Fa.meth "Network" "sight_at").ok K, fun K => (He.Fa.meth "Network" "state_behind").ok K, fun K => (He.Fa.meth "Network" "need_host").ok K, fun K => (He.Fa.meth "Network" "need_frame").ok K, fun K => (He.Fa.meth "Network" "send").ok K, fun K => (He.Fa.meth "Network" "play").ok K, fun K => (He.Fa.meth "Network" "seers").ok K]
def fb11 : List FB := [fun K => (He.Fa.meth "Network" "back").ok K, fun K => (He.Fa.meth "Network" "reset").ok K, fun K => (He.Fa.meth "Network" "trial").ok K, fun K => (He.Fa.meth "Network" "tried").ok K, fun K => (He.Fa.meth "Network" "passage").ok K, fun K => (He.Fa.meth "Network" "ports_out").ok K, fun K => (He.Fa.meth "Network" "knowers").ok K, fun K => (He.Fa.meth "Network" "__eq__").ok K, fun K => (He.Fa.meth "Network" "__len__").ok K, fun K => (He.Fa.meth "Web" "home").ok K]
def fb12 : List FB := [fun K => (He.Fa.meth "Web" "hosts_beyond").ok K, fun K => (He.Fa.meth "Web" "is_joined").ok K, fun K => (He.Fa.meth "Web" "cut_of").ok K, fun K => (He.Fa.meth "Web" "__eq__").ok K, fun K => (He.Fa.meth "Cut" "crosses").ok K, fun K => (He.Fa.mkr "Frame").ok K, fun K => (He.Fa.mkr "History").ok K, fun K => (He.Fa.mkr "PlayerNote").ok K, fun K => (He.Fa.mkr "PlayerTrial").ok K, fun K => (He.Fa.mkr "Cut").ok K]
def fb13 : List FB := [fun K => (He.Fa.mkr "Tree").ok K, fun K => (He.Fa.mkr "Web").ok K, fun K => (He.Fa.mkr "Network").ok K, fun K => sisB K (He.ga K "Frame"), fun K => sisB K (He.ga K "History"), fun K => sisB K (He.ga K "PlayerNote"), fun K => sisB K (He.ga K "PlayerTrial"), fun K => sisB K (He.ga K "Cut"), fun K => sisB K (He.ga K "Tree"), fun K => sisB K (He.ga K "Web")]
def fb14 : List FB := [fun K => sisB K (He.ga K "Network"), fun K => decide (PySem.W.kitOne K (.ref (He.ga K "Frame")) (.ref (He.ga K "Frame")) = some true), fun K => decide (PySem.W.kitOne K (.ref (He.ga K "Cut")) (.ref (He.ga K "Cut")) = some true), fun K => decide (PySem.W.kitOne K (.ref (He.ga K "Web")) (.ref (He.ga K "Web")) = some true), fun K => decide (PySem.W.kitOne K (.ref (He.ga K "Network")) (.ref (He.ga K "Player")) = some true), fun K => readB K (He.ga K "History"), fun K => cvalB K (He.ga K "History") "MOST" (.int 60), fun K => cmetB K (He.ga K "History") "of", fun K => propB K (He.ga K "History") "frames", fun K => propB K (He.ga K "History") "hosts"]
def fb15 : List FB := [fun K => propB K (He.ga K "Network") "hosts", fun K => propB K (He.ga K "Network") "sights", fun K => propB K (He.ga K "Cut") "near", fun K => propB K (He.ga K "Cut") "far", fun K => propB K (He.ga K "Cut") "hosts", fun K => propB K (He.ga K "Web") "hosts", fun K => propB K (He.ga K "Web") "switches", fun K => propB K (He.ga K "Network") "web", fun K => celB K PySem.Challenge.pw_seenframes_k39_whole_trials_of_networks.main.file (He.ma K (He.ga K "Network") "__init__") (He.ga K "Network"), fun K => (PySem.W.clsIn K (He.ga K "Network")).isSome]
def fb16 : List FB := [fun K => decide (PySem.W.mroIn K (He.ga K "Network") (.ref (He.ga K "Network")) = some true), fun K => He.eqO (PySem.W.nsIn K cStatics "thirdparty.any") (some none), fun K => He.eqO (PySem.W.ks_superIn K (He.ga K "Network") (He.ga K "Network") "__init__") (some (some (.ref (He.ma K (He.ga K "Player") "__init__")))), fun K => decide (PySem.W.typeIn K (.ref (He.ma K (He.ga K "Player") "__init__")) = some (.type "function")), fun K => PySem.W.fnIn K (He.ma K (He.ga K "Player") "__init__"), fun K => oexB K (He.ga K "NoHost"), fun K => celB K PySem.Challenge.pw_seenframes_k39_whole_trials_of_networks.main.file (He.ma K (He.ga K "NoHost") "__init__") (He.ga K "NoHost"), fun K => (PySem.W.clsIn K (He.ga K "NoHost")).isSome, fun K => decide (PySem.W.mroIn K (He.ga K "NoHost") (.ref (He.ga K "NoHost")) = some true), fun K => He.eqO (PySem.W.ks_superIn K (He.ga K "NoHost") (He.ga K "NoHost") "__init__") (some (some (.builtin "ValueError.__init__")))]
def fb17 : List FB := [fun K => decide (PySem.W.subIn K (.ref (He.ga K "NoHost")) (.type "ValueError") = some true), fun K => He.eqO (PySem.W.findIn K (.ref (He.ga K "NoHost")) "name") (some none), fun K => He.eqO (PySem.W.findIn K (.ref (He.ga K "NoHost")) "__init__") (some (some (.ref (He.ma K (He.ga K "NoHost") "__init__")))), fun K => decide (PySem.W.typeIn K (.ref (He.ma K (He.ga K "NoHost") "__init__")) = some (.type "function")), fun K => xfB K (He.ga K "NoHost"), fun K => He.eqO (PySem.W.findIn K (.ref (He.ga K "Network")) "__ne__") (some (some (.builtin "object.__ne__"))), fun K => decide (PySem.W.mroIn K (He.ga K "Network") (.type "object") = some true), fun K => decide (PySem.W.exmOne K (.ref (He.ga K "NoHost")) (.ref (He.ga K "NoHost")) = some true), fun K => decide (PySem.W.exmOne K (.type "KeyError") (.ref (He.ga K "NoHost")) = some false), fun K => decide (PySem.W.exmOne K (.type "KeyError") (.type "KeyError") = some true)]
def fb18 : List FB := [fun K => !decide ((He.cT K ("_law_tried", none)).2 = (He.cT K ("law", none)).2), fun K => (He.Fa.glo "law").ok K]
def fbn : List (List FB) := [fb0, fb1, fb2, fb3, fb4, fb5, fb6, fb7, fb8, fb9, fb10, fb11, fb12, fb13, fb14, fb15, fb16, fb17, fb18]
def tfn : List He.Defn := [("_law_tried", none), ("law", none)]
abbrev hk : PySem.W.Hook := hookL fbn fsn tfn need
def ob (s : PySem.W.SharedT) : Bool × List (List FnV) := look fbn fsn tfn need (HandSHeadRun.getT s)
theorem ob_eq (s : PySem.W.SharedT) : ob s = hk.obs s.abs := look_eq (HandSHeadRun.getT_eq s)
end SfW
namespace SfW
open PySem PySem.W PySem.Calls PyProof.Rows
/-! the top runs: once for each part of what is looked at, for memory's sake -/
noncomputable abbrev endS (w : World) (os : OsState) : Option SharedT := HandSHeadRun.endF (HandSHeadRun.stepQ (HandSHeadRun.denQ HandSHeadRun.tabQ) R39.prog w) 20000 R39.prog w os
noncomputable abbrev seenL (w : World) (s : SharedT) : Bool := HandSHeadRun.looksF R39.prog (boot_heap w.params) s.abs
noncomputable abbrev seenR (s : SharedT) := HandSHeadRun.seenQ qv qN (importedModules R39.prog.main.body) (fun s => xlAt qv [] s && recOk R39.toRowW.records s) s.abs
theorem run_a (w : World) (os : OsState) : (endS w os).map (fun s => part need (HandSHeadRun.getT s) (lookA fbn)) = some true := by
  kernel_rfl
theorem run_b (w : World) (os : OsState) : (endS w os).map (fun s => part need (HandSHeadRun.getT s) (lookB fsn tfn (HandSHeadRun.getT s))) = some true := by
  kernel_rfl
theorem run_c (w : World) (os : OsState) : (endS w os).map (fun s => part need (HandSHeadRun.getT s) (lookC fsn)) = some (fsn.map fun l => l.map DefC.val) := by
  kernel_rfl
theorem run_l (w : World) (os : OsState) : (endS w os).map (fun s => seenL w s) = some true := by
  kernel_rfl
theorem run_r (w : World) (os : OsState) : (endS w os).map (fun s => seenR s) = some (openGood qv qN) := by
  kernel_rfl
end SfW
namespace SfW
open PySem PySem.W PySem.Calls PyProof.Rows
theorem map_five {α β γ δ : Type} (o : Option α) (f : α → β) (g : α → γ) (a1 a2 : α → Bool) (a3 : α → δ) (e : α → Bool × δ) (b : β) (c : γ) (d : δ) (h : ∀ s, a1 s = true → a2 s = true → a3 s = d → e s = (true, d)) (h1 : o.map (fun s => f s) = some b) (h2 : o.map (fun s => g s) = some c)
    (h3 : o.map (fun s => a1 s) = some true) (h4 : o.map (fun s => a2 s) = some true) (h5 : o.map (fun s => a3 s) = some d) : o.map (fun s => (f s, g s, e s)) = some (b, c, (true, d)) := by
  cases o with
  | none => cases h1
  | some a =>
    have e1 : f a = b := Option.some.inj h1
    have e2 : g a = c := Option.some.inj h2
    have e3 := h a (Option.some.inj h3) (Option.some.inj h4) (Option.some.inj h5)
    show some (f a, g a, e a) = _
    rw [e1, e2, e3]
theorem run_look (w : World) : HandSHeadRun.RunEq R39 qv hk ob 20000 qN w := fun os => map_five (endS w os) (fun s => seenL w s) (fun s => seenR s) (fun s => part need (HandSHeadRun.getT s) (lookA fbn)) (fun s => part need (HandSHeadRun.getT s) (lookB fsn tfn (HandSHeadRun.getT s))) (fun s => part need (HandSHeadRun.getT s) (lookC fsn)) (fun s => ob s) true (openGood qv qN) (lookV fsn).2
  (fun s h1 h2 h3 => look_join h1 h2 h3) (run_l w os) (run_r w os) (run_a w os) (run_b w os) (run_c w os)
end SfW
/-! Trees of switches: distances, sides, nothing of Python here. -/
namespace SfM
/-- the switches next to one, in the order of the links -/
def nextTo (L : List (Int × Int)) (s : Int) : List Int :=
  (L.filter (fun e => decide (s = e.1 ∨ s = e.2))).map (fun e => if e.1 = s then e.2 else e.1)
/-- v is on the side of a, not on that of b -/
def reg (D : Int → Int → Nat) (a b v : Int) : Bool := decide (D v a < D v b)
structure TreeL (S : List Int) (L : List (Int × Int)) (D : Int → Int → Nat) : Prop where
  nd : S.Nodup
  ends : ∀ e ∈ L, e.1 ∈ S ∧ e.2 ∈ S ∧ e.1 ≠ e.2
  snd : ∀ s ∈ S, (nextTo L s).Nodup
  lnd : L.Nodup
  dz : ∀ x ∈ S, ∀ y ∈ S, (D x y = 0 ↔ x = y)
  step : ∀ x ∈ S, ∀ e ∈ L, D x e.1 = D x e.2 + 1 ∨ D x e.2 = D x e.1 + 1
  ex : ∀ x ∈ S, ∀ a ∈ S, x ≠ a → ∃ t ∈ nextTo L a, D x t < D x a
  uq : ∀ x ∈ S, ∀ a ∈ S, ∀ t ∈ nextTo L a, ∀ t' ∈ nextTo L a, D x t < D x a → D x t' < D x a → t = t'
  sep : ∀ e ∈ L, ∀ f ∈ L, e ≠ f → reg D f.1 f.2 e.1 = reg D f.1 f.2 e.2
  nc : ∀ e ∈ L, ∀ f ∈ L, (∀ v ∈ S, ¬ (reg D e.1 e.2 v = true ∧ reg D f.1 f.2 v = true)) ∨ (∀ v ∈ S, ¬ (reg D e.1 e.2 v = true ∧ reg D f.2 f.1 v = true)) ∨
    (∀ v ∈ S, ¬ (reg D e.2 e.1 v = true ∧ reg D f.1 f.2 v = true)) ∨ (∀ v ∈ S, ¬ (reg D e.2 e.1 v = true ∧ reg D f.2 f.1 v = true))

theorem mem_nextTo {L : List (Int × Int)} {s t : Int} : t ∈ nextTo L s ↔ (s, t) ∈ L ∨ (t, s) ∈ L := by
  unfold nextTo
  simp only [List.mem_map, List.mem_filter, decide_eq_true_eq]
  constructor
  · rintro ⟨⟨a, b⟩, ⟨h1, h2⟩, h3⟩
    simp only at h2 h3
    by_cases e : a = s
    · rw [if_pos e] at h3; subst e; subst h3; exact .inl h1
    · rw [if_neg e] at h3
      rcases h2 with h2 | h2
      · exact absurd h2.symm e
      · subst h2; subst h3; exact .inr h1
  · rintro (h | h)
    · exact ⟨(s, t), ⟨h, .inl rfl⟩, by simp⟩
    · by_cases e : t = s
      · subst e; exact ⟨(t, t), ⟨h, .inl rfl⟩, by simp⟩
      · exact ⟨(t, s), ⟨h, .inr rfl⟩, by simp [e]⟩
theorem nextTo_symm {L : List (Int × Int)} {s t : Int} (h : t ∈ nextTo L s) : s ∈ nextTo L t := by
  rw [mem_nextTo] at h ⊢
  exact h.symm
theorem nextTo_append (L M : List (Int × Int)) (s : Int) : nextTo (L ++ M) s = nextTo L s ++ nextTo M s := by
  unfold nextTo
  rw [List.filter_append, List.map_append]
theorem nextTo_perm {L M : List (Int × Int)} (h : L.Perm M) (s : Int) : (nextTo L s).Perm (nextTo M s) := (h.filter _).map _

theorem TreeL.one (a : Int) : TreeL [a] [] (fun _ _ => 0) where
  nd := by simp
  ends := by simp
  snd := by simp [nextTo]
  lnd := by simp
  dz := by simp
  step := by simp
  ex := by
    intro x hx b hb h
    simp at hx hb
    exact absurd (hx.trans hb.symm) h
  uq := by simp [nextTo]
  sep := by simp
  nc := by simp
theorem TreeL.perm {S : List Int} {L M : List (Int × Int)} {D : Int → Int → Nat} (T : TreeL S L D) (h : L.Perm M) : TreeL S M D where
  nd := T.nd
  ends := fun e he => T.ends e (h.symm.mem_iff.mp he)
  snd := fun s hs => (nextTo_perm h s).nodup_iff.mp (T.snd s hs)
  lnd := h.nodup_iff.mp T.lnd
  dz := T.dz
  step := fun x hx e he => T.step x hx e (h.symm.mem_iff.mp he)
  ex := fun x hx a ha n => by
    obtain ⟨t, h1, h2⟩ := T.ex x hx a ha n
    exact ⟨t, (nextTo_perm h a).mem_iff.mp h1, h2⟩
  uq := fun x hx a ha t ht t' ht' => T.uq x hx a ha t ((nextTo_perm h a).symm.mem_iff.mp ht) t' ((nextTo_perm h a).symm.mem_iff.mp ht')
  sep := fun e he f hf => T.sep e (h.symm.mem_iff.mp he) f (h.symm.mem_iff.mp hf)
  nc := fun e he f hf => T.nc e (h.symm.mem_iff.mp he) f (h.symm.mem_iff.mp hf)
/-- distances with a leaf v at u -/
def leafD (D : Int → Int → Nat) (v u x y : Int) : Nat :=
  if x = v then (if y = v then 0 else D u y + 1) else (if y = v then D x u + 1 else D x y)
theorem leafD_old {D : Int → Int → Nat} {v u x y : Int} (hx : x ≠ v) (hy : y ≠ v) : leafD D v u x y = D x y := by
  unfold leafD; rw [if_neg hx, if_neg hy]
theorem leafD_left {D : Int → Int → Nat} {v u y : Int} (hy : y ≠ v) : leafD D v u v y = D u y + 1 := by
  unfold leafD; rw [if_pos rfl, if_neg hy]
theorem leafD_right {D : Int → Int → Nat} {v u x : Int} (hx : x ≠ v) : leafD D v u x v = D x u + 1 := by
  unfold leafD; rw [if_neg hx, if_pos rfl]
theorem leafD_self {D : Int → Int → Nat} {v u : Int} : leafD D v u v v = 0 := by
  unfold leafD; rw [if_pos rfl, if_pos rfl]
section
variable {S : List Int} {L : List (Int × Int)} {D : Int → Int → Nat} {v u : Int}
theorem TreeL.next_in (T : TreeL S L D) {s t : Int} (h : t ∈ nextTo L s) : s ∈ S ∧ t ∈ S ∧ s ≠ t := by
  rcases mem_nextTo.mp h with h | h
  · exact T.ends _ h
  · obtain ⟨a, b, c⟩ := T.ends _ h
    exact ⟨b, a, fun e => c e.symm⟩
theorem TreeL.step' (T : TreeL S L D) {x s t : Int} (hx : x ∈ S) (h : t ∈ nextTo L s) : D x s = D x t + 1 ∨ D x t = D x s + 1 := by
  rcases mem_nextTo.mp h with h | h
  · exact T.step x hx _ h
  · exact (T.step x hx _ h).symm
/-- a leaf's side of an old link is that of the switch it hangs on -/
theorem reg_leaf {a b : Int} (ha : a ≠ v) (hb : b ≠ v) : reg (leafD D v u) a b v = reg D a b u := by
  unfold reg
  rw [leafD_left ha, leafD_left hb]
  by_cases h : D u a < D u b
  · rw [decide_eq_true h, decide_eq_true (by omega)]
  · rw [decide_eq_false h, decide_eq_false (by omega)]
theorem reg_old {a b x : Int} (ha : a ≠ v) (hb : b ≠ v) (hx : x ≠ v) : reg (leafD D v u) a b x = reg D a b x := by
  unfold reg
  rw [leafD_old hx ha, leafD_old hx hb]
theorem reg_new_u {x : Int} (hu : u ≠ v) (hx : x ≠ v) : reg (leafD D v u) u v x = true := by
  unfold reg
  rw [leafD_old hx hu, leafD_right hx]
  exact decide_eq_true (by omega)
theorem reg_new_u' {x : Int} (hu : u ≠ v) (hx : x ≠ v) : reg (leafD D v u) v u x = false := by
  unfold reg
  rw [leafD_old hx hu, leafD_right hx]
  exact decide_eq_false (by omega)
theorem reg_new_v (hu : u ≠ v) : reg (leafD D v u) u v v = false := by
  unfold reg
  rw [leafD_left hu, leafD_self]
  exact decide_eq_false (by omega)
theorem reg_new_v' (hu : u ≠ v) : reg (leafD D v u) v u v = true := by
  unfold reg
  rw [leafD_left hu, leafD_self]
  exact decide_eq_true (by omega)
theorem TreeL.leaf (T : TreeL S L D) (hu : u ∈ S) (hv : v ∉ S) {e0 : Int × Int} (he0 : e0 = (v, u) ∨ e0 = (u, v)) : TreeL (S ++ [v]) (L ++ [e0]) (leafD D v u) := by
  have old : ∀ {x}, x ∈ S → x ≠ v := fun {x} hx e => hv (e ▸ hx)
  have uv : u ≠ v := old hu
  have oe : ∀ e ∈ L, e.1 ≠ v ∧ e.2 ≠ v := fun e he => ⟨old (T.ends e he).1, old (T.ends e he).2.1⟩
  have e0i : e0.1 = v ∧ e0.2 = u ∨ e0.1 = u ∧ e0.2 = v := by
    rcases he0 with rfl | rfl
    · exact .inl ⟨rfl, rfl⟩
    · exact .inr ⟨rfl, rfl⟩
  have n0L : e0 ∉ L := fun h => by
    rcases e0i with ⟨a, b⟩ | ⟨a, b⟩
    · exact (oe _ h).1 a
    · exact (oe _ h).2 b
  have nx : ∀ {s t}, t ∈ nextTo (L ++ [e0]) s ↔ t ∈ nextTo L s ∨ (s = u ∧ t = v) ∨ (s = v ∧ t = u) := fun {s t} => by
    rw [mem_nextTo, mem_nextTo]
    simp only [List.mem_append, List.mem_singleton]
    rcases he0 with rfl | rfl
    · constructor
      · rintro ((h | h) | (h | h))
        · exact .inl (.inl h)
        · simp only [Prod.mk.injEq] at h; exact .inr (.inr h)
        · exact .inl (.inr h)
        · simp only [Prod.mk.injEq] at h; exact .inr (.inl ⟨h.2, h.1⟩)
      · rintro ((h | h) | (⟨rfl, rfl⟩ | ⟨rfl, rfl⟩))
        · exact .inl (.inl h)
        · exact .inr (.inl h)
        · exact .inr (.inr rfl)
        · exact .inl (.inr rfl)
    · constructor
      · rintro ((h | h) | (h | h))
        · exact .inl (.inl h)
        · simp only [Prod.mk.injEq] at h; exact .inr (.inl h)
        · exact .inl (.inr h)
        · simp only [Prod.mk.injEq] at h; exact .inr (.inr ⟨h.2, h.1⟩)
      · rintro ((h | h) | (⟨rfl, rfl⟩ | ⟨rfl, rfl⟩))
        · exact .inl (.inl h)
        · exact .inr (.inl h)
        · exact .inl (.inr rfl)
        · exact .inr (.inr rfl)
  have nov : nextTo L v = [] := by
    apply List.eq_nil_iff_forall_not_mem.mpr
    intro t ht
    exact hv (T.next_in ht).1
  have novt : ∀ {s}, v ∉ nextTo L s := fun {s} ht => hv (T.next_in ht).2.1
  have memS : ∀ {x}, x ∈ S ++ [v] → x ∈ S ∨ x = v := fun {x} h => by simpa using h
  have memL : ∀ {e}, e ∈ L ++ [e0] → e ∈ L ∨ e = e0 := fun {e} h => by simpa using h
  constructor
  · rw [List.nodup_append]
    exact ⟨T.nd, by simp, fun a ha b hb => by simp at hb; subst hb; exact old ha⟩
  · intro e he
    rcases memL he with he | rfl
    · obtain ⟨a, b, c⟩ := T.ends e he
      exact ⟨List.mem_append_left _ a, List.mem_append_left _ b, c⟩
    · rcases e0i with ⟨a, b⟩ | ⟨a, b⟩
      · rw [a, b]; exact ⟨by simp, by simp [hu], uv.symm⟩
      · rw [a, b]; exact ⟨by simp [hu], by simp, uv⟩
  · intro s hs
    rw [nextTo_append]
    have one : (nextTo [e0] s).length ≤ 1 := by
      unfold nextTo
      rw [List.length_map]
      exact List.length_filter_le _ _
    have ndo : (nextTo [e0] s).Nodup := by
      match h : nextTo [e0] s, one with
      | [], _ => exact List.nodup_nil
      | [a], _ => simp
    rcases memS hs with hs1 | rfl
    · rw [List.nodup_append]
      refine ⟨T.snd s hs1, ndo, fun a ha b hb e => ?_⟩
      subst e
      have h2 : a ∈ nextTo (L ++ [e0]) s := by rw [nextTo_append]; exact List.mem_append_right _ hb
      have h3 : a = v := by
        have : (s, a) ∈ [e0] ∨ (a, s) ∈ [e0] := mem_nextTo.mp hb
        simp only [List.mem_singleton] at this
        rcases this with q | q
        · rcases e0i with ⟨z1, z2⟩ | ⟨z1, z2⟩
          · rw [← q] at z1; exact absurd z1 (old hs1)
          · rw [← q] at z2; exact z2
        · rcases e0i with ⟨z1, z2⟩ | ⟨z1, z2⟩
          · rw [← q] at z1; exact z1
          · rw [← q] at z2; exact absurd z2 (old hs1)
      rw [h3] at ha
      exact novt ha
    · rw [nov, List.nil_append]
      exact ndo
  · rw [List.nodup_append]
    exact ⟨T.lnd, by simp, fun a ha b hb => by simp at hb; subst hb; exact fun e => n0L (e ▸ ha)⟩
  · intro x hx y hy
    rcases memS hx with hx1 | rfl
    · rcases memS hy with hy1 | rfl
      · rw [leafD_old (old hx1) (old hy1)]; exact T.dz x hx1 y hy1
      · rw [leafD_right (old hx1)]
        exact ⟨fun h => by omega, fun h => absurd h (old hx1)⟩
    · rcases memS hy with hy1 | rfl
      · rw [leafD_left (old hy1)]
        exact ⟨fun h => by omega, fun h => absurd h.symm (old hy1)⟩
      · rw [leafD_self]; exact ⟨fun _ => rfl, fun _ => rfl⟩
  · intro x hx e he
    rcases memL he with he | rfl
    · obtain ⟨n1, n2⟩ := oe e he
      rcases memS hx with hx1 | rfl
      · rw [leafD_old (old hx1) n1, leafD_old (old hx1) n2]; exact T.step x hx1 e he
      · rw [leafD_left n1, leafD_left n2]
        rcases T.step u hu e he with h | h
        · exact .inl (by omega)
        · exact .inr (by omega)
    · have key : leafD D v u x v = leafD D v u x u + 1 ∨ leafD D v u x u = leafD D v u x v + 1 := by
        rcases memS hx with hx1 | rfl
        · rw [leafD_old (old hx1) uv, leafD_right (old hx1)]; exact .inl rfl
        · rw [leafD_left uv, leafD_self, (T.dz u hu u hu).mpr rfl]; exact .inr rfl
      rcases e0i with ⟨a, b⟩ | ⟨a, b⟩
      · rw [a, b]; exact key
      · rw [a, b]; exact key.symm
  · intro x hx a ha hne
    rcases memS ha with ha1 | rfl
    · rcases memS hx with hx1 | rfl
      · obtain ⟨t, h1, h2⟩ := T.ex x hx1 a ha1 hne
        refine ⟨t, nx.mpr (.inl h1), ?_⟩
        rw [leafD_old (old hx1) (old (T.next_in h1).2.1), leafD_old (old hx1) (old ha1)]
        exact h2
      · by_cases e : a = u
        · refine ⟨x, nx.mpr (.inr (.inl ⟨e, rfl⟩)), ?_⟩
          rw [leafD_self, leafD_left (old ha1)]
          omega
        · obtain ⟨t, h1, h2⟩ := T.ex u hu a ha1 (fun q => e q.symm)
          refine ⟨t, nx.mpr (.inl h1), ?_⟩
          rw [leafD_left (old (T.next_in h1).2.1), leafD_left (old ha1)]
          omega
    · rcases memS hx with hx1 | rfl
      · refine ⟨u, nx.mpr (.inr (.inr ⟨rfl, rfl⟩)), ?_⟩
        rw [leafD_old (old hx1) uv, leafD_right (old hx1)]
        omega
      · exact absurd rfl hne
  · intro x hx a ha t ht t' ht' h1 h2
    rcases memS ha with ha1 | rfl
    · have cases_ : ∀ {t}, t ∈ nextTo (L ++ [e0]) a → t ∈ nextTo L a ∨ (a = u ∧ t = v) := fun {t} h => by
        rcases nx.mp h with q | q | ⟨q, _⟩
        · exact .inl q
        · exact .inr q
        · exact absurd q (old ha1)
      rcases memS hx with hx1 | rfl
      · have far : ∀ {t}, t ∈ nextTo (L ++ [e0]) a → leafD D v u x t < leafD D v u x a → t ∈ nextTo L a ∧ D x t < D x a := fun {t} h q => by
          rw [leafD_old (old hx1) (old ha1)] at q
          rcases cases_ h with z | ⟨z1, z2⟩
          · rw [leafD_old (old hx1) (old (T.next_in z).2.1)] at q
            exact ⟨z, q⟩
          · rw [z2, leafD_right (old hx1), z1] at q
            omega
        obtain ⟨q1, q2⟩ := far ht h1
        obtain ⟨q3, q4⟩ := far ht' h2
        exact T.uq x hx1 a ha1 t q1 t' q3 q2 q4
      · by_cases e : a = u
        · have only : ∀ {t}, t ∈ nextTo (L ++ [e0]) a → leafD D x u x t < leafD D x u x a → t = x := fun {t} h q => by
            rcases cases_ h with z | ⟨z1, z2⟩
            · rw [leafD_left (old (T.next_in z).2.1), leafD_left (old ha1), e, (T.dz u hu u hu).mpr rfl] at q
              omega
            · exact z2
          rw [only ht h1, only ht' h2]
        · have far : ∀ {t}, t ∈ nextTo (L ++ [e0]) a → leafD D x u x t < leafD D x u x a → t ∈ nextTo L a ∧ D u t < D u a := fun {t} h q => by
            rcases cases_ h with z | ⟨z1, z2⟩
            · rw [leafD_left (old (T.next_in z).2.1), leafD_left (old ha1)] at q
              exact ⟨z, by omega⟩
            · exact absurd z1 e
          obtain ⟨q1, q2⟩ := far ht h1
          obtain ⟨q3, q4⟩ := far ht' h2
          exact T.uq u hu a ha1 t q1 t' q3 q2 q4
    · have only : ∀ {t}, t ∈ nextTo (L ++ [e0]) a → t = u := fun {t} h => by
        rcases nx.mp h with q | ⟨q, _⟩ | ⟨_, q⟩
        · rw [nov] at q; cases q
        · exact absurd q.symm uv
        · exact q
      rw [only ht, only ht']
  · intro e he f hf hne
    rcases memL he with he | rfl
    · obtain ⟨n1, n2⟩ := oe e he
      rcases memL hf with hf | rfl
      · obtain ⟨m1, m2⟩ := oe f hf
        rw [reg_old m1 m2 n1, reg_old m1 m2 n2]
        exact T.sep e he f hf hne
      · rcases e0i with ⟨a, b⟩ | ⟨a, b⟩
        · rw [a, b, reg_new_u' uv n1, reg_new_u' uv n2]
        · rw [a, b, reg_new_u uv n1, reg_new_u uv n2]
    · rcases memL hf with hf | rfl
      · obtain ⟨m1, m2⟩ := oe f hf
        rcases e0i with ⟨a, b⟩ | ⟨a, b⟩
        · rw [a, b, reg_leaf m1 m2, reg_old m1 m2 uv]
        · rw [a, b, reg_leaf m1 m2, reg_old m1 m2 uv]
      · exact absurd rfl hne
  · -- no two cross
    have lift : ∀ {a b c d : Int}, a ≠ v → b ≠ v → c ≠ v → d ≠ v → (∀ x ∈ S, ¬ (reg D a b x = true ∧ reg D c d x = true)) → ∀ x ∈ S ++ [v], ¬ (reg (leafD D v u) a b x = true ∧ reg (leafD D v u) c d x = true) := by
      intro a b c d na nb nc nd h x hx
      rcases memS hx with hx1 | rfl
      · rw [reg_old na nb (old hx1), reg_old nc nd (old hx1)]; exact h x hx1
      · rw [reg_leaf na nb, reg_leaf nc nd]; exact h u hu
    -- an old link (a, b) and the new one
    have mix : ∀ {a b : Int}, a ≠ v → b ≠ v → (∀ x ∈ S ++ [v], ¬ (reg (leafD D v u) a b x = true ∧ reg (leafD D v u) v u x = true)) ∨ (∀ x ∈ S ++ [v], ¬ (reg (leafD D v u) b a x = true ∧ reg (leafD D v u) v u x = true)) := by
      intro a b na nb
      by_cases h : reg D a b u = true
      · refine .inr fun x hx ⟨q1, q2⟩ => ?_
        rcases memS hx with hx1 | rfl
        · rw [reg_new_u' uv (old hx1)] at q2; cases q2
        · rw [reg_leaf nb na] at q1
          unfold reg at h q1
          have h := of_decide_eq_true h
          have q1 := of_decide_eq_true q1
          omega
      · refine .inl fun x hx ⟨q1, q2⟩ => ?_
        rcases memS hx with hx1 | rfl
        · rw [reg_new_u' uv (old hx1)] at q2; cases q2
        · rw [reg_leaf na nb] at q1
          exact h q1
    have swap : ∀ {a b c d : Int}, (∀ x ∈ S ++ [v], ¬ (reg (leafD D v u) a b x = true ∧ reg (leafD D v u) c d x = true)) → ∀ x ∈ S ++ [v], ¬ (reg (leafD D v u) c d x = true ∧ reg (leafD D v u) a b x = true) :=
      fun h x hx ⟨q1, q2⟩ => h x hx ⟨q2, q1⟩
    intro e he f hf
    rcases memL he with he | rfl
    · obtain ⟨n1, n2⟩ := oe e he
      rcases memL hf with hf | rfl
      · obtain ⟨m1, m2⟩ := oe f hf
        rcases T.nc e he f hf with h | h | h | h
        · exact .inl (lift n1 n2 m1 m2 h)
        · exact .inr (.inl (lift n1 n2 m2 m1 h))
        · exact .inr (.inr (.inl (lift n2 n1 m1 m2 h)))
        · exact .inr (.inr (.inr (lift n2 n1 m2 m1 h)))
      · rcases e0i with ⟨a, b⟩ | ⟨a, b⟩
        · rw [a, b]
          rcases mix n1 n2 with h | h
          · exact .inl h
          · exact .inr (.inr (.inl h))
        · rw [a, b]
          rcases mix n1 n2 with h | h
          · exact .inr (.inl h)
          · exact .inr (.inr (.inr h))
    · rcases memL hf with hf | rfl
      · obtain ⟨m1, m2⟩ := oe f hf
        rcases e0i with ⟨a, b⟩ | ⟨a, b⟩
        · rw [a, b]
          rcases mix m1 m2 with h | h
          · exact .inl (swap h)
          · exact .inr (.inl (swap h))
        · rw [a, b]
          rcases mix m1 m2 with h | h
          · exact .inr (.inr (.inl (swap h)))
          · exact .inr (.inr (.inr (swap h)))
      · refine .inr (.inl fun x hx ⟨q1, q2⟩ => ?_)
        unfold reg at q1 q2
        have q1 := of_decide_eq_true q1
        have q2 := of_decide_eq_true q2
        omega
end
end SfM
/-! Walks over a tree: what lies beyond a link is met once; a frame's way ends. -/
namespace SfM
section
variable {S : List Int} {L : List (Int × Int)} {D : Int → Int → Nat}
def regO (D : Int → Int → Nat) (i : Int × Option Int) (v : Int) : Bool := match i.2 with
  | none => true
  | some p => reg D i.1 p v
def nextI (L : List (Int × Int)) (i : Int × Option Int) : List (Int × Option Int) := ((nextTo L i.1).filter (fun t => decide (some t ≠ i.2))).map (fun t => (t, some i.1))
def cnt (D : Int → Int → Nat) (st : List (Int × Option Int)) (v : Int) : Nat := st.countP (fun i => regO D i v)
def mu (S : List Int) (D : Int → Int → Nat) (st : List (Int × Option Int)) : Nat := (S.map (fun v => cnt D st v)).sum
structure ItemOk (S : List Int) (L : List (Int × Int)) (i : Int × Option Int) : Prop where
  at_ : i.1 ∈ S
  from_ : ∀ p, i.2 = some p → p ∈ nextTo L i.1
theorem cnt_append (D : Int → Int → Nat) (a b : List (Int × Option Int)) (v : Int) : cnt D (a ++ b) v = cnt D a v + cnt D b v := by
  unfold cnt; rw [List.countP_append]
theorem countP_one {α : Type} {P : α → Bool} : ∀ {l : List α}, l.Nodup → (∀ t ∈ l, ∀ t' ∈ l, P t = true → P t' = true → t = t') → ∀ {x : α}, x ∈ l → P x = true → l.countP P = 1
  | [], _, _, _, h, _ => by cases h
  | a :: l, nd, u, x, hx, px => by
    obtain ⟨n1, n2⟩ := List.nodup_cons.mp nd
    rw [List.countP_cons]
    by_cases e : x = a
    · subst e
      have z : l.countP P = 0 := by
        rw [List.countP_eq_zero]
        intro y hy py
        exact n1 (u x (List.mem_cons_self ..) y (List.mem_cons_of_mem _ hy) px py ▸ hy)
      rw [z, if_pos px]
    · have hx' : x ∈ l := (List.mem_cons.mp hx).resolve_left e
      have ih := countP_one n2 (fun t ht t' ht' => u t (List.mem_cons_of_mem _ ht) t' (List.mem_cons_of_mem _ ht')) hx' px
      rw [ih, if_neg]
      intro pa
      exact e (u x hx a (List.mem_cons_self ..) px pa)
theorem countP_none {α : Type} {P : α → Bool} {l : List α} (h : ∀ x ∈ l, P x = false) : l.countP P = 0 := by
  rw [List.countP_eq_zero]
  intro x hx px
  rw [h x hx] at px
  cases px
theorem cnt_nextI (D : Int → Int → Nat) (i : Int × Option Int) (v : Int) : cnt D (nextI L i) v = ((nextTo L i.1).filter (fun t => decide (some t ≠ i.2))).countP (fun t => reg D t i.1 v) := by
  unfold cnt nextI
  rw [List.countP_map]
  rfl
/-- what lies beyond: the switch itself, and what lies beyond its other links -/
theorem cnt_item (T : TreeL S L D) {i : Int × Option Int} (ok : ItemOk S L i) {v : Int} (hv : v ∈ S) :
    (if regO D i v = true then 1 else 0) = (if v = i.1 then 1 else 0) + cnt D (nextI L i) v := by
  rw [cnt_nextI]
  have nd : ((nextTo L i.1).filter (fun t => decide (some t ≠ i.2))).Nodup := (T.snd _ ok.at_).sublist List.filter_sublist
  have sub : ∀ {t}, t ∈ (nextTo L i.1).filter (fun t => decide (some t ≠ i.2)) → t ∈ nextTo L i.1 := fun h => (List.mem_filter.mp h).1
  have clo : ∀ {t}, reg D t i.1 v = true → D v t < D v i.1 := fun h => of_decide_eq_true h
  by_cases e : v = i.1
  · have z : D v i.1 = 0 := (T.dz v hv _ ok.at_).mpr e
    have zc : ∀ t ∈ (nextTo L i.1).filter (fun t => decide (some t ≠ i.2)), reg D t i.1 v = false := fun t ht => decide_eq_false (by omega)
    rw [if_pos e, countP_none zc, if_pos]
    unfold regO
    cases h : i.2 with
    | none => rfl
    | some p =>
      refine decide_eq_true ?_
      rcases T.step' hv (ok.from_ p h) with q | q <;> omega
  · rw [if_neg e]
    obtain ⟨t0, h0, c0⟩ := T.ex v hv _ ok.at_ e
    have u : ∀ t ∈ (nextTo L i.1).filter (fun t => decide (some t ≠ i.2)), ∀ t' ∈ (nextTo L i.1).filter (fun t => decide (some t ≠ i.2)), reg D t i.1 v = true → reg D t' i.1 v = true → t = t' :=
      fun t ht t' ht' p p' => T.uq v hv _ ok.at_ t (sub ht) t' (sub ht') (clo p) (clo p')
    by_cases q : some t0 = i.2
    · have hr : regO D i v = false := by
        unfold regO
        rw [← q]
        exact decide_eq_false (by omega)
      have zc : ∀ t ∈ (nextTo L i.1).filter (fun t => decide (some t ≠ i.2)), reg D t i.1 v = false := fun t ht => decide_eq_false fun c => by
        have et := T.uq v hv _ ok.at_ t (sub ht) t0 h0 c c0
        have hn : some t ≠ i.2 := of_decide_eq_true (List.mem_filter.mp ht).2
        exact hn (et ▸ q)
      rw [hr, if_neg Bool.false_ne_true, countP_none zc]
    · have hr : regO D i v = true := by
        unfold regO
        cases h : i.2 with
        | none => rfl
        | some p =>
          have hp := ok.from_ p h
          refine decide_eq_true ?_
          rcases T.step' hv hp with z | z
          · have et := T.uq v hv _ ok.at_ p hp t0 h0 (by omega) c0
            rw [h, et] at q
            exact absurd rfl q
          · show D v i.1 < D v p
            omega
      rw [hr, if_pos rfl, countP_one nd u (x := t0) (List.mem_filter.mpr ⟨h0, decide_eq_true q⟩) (decide_eq_true c0)]
theorem cnt_pop (T : TreeL S L D) {i : Int × Option Int} (ok : ItemOk S L i) (w : List (Int × Option Int)) {v : Int} (hv : v ∈ S) :
    cnt D (w ++ [i]) v = (if v = i.1 then 1 else 0) + cnt D (w ++ nextI L i) v := by
  have h := cnt_item T ok hv
  rw [cnt_append, cnt_append]
  have e : cnt D [i] v = if regO D i v = true then 1 else 0 := by
    unfold cnt
    simp only [List.countP_cons, List.countP_nil, Nat.zero_add]
  rw [e, h]
  omega
theorem nextI_ok (T : TreeL S L D) {i : Int × Option Int} (ok : ItemOk S L i) : ∀ j ∈ nextI L i, ItemOk S L j := by
  intro j hj
  unfold nextI at hj
  obtain ⟨t, ht, rfl⟩ := List.mem_map.mp hj
  have h := (List.mem_filter.mp ht).1
  exact ⟨(T.next_in h).2.1, fun p e => by cases e; exact nextTo_symm h⟩
theorem sum_le {α : Type} {f g : α → Nat} : ∀ {l : List α}, (∀ x ∈ l, f x ≤ g x) → (l.map f).sum ≤ (l.map g).sum
  | [], _ => Nat.le_refl _
  | a :: l, h => by
    rw [List.map_cons, List.map_cons, List.sum_cons, List.sum_cons]
    have := h a (List.mem_cons_self ..)
    have := sum_le (l := l) fun x hx => h x (List.mem_cons_of_mem _ hx)
    omega
theorem sum_lt {α : Type} {f g : α → Nat} {x : α} : ∀ {l : List α}, (∀ x ∈ l, f x ≤ g x) → x ∈ l → f x < g x → (l.map f).sum < (l.map g).sum
  | a :: l, h, hx, hlt => by
    rw [List.map_cons, List.map_cons, List.sum_cons, List.sum_cons]
    have h1 := h a (List.mem_cons_self ..)
    have h2 := sum_le (l := l) fun x hx => h x (List.mem_cons_of_mem _ hx)
    rcases List.mem_cons.mp hx with e | hx
    · subst e; omega
    · have := sum_lt (fun x hx => h x (List.mem_cons_of_mem _ hx)) hx hlt
      omega
/-- each turn lowers the measure: the pushed items are among the next ones -/
theorem mu_pop (T : TreeL S L D) {i : Int × Option Int} (ok : ItemOk S L i) (w ps : List (Int × Option Int)) (h : ∀ v ∈ S, cnt D ps v ≤ cnt D (nextI L i) v) : mu S D (w ++ ps) < mu S D (w ++ [i]) := by
  unfold mu
  refine sum_lt (x := i.1) (fun v hv => ?_) ok.at_ ?_
  · rw [cnt_pop T ok w hv, cnt_append, cnt_append]
    have := h v hv
    omega
  · rw [cnt_pop T ok w ok.at_, cnt_append, cnt_append, if_pos rfl]
    have := h _ ok.at_
    omega
theorem cnt_single_le {ps : List (Int × Option Int)} {i : Int × Option Int} (h : i ∈ ps) (v : Int) : cnt D [i] v ≤ cnt D ps v := by
  have e : cnt D [i] v = if regO D i v = true then 1 else 0 := by
    unfold cnt
    simp only [List.countP_cons, List.countP_nil, Nat.zero_add]
  rw [e]
  split
  · rename_i q
    exact List.countP_pos_iff.mpr ⟨i, h, q⟩
  · exact Nat.zero_le _

/-! ### what lies beyond a link -/
structure Beyond (S : List Int) (L : List (Int × Int)) (D : Int → Int → Nat) (one other : Int) (st : List (Int × Option Int)) (vis : List Int) : Prop where
  ok : ∀ i ∈ st, ItemOk S L i ∧ i.2.isSome = true
  sub : ∀ x ∈ vis, x ∈ S
  num : ∀ v ∈ S, vis.count v + cnt D st v = if reg D one other v = true then 1 else 0
theorem Beyond.start (T : TreeL S L D) {one other : Int} (h : other ∈ nextTo L one) : Beyond S L D one other [(one, some other)] [] := by
  refine ⟨fun i hi => ?_, by simp, fun v hv => ?_⟩
  · simp only [List.mem_singleton] at hi
    subst hi
    exact ⟨⟨(T.next_in h).1, fun p e => by cases e; exact h⟩, rfl⟩
  · unfold cnt
    simp only [List.count_nil, List.countP_cons, List.countP_nil, Nat.zero_add]
    rfl
theorem Beyond.pop (T : TreeL S L D) {one other : Int} {w : List (Int × Option Int)} {i : Int × Option Int} {vis : List Int} (b : Beyond S L D one other (w ++ [i]) vis) :
    Beyond S L D one other (w ++ nextI L i) (vis ++ [i.1]) ∧ mu S D (w ++ nextI L i) < mu S D (w ++ [i]) := by
  have ok := (b.ok i (by simp)).1
  refine ⟨⟨fun j hj => ?_, fun x hx => ?_, fun v hv => ?_⟩, mu_pop T ok w _ fun v _ => Nat.le_refl _⟩
  · rcases List.mem_append.mp hj with hj | hj
    · exact b.ok j (List.mem_append_left _ hj)
    · refine ⟨nextI_ok T ok j hj, ?_⟩
      unfold nextI at hj
      obtain ⟨t, _, rfl⟩ := List.mem_map.mp hj
      rfl
  · rcases List.mem_append.mp hx with hx | hx
    · exact b.sub x hx
    · simp only [List.mem_singleton] at hx
      subst hx
      exact ok.at_
  · have h := b.num v hv
    rw [cnt_pop T ok w hv] at h
    rw [List.count_append, ← h, List.count_singleton]
    by_cases e : v = i.1
    · rw [if_pos e, if_pos (by simp [e])]; omega
    · rw [if_neg e, if_neg (by simpa using fun z : i.1 = v => e z.symm)]; omega
theorem Beyond.done {one other : Int} {vis : List Int} (b : Beyond S L D one other [] vis) : vis.Nodup ∧ ∀ v ∈ S, (v ∈ vis ↔ reg D one other v = true) := by
  have num : ∀ v ∈ S, vis.count v = if reg D one other v = true then 1 else 0 := fun v hv => by
    have h := b.num v hv
    unfold cnt at h
    rw [List.countP_nil] at h
    omega
  refine ⟨?_, fun v hv => ?_⟩
  · rw [List.nodup_iff_count]
    intro v
    by_cases hv : v ∈ vis
    · rw [num v (b.sub v hv)]; split <;> omega
    · rw [List.count_eq_zero.mpr hv]; omega
  · rw [← List.count_pos_iff, num v hv]
    split
    · rename_i q; exact ⟨fun _ => q, fun _ => by omega⟩
    · rename_i q; exact ⟨fun z => by omega, fun z => absurd z q⟩
end
/-! ### the hosts that hang there -/
section
variable {α : Type} [DecidableEq α] {S : List Int} {L : List (Int × Int)} {D : Int → Int → Nat} {hs : List α} {home : α → Int}
def guestsAt (hs : List α) (home : α → Int) (s : Int) : List α := hs.filter (fun h => decide (home h = s))
theorem mem_beyond {vis : List Int} {h : α} : h ∈ vis.flatMap (guestsAt hs home) ↔ h ∈ hs ∧ home h ∈ vis := by
  unfold guestsAt
  simp only [List.mem_flatMap, List.mem_filter, decide_eq_true_eq]
  constructor
  · rintro ⟨s, h1, h2, h3⟩
    exact ⟨h2, h3 ▸ h1⟩
  · rintro ⟨h1, h2⟩
    exact ⟨_, h2, h1, rfl⟩
theorem nodup_beyond (hn : hs.Nodup) : ∀ {vis : List Int}, vis.Nodup → (vis.flatMap (guestsAt hs home)).Nodup
  | [], _ => by simp
  | s :: vis, h => by
    obtain ⟨h1, h2⟩ := List.nodup_cons.mp h
    rw [List.flatMap_cons, List.nodup_append]
    refine ⟨hn.sublist List.filter_sublist, nodup_beyond hn h2, fun a ha b hb e => ?_⟩
    subst e
    obtain ⟨_, q⟩ := mem_beyond.mp hb
    unfold guestsAt at ha
    have := of_decide_eq_true (List.mem_filter.mp ha).2
    rw [this] at q
    exact h1 q
end
end SfM
/-! A frame's way through the switches, and the states behind rows of frames. -/
namespace SfM
section
variable {α : Type} [DecidableEq α]
abbrev Port (α : Type) := Int ⊕ α
def outs (L : List (Int × Int)) (G : Int → List α) (known : Option (Port α)) (s : Int) (port : Port α) : List (Port α) :=
  match known with
  | some p => [p]
  | none => ((nextTo L s).map Sum.inl ++ (G s).map Sum.inr).filter (fun o => decide (o ≠ port))
def pushes (s : Int) (os : List (Port α)) : List (Int × Port α) := os.filterMap (fun o => match o with
  | .inl t => some (t, .inl s)
  | .inr _ => none)
def sees (os : List (Port α)) : List α := os.filterMap (fun o => match o with
  | .inl _ => none
  | .inr h => some h)
def put {κ β : Type} [DecidableEq κ] : List (κ × β) → κ → β → List (κ × β)
  | [], k, v => [(k, v)]
  | (a, b) :: r, k, v => if a = k then (a, v) :: r else (a, b) :: put r k v
def merge {κ β : Type} [DecidableEq κ] (k came : List (κ × β)) : List (κ × β) := came.foldl (fun acc e => put acc e.1 e.2) k
theorem lookup_cons {κ β : Type} [DecidableEq κ] (a : κ) (b : β) (r : List (κ × β)) (x : κ) : ((a, b) :: r).lookup x = if x = a then some b else r.lookup x := by
  by_cases e : x = a
  · rw [if_pos e]; simp [List.lookup, e]
  · rw [if_neg e]
    have h : (x == a) = false := by simpa using e
    simp only [List.lookup, h]
theorem lookup_put {κ β : Type} [DecidableEq κ] (k : κ) (v : β) (x : κ) : ∀ l : List (κ × β), (put l k v).lookup x = if x = k then some v else l.lookup x
  | [] => by rw [show put ([] : List (κ × β)) k v = [(k, v)] from rfl, lookup_cons]
  | (a, b) :: r => by
    rw [show put ((a, b) :: r) k v = (if a = k then (a, v) :: r else (a, b) :: put r k v) from rfl]
    by_cases e : a = k
    · subst e
      rw [if_pos rfl, lookup_cons, lookup_cons]
      split <;> rfl
    · rw [if_neg e, lookup_cons, lookup_cons, lookup_put k v x r]
      by_cases h : x = a
      · rw [if_pos h, if_pos h, if_neg (fun z => e (h.symm.trans z))]
      · rw [if_neg h, if_neg h]
theorem lookup_merge_some {κ β : Type} [DecidableEq κ] : ∀ {came k : List (κ × β)} {x : κ} {v : β}, (merge k came).lookup x = some v → k.lookup x = some v ∨ (x, v) ∈ came
  | [], _, _, _, h => .inl h
  | (a, b) :: r, k, x, v, h => by
    have h' : (merge (put k a b) r).lookup x = some v := h
    rcases lookup_merge_some h' with q | q
    · rw [lookup_put] at q
      by_cases e : x = a
      · rw [if_pos e] at q
        cases q
        subst e
        exact .inr (List.mem_cons_self ..)
      · rw [if_neg e] at q
        exact .inl q
    · exact .inr (List.mem_cons_of_mem _ q)
theorem lookup_put_isSome {κ β : Type} [DecidableEq κ] {l : List (κ × β)} {k x : κ} {v : β} (h : (l.lookup x).isSome = true) : ((put l k v).lookup x).isSome = true := by
  rw [lookup_put]
  split
  · rfl
  · exact h
theorem lookup_merge_isSome {κ β : Type} [DecidableEq κ] : ∀ {came k : List (κ × β)} {x : κ}, ((k.lookup x).isSome = true ∨ x ∈ came.map (·.1)) → ((merge k came).lookup x).isSome = true
  | [], _, _, h => h.resolve_right (by simp)
  | (a, b) :: r, k, x, h => by
    show ((merge (put k a b) r).lookup x).isSome = true
    refine lookup_merge_isSome ?_
    rcases h with h | h
    · exact .inl (lookup_put_isSome h)
    · rw [List.map_cons, List.mem_cons] at h
      rcases h with h | h
      · refine .inl ?_
        rw [lookup_put, if_pos h]
        rfl
      · exact .inr h
theorem mem_put {κ β : Type} [DecidableEq κ] {l : List (κ × β)} {k : κ} {v : β} {e : κ × β} (h : e ∈ put l k v) : e ∈ l ∨ e = (k, v) := by
  induction l with
  | nil => exact .inr (by simpa [put] using h)
  | cons p r ih =>
    obtain ⟨a, b⟩ := p
    rw [show put ((a, b) :: r) k v = (if a = k then (a, v) :: r else (a, b) :: put r k v) from rfl] at h
    by_cases q : a = k
    · rw [if_pos q] at h
      rcases List.mem_cons.mp h with h | h
      · subst q; exact .inr h
      · exact .inl (List.mem_cons_of_mem _ h)
    · rw [if_neg q] at h
      rcases List.mem_cons.mp h with h | h
      · exact .inl (h ▸ List.mem_cons_self ..)
      · rcases ih h with h | h
        · exact .inl (List.mem_cons_of_mem _ h)
        · exact .inr h
theorem keys_put {κ β : Type} [DecidableEq κ] {l : List (κ × β)} {k x : κ} {v : β} : x ∈ (put l k v).map (·.1) ↔ x ∈ l.map (·.1) ∨ x = k := by
  induction l with
  | nil => simp [put]
  | cons p r ih =>
    obtain ⟨a, b⟩ := p
    rw [show put ((a, b) :: r) k v = (if a = k then (a, v) :: r else (a, b) :: put r k v) from rfl]
    by_cases q : a = k
    · rw [if_pos q]
      simp only [List.map_cons, List.mem_cons]
      constructor
      · rintro (h | h)
        · exact .inl (.inl h)
        · exact .inl (.inr h)
      · rintro ((h | h) | h)
        · exact .inl h
        · exact .inr h
        · exact .inl (h.trans q.symm)
    · rw [if_neg q]
      simp only [List.map_cons, List.mem_cons]
      rw [ih]
      constructor
      · rintro (h | h | h)
        · exact .inl (.inl h)
        · exact .inl (.inr h)
        · exact .inr h
      · rintro ((h | h) | h)
        · exact .inl h
        · exact .inr (.inl h)
        · exact .inr (.inr h)
theorem length_put {κ β : Type} [DecidableEq κ] (k : κ) (v : β) : ∀ l : List (κ × β), (put l k v).length ≤ l.length + 1
  | [] => Nat.le_refl _
  | (a, b) :: r => by
    rw [show put ((a, b) :: r) k v = (if a = k then (a, v) :: r else (a, b) :: put r k v) from rfl]
    have := length_put k v r
    split
    · simp
    · simp only [List.length_cons]; omega

def runP (L : List (Int × Int)) (G : Int → List α) (m : List (Int × Port α)) : Nat → List (Int × Port α) → List α → List (Int × Port α) → Option (List α × List (Int × Port α))
  | n, w, seen, came => match w.getLast? with
    | none => some (seen, came)
    | some (s, port) => match n with
      | 0 => none
      | n + 1 => runP L G m n (w.dropLast ++ pushes s (outs L G (m.lookup s) s port)) (seen ++ sees (outs L G (m.lookup s) s port)) (put came s port)
theorem runP_nil (L : List (Int × Int)) (G : Int → List α) (m : List (Int × Port α)) (n : Nat) (seen : List α) (came : List (Int × Port α)) : runP L G m n [] seen came = some (seen, came) := by
  cases n <;> rfl
theorem runP_snoc (L : List (Int × Int)) (G : Int → List α) (m : List (Int × Port α)) (n : Nat) (w : List (Int × Port α)) (s : Int) (port : Port α) (seen : List α) (came : List (Int × Port α)) :
    runP L G m (n + 1) (w ++ [(s, port)]) seen came = runP L G m n (w ++ pushes s (outs L G (m.lookup s) s port)) (seen ++ sees (outs L G (m.lookup s) s port)) (put came s port) := by
  rw [runP]
  rw [List.getLast?_concat, List.dropLast_concat]
theorem runP_zero (L : List (Int × Int)) (G : Int → List α) (m : List (Int × Port α)) (w : List (Int × Port α)) (s : Int) (port : Port α) (seen : List α) (came : List (Int × Port α)) :
    runP L G m 0 (w ++ [(s, port)]) seen came = none := by
  rw [runP]
  rw [List.getLast?_concat]

def io (i : Int × Port α) : Int × Option Int := (i.1, match i.2 with
  | .inl p => some p
  | .inr _ => none)
/-- what a host's switches know: the ports lead to it, and on the way all know it -/
def Knows (S : List Int) (L : List (Int × Int)) (D : Int → Int → Nat) (h : Int) (m : List (Int × Port α)) : Prop :=
  ∀ s p, m.lookup s = some p → s ∈ S ∧ ∀ t, p = .inl t → t ∈ nextTo L s ∧ D h t < D h s ∧ (m.lookup t).isSome = true
theorem Knows.nil {S : List Int} {L : List (Int × Int)} {D : Int → Int → Nat} {h : Int} : Knows (α := α) S L D h [] := fun s p e => by cases e
/-- an item that waits, or has come -/
structure Came (S : List Int) (L : List (Int × Int)) (D : Int → Int → Nat) (a : Int) (keys : List Int) (i : Int × Port α) : Prop where
  at_ : i.1 ∈ S
  home : ∀ h, i.2 = .inr h → i.1 = a
  from_ : ∀ p, i.2 = .inl p → p ∈ nextTo L i.1 ∧ D a p < D a i.1 ∧ p ∈ keys
section
variable {S : List Int} {L : List (Int × Int)} {D : Int → Int → Nat} {G : Int → List α} {m : List (Int × Port α)} {a c : Int}
theorem Came.more {keys keys' : List Int} {i : Int × Port α} (h : Came S L D a keys i) (k : ∀ x ∈ keys, x ∈ keys') : Came S L D a keys' i :=
  ⟨h.at_, h.home, fun p e => ⟨(h.from_ p e).1, (h.from_ p e).2.1, k _ (h.from_ p e).2.2⟩⟩
theorem mem_pushes {s : Int} {os : List (Port α)} {j : Int × Port α} (h : j ∈ pushes s os) : ∃ t, .inl t ∈ os ∧ j = (t, .inl s) := by
  unfold pushes at h
  obtain ⟨o, h1, h2⟩ := List.mem_filterMap.mp h
  cases o with
  | inl t => exact ⟨t, h1, (Option.some.inj h2).symm⟩
  | inr _ => cases h2
/-- a frame's way ends, and every switch that it comes to can tell the way back -/
theorem run_ends (T : TreeL S L D) (ha : a ∈ S) (hc : c ∈ S) (hm : Knows S L D c m) : ∀ (n : Nat) (w : List (Int × Port α)) (seen : List α) (came : List (Int × Port α)),
    mu S D (w.map io) ≤ n → (∀ i ∈ w, Came S L D a (came.map (·.1)) i ∧ ∀ p, i.2 = .inl p → m.lookup p = none ∨ m.lookup p = some (.inl i.1)) → (∀ i ∈ came, Came S L D a (came.map (·.1)) i) →
    ∃ R, runP L G m n w seen came = some R ∧ ∀ i ∈ R.2, Came S L D a (R.2.map (·.1)) i := by
  intro n
  induction n with
  | zero =>
    intro w seen came hn hw hcm
    rcases List.eq_nil_or_concat w with rfl | ⟨w', ⟨s, port⟩, rfl⟩
    · exact ⟨_, runP_nil .., hcm⟩
    · exfalso
      have ok : ItemOk S L (io (s, port)) := by
        obtain ⟨h1, h2⟩ := hw (s, port) (by simp)
        refine ⟨h1.at_, fun p e => ?_⟩
        unfold io at e
        cases port with
        | inl q => simp only [Option.some.injEq] at e; subst e; exact (h1.from_ q rfl).1
        | inr _ => cases e
      have := mu_pop T ok (w'.map io) [] fun v _ => by unfold cnt; exact Nat.zero_le _
      rw [List.concat_eq_append, List.map_append] at hn
      have e : List.map io [(s, port)] = [io (s, port)] := rfl
      rw [e] at hn
      omega
  | succ n ih =>
    intro w seen came hn hw hcm
    rcases List.eq_nil_or_concat w with rfl | ⟨w', ⟨s, port⟩, rfl⟩
    · exact ⟨_, runP_nil .., hcm⟩
    · rw [List.concat_eq_append] at hn hw ⊢
      rw [runP_snoc]
      obtain ⟨ci, ki⟩ := hw (s, port) (by simp)
      have hs : s ∈ S := ci.at_
      have ok : ItemOk S L (io (s, port)) := by
        refine ⟨hs, fun p e => ?_⟩
        unfold io at e
        cases port with
        | inl q => simp only [Option.some.injEq] at e; subst e; exact (ci.from_ q rfl).1
        | inr _ => cases e
      -- an exit towards a switch: a neighbour, not the one it came from, farther from a
      have far : ∀ t, .inl t ∈ outs L G (m.lookup s) s port → t ∈ nextTo L s ∧ D a s < D a t ∧ (.inl t : Port α) ≠ port ∧ (m.lookup s = none ∨ m.lookup s = some (.inl t)) := by
        intro t ht
        have key : t ∈ nextTo L s → ((.inl t : Port α) ≠ port) → D a s < D a t := fun h1 h2 => by
          rcases T.step' ha h1 with q | q
          · exfalso
            cases port with
            | inr h =>
              have e : s = a := ci.home h rfl
              rw [e, (T.dz a ha a ha).mpr rfl] at q
              omega
            | inl p =>
              obtain ⟨p1, p2, _⟩ := ci.from_ p rfl
              have e := T.uq a ha s hs t h1 p p1 (by omega) p2
              exact h2 (by rw [e])
          · omega
        cases hk : m.lookup s with
        | none =>
          rw [hk] at ht
          obtain ⟨h1, h2⟩ := List.mem_filter.mp ht
          have h2 : (.inl t : Port α) ≠ port := of_decide_eq_true h2
          have h1 : t ∈ nextTo L s := by
            rcases List.mem_append.mp h1 with h1 | h1
            · obtain ⟨t', q, e⟩ := List.mem_map.mp h1
              cases e
              exact q
            · obtain ⟨_, _, e⟩ := List.mem_map.mp h1
              cases e
          exact ⟨h1, key h1 h2, h2, .inl rfl⟩
        | some q =>
          rw [hk] at ht
          have e : (.inl t : Port α) = q := by simpa [outs] using ht
          subst e
          obtain ⟨_, h3⟩ := hm s _ hk
          obtain ⟨h4, h5, h6⟩ := h3 t rfl
          have h2 : (.inl t : Port α) ≠ port := fun z => by
            rcases ki t z.symm with y | y
            · rw [y] at h6; cases h6
            · have := (hm t _ y).2 s rfl
              have := this.2.1
              omega
          exact ⟨h4, key h4 h2, h2, .inr rfl⟩
      have kx : ∀ x, x ∈ came.map (·.1) → x ∈ (put came s port).map (·.1) := fun x hx => keys_put.mpr (.inl hx)
      have ks : s ∈ (put came s port).map (·.1) := keys_put.mpr (.inr rfl)
      refine ih _ _ _ ?_ ?_ ?_
      · -- the measure
        have lt := mu_pop T ok (w'.map io) ((pushes s (outs L G (m.lookup s) s port)).map io) fun v hv => by
          cases hk : m.lookup s with
          | none =>
            have e : (pushes s (outs L G (none : Option (Port α)) s port)).map io = nextI L (io (s, port)) := by
              have e1 : (((G s).map (Sum.inr : α → Port α)).filter (fun o => decide (o ≠ port))).filterMap (fun o => match o with
                  | .inl t => some (t, (Sum.inl s : Port α))
                  | .inr _ => none) = [] := by
                rw [List.filterMap_eq_nil_iff]
                intro o ho
                obtain ⟨x, _, rfl⟩ := List.mem_map.mp (List.mem_filter.mp ho).1
                rfl
              have e2 : ∀ l : List Int, (((l.map (Sum.inl : Int → Port α)).filter (fun o => decide (o ≠ port))).filterMap (fun o => match o with
                  | .inl t => some (t, (Sum.inl s : Port α))
                  | .inr _ => none)).map io = (l.filter (fun t => decide (some t ≠ (io (s, port)).2))).map (fun t => (t, some s)) := by
                intro l
                induction l with
                | nil => rfl
                | cons t l ihl =>
                  have iff : ((Sum.inl t : Port α) ≠ port) ↔ (some t ≠ (io (s, port)).2) := by
                    unfold io
                    cases port with
                    | inl p => simp
                    | inr _ => simp
                  rw [List.map_cons, List.filter_cons, List.filter_cons]
                  by_cases z : (Sum.inl t : Port α) ≠ port
                  · rw [if_pos (decide_eq_true z), if_pos (decide_eq_true (iff.mp z)), List.filterMap_cons, List.map_cons, List.map_cons, ihl]
                    rfl
                  · rw [if_neg (by simpa using z), if_neg (by simpa using fun y => z (iff.mpr y)), ihl]
              unfold pushes outs
              simp only
              rw [List.filter_append, List.filterMap_append, e1, List.append_nil]
              exact e2 _
            rw [e]
            exact Nat.le_refl _
          | some q =>
            cases q with
            | inr h => exact Nat.zero_le _
            | inl t =>
              obtain ⟨f1, _, f3, _⟩ := far t (by rw [hk]; exact List.mem_singleton.mpr rfl)
              show cnt D [(t, some s)] v ≤ _
              have nz : some t ≠ (io (s, port)).2 := fun z => by
                unfold io at z
                cases port with
                | inl p => simp only [Option.some.injEq] at z; exact f3 (by rw [z])
                | inr _ => cases z
              have hin : (t, some s) ∈ nextI L (io (s, port)) := by
                unfold nextI
                exact List.mem_map.mpr ⟨t, List.mem_filter.mpr ⟨f1, decide_eq_true nz⟩, rfl⟩
              exact cnt_single_le hin v
        rw [List.map_append] at hn ⊢
        have e : List.map io [(s, port)] = [io (s, port)] := rfl
        rw [e] at hn
        omega
      · intro j hj
        rcases List.mem_append.mp hj with hj | hj
        · obtain ⟨q1, q2⟩ := hw j (List.mem_append_left _ hj)
          exact ⟨q1.more kx, q2⟩
        · obtain ⟨t, ht, rfl⟩ := mem_pushes hj
          obtain ⟨f1, f2, f3, f4⟩ := far t ht
          refine ⟨⟨(T.next_in f1).2.1, fun h e => (by cases e), fun p e => ?_⟩, fun p e => ?_⟩
          · cases e
            exact ⟨nextTo_symm f1, f2, ks⟩
          · cases e
            exact f4
      · intro j hj
        rcases mem_put hj with hj | rfl
        · exact (hcm j hj).more kx
        · exact ci.more kx
theorem mu_first (T : TreeL S L D) (ha : a ∈ S) (x : α) : mu S D ([(a, (Sum.inr x : Port α))].map io) = S.length := by
  unfold mu
  have e : ∀ v, cnt D ([(a, (Sum.inr x : Port α))].map io) v = 1 := fun v => rfl
  have e2 : S.map (fun v => cnt D ([(a, (Sum.inr x : Port α))].map io) v) = S.map (fun _ => 1) := List.map_congr_left fun v _ => e v
  rw [e2]
  clear e2 e ha T
  induction S with
  | nil => rfl
  | cons b r ih => rw [List.map_cons, List.sum_cons, ih, List.length_cons]; omega
/-- behind a frame the switches still know the ways -/
theorem knows_merge (T : TreeL S L D) {k R : List (Int × Port α)} (hk : Knows S L D a k) (hR : ∀ i ∈ R, Came S L D a (R.map (·.1)) i) : Knows S L D a (merge k R) := by
  intro s p h
  rcases lookup_merge_some h with q | q
  · obtain ⟨h1, h2⟩ := hk s p q
    refine ⟨h1, fun t e => ?_⟩
    obtain ⟨h3, h4, h5⟩ := h2 t e
    exact ⟨h3, h4, lookup_merge_isSome (.inl h5)⟩
  · have ci := hR _ q
    refine ⟨ci.at_, fun t e => ?_⟩
    obtain ⟨h3, h4, h5⟩ := ci.from_ t e
    exact ⟨h3, h4, lookup_merge_isSome (.inr h5)⟩
end
end
end SfM
namespace SfM
open PySem PySem.Spec PyProof.Rows
/-! texts in order -/
theorem rising_le : ∀ (l : List Str) (p : Str), risingS p l = true → ∀ x ∈ l, p.cps.toList ≤ x.cps.toList
  | [], _, _, x, hx => by cases hx
  | y :: r, p, h, x, hx => by
    unfold risingS at h
    rw [Bool.and_eq_true] at h
    have h1 : p.cps.toList ≤ y.cps.toList := by
      have q := h.1
      rw [ltCps_eq] at q
      simpa using q
    rcases List.mem_cons.mp hx with e | hx
    · rw [e]
      exact h1
    · exact List.le_trans h1 (rising_le r y h.2 x hx)
theorem rising_pw : ∀ (l : List Str) (p : Str), risingS p l = true → (p :: l).Pairwise (fun a b => a.cps.toList ≤ b.cps.toList)
  | [], p, _ => by simp
  | y :: r, p, h => by
    have h' := h
    unfold risingS at h
    rw [Bool.and_eq_true] at h
    exact List.pairwise_cons.mpr ⟨fun x hx => rising_le (y :: r) p h' x hx, rising_pw r y h.2⟩
theorem sorted_pw {l : List Str} (h : sortedS l = true) : l.Pairwise (fun a b => a.cps.toList ≤ b.cps.toList) := by
  cases l with
  | nil => exact List.Pairwise.nil
  | cons x r => exact rising_pw r x h
theorem str_ext {a b : Str} (h : a.cps.toList = b.cps.toList) : a = b := by
  obtain ⟨a⟩ := a
  obtain ⟨b⟩ := b
  have : a = b := Array.toList_inj.mp h
  rw [this]
theorem asc_eq {l m : List Str} (p : l.Perm m) (hl : sortedS l = true) (hm : sortedS m = true) : l = m :=
  p.eq_of_pairwise (fun a b _ _ h1 h2 => str_ext (List.le_antisymm h1 h2)) (sorted_pw hl) (sorted_pw hm)
theorem asc_uniq {l m : List Str} (hl : sortedS l = true) (hm : sortedS m = true) (nl : l.Nodup) (nm : m.Nodup) (h : ∀ x, x ∈ l ↔ x ∈ m) : l = m :=
  asc_eq ((List.perm_ext_iff_of_nodup nl nm).mpr h) hl hm
end SfM
namespace SfM
/-! labels of what is joined so far; a link with its lesser end first -/
def norm (e : Int × Int) : Int × Int := (if e.2 < e.1 then e.2 else e.1, if e.1 < e.2 then e.2 else e.1)
theorem norm_or (e : Int × Int) : norm e = e ∨ norm e = (e.2, e.1) := by
  obtain ⟨a, b⟩ := e
  unfold norm
  by_cases h : b < a
  · right
    simp only [if_pos h, if_neg (show ¬ a < b by omega)]
  · left
    by_cases h2 : a < b
    · simp only [if_neg h, if_pos h2]
    · have : a = b := by omega
      subst this
      simp
theorem TreeL.permS {S S' : List Int} {L : List (Int × Int)} {D : Int → Int → Nat} (T : TreeL S L D) (p : S'.Perm S) : TreeL S' L D where
  nd := p.nodup_iff.mpr T.nd
  ends := fun e he => ⟨p.mem_iff.mpr (T.ends e he).1, p.mem_iff.mpr (T.ends e he).2.1, (T.ends e he).2.2⟩
  snd := fun s hs => T.snd s (p.mem_iff.mp hs)
  lnd := T.lnd
  dz := fun x hx y hy => T.dz x (p.mem_iff.mp hx) y (p.mem_iff.mp hy)
  step := fun x hx => T.step x (p.mem_iff.mp hx)
  ex := fun x hx a ha => T.ex x (p.mem_iff.mp hx) a (p.mem_iff.mp ha)
  uq := fun x hx a ha => T.uq x (p.mem_iff.mp hx) a (p.mem_iff.mp ha)
  sep := T.sep
  nc := fun e he f hf => by
    rcases T.nc e he f hf with h | h | h | h
    · exact .inl fun v hv => h v (p.mem_iff.mp hv)
    · exact .inr (.inl fun v hv => h v (p.mem_iff.mp hv))
    · exact .inr (.inr (.inl fun v hv => h v (p.mem_iff.mp hv)))
    · exact .inr (.inr (.inr fun v hv => h v (p.mem_iff.mp hv)))
/-- a switch that is not alone has a link -/
theorem TreeL.has_link {S : List Int} {L : List (Int × Int)} {D : Int → Int → Nat} (T : TreeL S L D) {x a : Int} (hx : x ∈ S) (ha : a ∈ S) (h : x ≠ a) : ∃ e ∈ L, e.1 = a ∨ e.2 = a := by
  obtain ⟨t, ht, _⟩ := T.ex x hx a ha h
  rcases mem_nextTo.mp ht with e | e
  · exact ⟨_, e, .inl rfl⟩
  · exact ⟨_, e, .inr rfl⟩
structure Lab (S : List Int) (D : Int → Int → Nat) (lab : Int → Int) (done todo : List (Int × Int)) : Prop where
  same : ∀ e ∈ done, lab e.1 = lab e.2
  part : ∀ e ∈ todo, ∀ x ∈ S, ∀ y ∈ S, lab x = lab y → reg D e.1 e.2 x = reg D e.1 e.2 y
theorem Lab.start (S : List Int) (D : Int → Int → Nat) (L : List (Int × Int)) : Lab S D id [] L := ⟨fun e he => (by cases he), fun e _ x _ y _ h => (by rw [show x = y from h])⟩
def relab (lab : Int → Int) (left gone : Int) : Int → Int := fun x => if lab x = gone then left else lab x
theorem reg_ends {S : List Int} {L : List (Int × Int)} {D : Int → Int → Nat} (T : TreeL S L D) {e : Int × Int} (he : e ∈ L) : reg D e.1 e.2 e.1 = true ∧ reg D e.1 e.2 e.2 = false := by
  obtain ⟨h1, h2, ne⟩ := T.ends e he
  have z1 := (T.dz e.1 h1 e.1 h1).mpr rfl
  have z2 := (T.dz e.2 h2 e.2 h2).mpr rfl
  have n1 : D e.1 e.2 ≠ 0 := fun z => ne ((T.dz e.1 h1 e.2 h2).mp z)
  have n2 : D e.2 e.1 ≠ 0 := fun z => ne ((T.dz e.2 h2 e.1 h1).mp z).symm
  unfold reg
  exact ⟨decide_eq_true (by omega), decide_eq_false (by omega)⟩
theorem Lab.ne {S : List Int} {D : Int → Int → Nat} {lab : Int → Int} {done todo : List (Int × Int)} {e : Int × Int} (T : TreeL S (done ++ e :: todo) D) (l : Lab S D lab done (e :: todo)) : lab e.1 ≠ lab e.2 := fun h => by
  have he : e ∈ done ++ e :: todo := by simp
  obtain ⟨h1, h2, _⟩ := T.ends e he
  have q := l.part e List.mem_cons_self e.1 h1 e.2 h2 h
  obtain ⟨r1, r2⟩ := reg_ends T he
  rw [r1, r2] at q
  cases q
theorem Lab.next {S : List Int} {D : Int → Int → Nat} {lab : Int → Int} {done todo : List (Int × Int)} {e : Int × Int} (T : TreeL S (done ++ e :: todo) D) (l : Lab S D lab done (e :: todo)) :
    Lab S D (relab lab (lab e.1) (lab e.2)) (done ++ [e]) todo := by
  have he : e ∈ done ++ e :: todo := by simp
  obtain ⟨h1, h2, _⟩ := T.ends e he
  have ne := l.ne T
  refine ⟨fun f hf => ?_, fun f hf x hx y hy h => ?_⟩
  · rcases List.mem_append.mp hf with hf | hf
    · unfold relab
      rw [l.same f hf]
    · rw [List.mem_singleton.mp hf]
      unfold relab
      rw [if_neg ne, if_pos rfl]
  · have hfL : f ∈ done ++ e :: todo := by simp [hf]
    have nef : e ≠ f := fun z => by
      have n := T.lnd
      rw [List.nodup_append] at n
      have n2 := (List.nodup_cons.mp n.2.1).1
      exact n2 (z ▸ hf)
    have part := l.part f (List.mem_cons_of_mem _ hf)
    have sep := T.sep e he f hfL nef
    unfold relab at h
    by_cases cx : lab x = lab e.2
    · rw [if_pos cx] at h
      by_cases cy : lab y = lab e.2
      · exact part x hx y hy (cx.trans cy.symm)
      · rw [if_neg cy] at h
        rw [part x hx e.2 h2 cx, part y hy e.1 h1 h.symm, sep]
    · rw [if_neg cx] at h
      by_cases cy : lab y = lab e.2
      · rw [if_pos cy] at h
        rw [part x hx e.1 h1 h, part y hy e.2 h2 cy, sep]
      · rw [if_neg cy] at h
        exact part x hx y hy h
theorem Lab.all {S : List Int} {D : Int → Int → Nat} {lab : Int → Int} {L : List (Int × Int)} (T : TreeL S L D) (l : Lab S D lab L []) {x : Int} (hx : x ∈ S) : ∀ (n : Nat) (y : Int), D x y ≤ n → y ∈ S → lab x = lab y
  | 0, y, h, hy => by rw [(T.dz x hx y hy).mp (by omega)]
  | n + 1, y, h, hy => by
    by_cases c : x = y
    · rw [c]
    · obtain ⟨t, ht, lt⟩ := T.ex x hx y hy c
      have q : lab t = lab y := by
        rcases mem_nextTo.mp ht with e | e
        · exact (l.same _ e).symm
        · exact l.same _ e
      rw [← q]
      exact l.all T hx n t (by omega) (T.next_in ht).2.1
end SfM
/-! The states behind a row of frames. -/
namespace SfM
section
variable {α : Type} [DecidableEq α]
abbrev Mem (α : Type) := α → List (Int × Port α)
structure Wb (α : Type) where
  S : List Int
  L : List (Int × Int)
  D : Int → Int → Nat
  hs : List α
  pl : α → Int
variable (W : Wb α)
def memOf (m : Mem α) : Option α → List (Int × Port α)
  | none => []
  | some t => m t
def wayOf (m : Mem α) (f : α × Option α) : List α × List (Int × Port α) := (runP W.L (guestsAt W.hs W.pl) (memOf m f.2) W.S.length [(W.pl f.1, .inr f.1)] [] []).getD ([], [])
def sightOf (m : Mem α) (f : α × Option α) : List α := W.hs.filter fun h => decide (h ∈ (wayOf W m f).1)
def behind (m : Mem α) (f : α × Option α) : Mem α := fun h => if h = f.1 then merge (m f.1) (wayOf W m f).2 else m h
def memFrom (m : Mem α) (fs : List (α × Option α)) : Mem α := fs.foldl (behind W) m
def memsFrom (m : Mem α) : List (α × Option α) → List (Mem α)
  | [] => [m]
  | f :: r => m :: memsFrom (behind W m f) r
def sightsFrom (m : Mem α) : List (α × Option α) → List (List α)
  | [] => []
  | f :: r => sightOf W m f :: sightsFrom (behind W m f) r
theorem memsFrom_snoc (f : α × Option α) : ∀ (fs : List (α × Option α)) (m : Mem α), memsFrom W m (fs ++ [f]) = memsFrom W m fs ++ [behind W (memFrom W m fs) f]
  | [], _ => rfl
  | g :: r, m => by
    show m :: memsFrom W (behind W m g) (r ++ [f]) = m :: (memsFrom W (behind W m g) r ++ [behind W (memFrom W (behind W m g) r) f])
    rw [memsFrom_snoc f r]
theorem sightsFrom_snoc (f : α × Option α) : ∀ (fs : List (α × Option α)) (m : Mem α), sightsFrom W m (fs ++ [f]) = sightsFrom W m fs ++ [sightOf W (memFrom W m fs) f]
  | [], _ => rfl
  | g :: r, m => by
    show sightOf W m g :: sightsFrom W (behind W m g) (r ++ [f]) = sightOf W m g :: (sightsFrom W (behind W m g) r ++ [sightOf W (memFrom W (behind W m g) r) f])
    rw [sightsFrom_snoc f r]
theorem memFrom_snoc (m : Mem α) (fs : List (α × Option α)) (f : α × Option α) : memFrom W m (fs ++ [f]) = behind W (memFrom W m fs) f := by
  unfold memFrom
  rw [List.foldl_append]
  rfl
theorem memsFrom_len : ∀ (fs : List (α × Option α)) (m : Mem α), (memsFrom W m fs).length = fs.length + 1
  | [], _ => rfl
  | g :: r, m => by
    show (memsFrom W (behind W m g) r).length + 1 = _
    rw [memsFrom_len r] <;> rfl
theorem sightsFrom_len : ∀ (fs : List (α × Option α)) (m : Mem α), (sightsFrom W m fs).length = fs.length
  | [], _ => rfl
  | g :: r, m => by
    show (sightsFrom W (behind W m g) r).length + 1 = _
    rw [sightsFrom_len r] <;> rfl
theorem memsFrom_last : ∀ (fs : List (α × Option α)) (m : Mem α), ∃ r, memsFrom W m fs = r ++ [memFrom W m fs]
  | [], m => ⟨[], rfl⟩
  | g :: r, m => by
    obtain ⟨q, h⟩ := memsFrom_last r (behind W m g)
    exact ⟨m :: q, by show m :: memsFrom W (behind W m g) r = _; rw [h]; rfl⟩
theorem memsFrom_head (fs : List (α × Option α)) (m : Mem α) : ∃ r, memsFrom W m fs = m :: r := by
  cases fs with
  | nil => exact ⟨[], rfl⟩
  | cons f r => exact ⟨_, rfl⟩
/-- a frame between hosts of the web -/
def FrIn (f : α × Option α) : Prop := f.1 ∈ W.hs ∧ ∀ t, f.2 = some t → t ∈ W.hs
structure WbOk : Prop where
  tree : TreeL W.S W.L W.D
  home : ∀ h ∈ W.hs, W.pl h ∈ W.S
/-- what the switches of each host know -/
def MemOk (m : Mem α) : Prop := ∀ h ∈ W.hs, Knows W.S W.L W.D (W.pl h) (m h) ∧ ((m h).map (·.1)).Nodup
variable {W}
theorem nodup_put {κ β : Type} [DecidableEq κ] {k : κ} {v : β} : ∀ {l : List (κ × β)}, (l.map (·.1)).Nodup → ((put l k v).map (·.1)).Nodup
  | [], _ => by simp [put]
  | (a, b) :: r, h => by
    rw [show put ((a, b) :: r) k v = (if a = k then (a, v) :: r else (a, b) :: put r k v) from rfl]
    rw [List.map_cons, List.nodup_cons] at h
    by_cases q : a = k
    · rw [if_pos q, List.map_cons, List.nodup_cons]
      exact h
    · rw [if_neg q, List.map_cons, List.nodup_cons]
      refine ⟨fun z => ?_, nodup_put h.2⟩
      rcases keys_put.mp z with z | z
      · exact h.1 z
      · exact q z
theorem nodup_merge {κ β : Type} [DecidableEq κ] : ∀ {came l : List (κ × β)}, (l.map (·.1)).Nodup → ((merge l came).map (·.1)).Nodup
  | [], _, h => h
  | (a, b) :: r, l, h => nodup_merge (came := r) (l := put l a b) (nodup_put h)
theorem way_ok (ok : WbOk W) {m : Mem α} (hm : MemOk W m) {f : α × Option α} (hf : FrIn W f) :
    runP W.L (guestsAt W.hs W.pl) (memOf m f.2) W.S.length [(W.pl f.1, .inr f.1)] [] [] = some (wayOf W m f) ∧ ∀ i ∈ (wayOf W m f).2, Came W.S W.L W.D (W.pl f.1) ((wayOf W m f).2.map (·.1)) i := by
  have ha := ok.home _ hf.1
  obtain ⟨c, hc, hk⟩ : ∃ c ∈ W.S, Knows W.S W.L W.D c (memOf m f.2) := by
    cases h : f.2 with
    | none => exact ⟨W.pl f.1, ha, Knows.nil⟩
    | some t => exact ⟨W.pl t, ok.home _ (hf.2 t h), (hm t (hf.2 t h)).1⟩
  obtain ⟨R, h1, h2⟩ := run_ends (G := guestsAt W.hs W.pl) ok.tree ha hc hk W.S.length [(W.pl f.1, .inr f.1)] [] [] (Nat.le_of_eq (mu_first ok.tree ha f.1))
    (fun i hi => by
      obtain rfl := List.mem_singleton.mp hi
      exact ⟨⟨ha, fun h e => rfl, fun p e => (by cases e)⟩, fun p e => (by cases e)⟩) (fun i hi => (by cases hi))
  have e : wayOf W m f = R := by
    unfold wayOf
    rw [h1]
    rfl
  rw [e]
  exact ⟨h1, h2⟩
theorem behind_ok (ok : WbOk W) {m : Mem α} (hm : MemOk W m) {f : α × Option α} (hf : FrIn W f) : MemOk W (behind W m f) := fun h hh => by
  unfold behind
  by_cases e : h = f.1
  · rw [if_pos e, e]
    exact ⟨knows_merge ok.tree (hm _ hf.1).1 (way_ok ok hm hf).2, nodup_merge (hm _ hf.1).2⟩
  · rw [if_neg e]
    exact hm h hh
theorem memFrom_ok (ok : WbOk W) : ∀ {fs : List (α × Option α)} {m : Mem α}, MemOk W m → (∀ f ∈ fs, FrIn W f) → MemOk W (memFrom W m fs)
  | [], _, h, _ => h
  | f :: r, m, h, hf => memFrom_ok ok (fs := r) (m := behind W m f) (behind_ok ok h (hf f List.mem_cons_self)) fun g hg => hf g (List.mem_cons_of_mem _ hg)
theorem run_nodup {L : List (Int × Int)} {G : Int → List α} {m : List (Int × Port α)} : ∀ {n : Nat} {w : List (Int × Port α)} {seen : List α} {came : List (Int × Port α)} {R : List α × List (Int × Port α)}, runP L G m n w seen came = some R → (came.map (·.1)).Nodup → (R.2.map (·.1)).Nodup := by
  intro n
  induction n with
  | zero =>
    intro w seen came R h hc
    rcases List.eq_nil_or_concat w with rfl | ⟨w', ⟨s, port⟩, rfl⟩
    · rw [runP_nil] at h
      rw [← Option.some.inj h]
      exact hc
    · rw [List.concat_eq_append, runP_zero] at h
      cases h
  | succ n ih =>
    intro w seen came R h hc
    rcases List.eq_nil_or_concat w with rfl | ⟨w', ⟨s, port⟩, rfl⟩
    · rw [runP_nil] at h
      rw [← Option.some.inj h]
      exact hc
    · rw [List.concat_eq_append, runP_snoc] at h
      exact ih h (nodup_put hc)
theorem lookup_mem {κ β : Type} [DecidableEq κ] : ∀ {l : List (κ × β)} {e : κ × β}, (l.map (·.1)).Nodup → e ∈ l → l.lookup e.1 = some e.2
  | [], _, _, h => by cases h
  | (a, b) :: r, e, n, h => by
    rw [List.map_cons, List.nodup_cons] at n
    rw [lookup_cons]
    rcases List.mem_cons.mp h with rfl | h
    · rw [if_pos rfl]
    · rw [if_neg (fun z => n.1 (List.mem_map.mpr ⟨e, h, z⟩)), lookup_mem n.2 h]
theorem mem0_ok : MemOk W (fun _ => []) := fun h _ => ⟨Knows.nil, List.nodup_nil⟩
end
end SfM
/-! with: the exit is called at the block's end, and where an exception leaves the block. -/
namespace SfW
open PySem PySem.Spec PyProof.Rows L2
/-- a def that may be called while some exception is handled, whatever its context -/
structure FnE (Pg : Program) (w : World) (K : PySem.W.Frag) (mg : Str → Option Value) (bs : Heap) (k : Nat) (f : Addr) (fd : FuncData) (ps : List Str) (sp : Sp) : Prop where
  len : ∀ vs H Q E, sp vs H Q E → vs.length = ps.length
  run : ∀ (A : Around) (outer : List Env) (s : Shared) (H : Hp) (ag : Args) (us : List Value) (vs : List V) (Q : VK) (p : Addr × Obj), L2H.RoomH k A → L2H.PinOk outer H s p → Env0 Pg w K mg bs A outer s H →
    BindsTo s fd ag (ps.zip us) → Vals vs us → sp vs H Q E0 → codeAny (model Pg w) A (.call (.ref f) ag) (CR CX0 outer Pg w H s Q E0) s
theorem fnE_of {Pg : Program} {w : World} {K : PySem.W.Frag} {mg : Str → Option Value} {bs : Heap} {k : Nat} {f : Addr} {x qual : Str} {params : Arguments} {body : List Stmt} {scope : Scope} {dV kV doc pm cdv ct oc : Value} {an od : Option Addr}
    {osl : Array (Option Value)} {N ps : List Str} {sp : Sp} (lk : K.lookup f = some ⟨oc, od, .func (PySem.W.fnOf x qual params body scope dV kV doc pm an cdv ct), osl⟩) (hcd : PySem.W.codeIn K cdv qual = true)
    (S : FnScope N ps scope) (hl : ∀ vs H Q E, sp vs H Q E → vs.length = ps.length)
    (hB : ∀ (A : Around) (outer : List Env) (s : Shared) (H : Hp) (vs : List V) (Q : VK) (p : Addr × Obj), sp vs H Q E0 →
      ∃ t, PSs (L2H.cxH CX0 Pg w K mg bs N qual scope f cdv A outer s H E0 p) body t ∧ t { nx := fun _ H' => Q .non H', rt := Q } (L2.start N vs) H) :
    FnE Pg w K mg bs (k + 1) f (PySem.W.fnOf x qual params body scope dV kV doc pm an cdv ct) ps sp := by
  refine ⟨hl, fun A outer s H ag us vs Q p hr hp e0 hb r q => ?_⟩
  have n := hl _ _ _ _ q
  have kin : K.In s.heap := e0.mod.kin.keeps fun b o e => (e0.bs b o e).1
  have nol : s.heap.NoLimit := e0.mod.nolimit.keeps fun b o e => (e0.bs b o e).1
  have kd : ∀ y ∈ ps.zip us, scope.names.lookup y.1 = some .local ∨ (scope.names.lookup y.1 = some .cell ∧ ((cellsFrom (s.heap.objs.size + 1) scope.names []).lookup y.1).isSome = true) := fun y hy =>
    (S.par y.1 (List.of_mem_zip hy).1).elim .inl fun z => .inr ⟨z, PySem.W.cellsFrom_some _ _ _ (.inl z)⟩
  refine codeAny_call_function hr.depth (kin _ _ lk) rfl S.co S.gen rfl (PySem.W.codeRec_of kin hcd) (hb _ _ _ _ (wpAny_newFunctionEnv_cells S.kind kd fun ev he s1 ic => ?_))
  subst he
  refine ⟨nol.keeps ic.toInCall.keep, codeAny_func ?_⟩
  obtain ⟨t, ht, hq⟩ := hB A outer s H vs Q p q
  have I := L2H.inv_startH (CX := CX0) (E := E0) (N := N) S hp e0 n r ic
  refine wpAny_mono (ht.run [] s1 _ H _ I hq) (fun fl s' hs => ?_) fun e s' hs => hs
  cases fl with
  | ret u =>
    obtain ⟨v, σ', H', J, rv, z⟩ := hs
    exact ⟨v, H', J.os, J.bare, J.base, J.hok, rv, z⟩
  | next =>
    obtain ⟨σ', H', J, z⟩ := hs
    exact ⟨.non, H', J.os, J.bare, J.base, J.hok, rfl, z⟩
  | brk =>
    obtain ⟨_, _, _, z⟩ := hs
    exact z.elim
  | cont =>
    obtain ⟨_, _, _, z⟩ := hs
    exact z.elim

/-- what is wished of an exception that leaves the block: the exit runs, then Wout -/
def wWith (a : Addr) (spX : Sp) (Wout : WX) : WX := fun cls d σ' H' => (∃ k : V, RelV k cls) ∧ ∀ k v t : V, spX [.ref a, k, v, t] H' (fun r H4 => r = .non ∧ Wout cls d σ' H4) E0
/-- how the block may end -/
def dWith (a : Addr) (spX : Sp) (D : Ends) : Ends where
  nx := fun σ' H' => spX [.ref a, .non, .non, .non] H' (fun _ H4 => D.nx σ' H4) E0
  rt := fun v H' => spX [.ref a, .non, .non, .non] H' (fun _ H4 => D.rt v H4) E0
def tWith (C : Addr) (spI spX : Sp) (tc : TE) (i : Nat) (tb : WX → TS) (Wout : WX) : TS := fun D σ H => tc σ H fun x H1 => ∃ a dx fs, x = .ref a ∧ H1 a = some (.ins C dx fs) ∧
  spI [.ref a] H1 (fun v H2 => tb (wWith a spX Wout) (dWith a spX D) (σ.set i (some v)) H2) E0
/-- what follows where an exception leaves the block -/
def excWith (env : Env) (pos : Pos) (a fx : Addr) (u : Value) : Sem Flow := do
  noteFrame u env
  setFlight u none
  standAt pos
  holding [u] do
  let r ← withItem.marked u (.call (.ref fx) ⟨[.ref a] ++ [← typeOf u, u, ← tracebackOf u], []⟩)
  let r ← pure r
  match r with
  | .none => do
    let sw ← pure false
    if sw then rule "with.exit-swallows"; setFlight u none; pure .next else passOn "with" u env
  | .bool b => do
    let sw ← pure b
    if sw then rule "with.exit-swallows"; setFlight u none; pure .next else passOn "with" u env
  | _ => do
    let sw ← pure ((← withItem.marked u (.call (.type "bool") ⟨[r], []⟩)) == .bool true)
    if sw then rule "with.exit-swallows"; setFlight u none; pure .next else passOn "with" u env
/-- what a class must have that its instances stand in a with -/
structure WithC (K : PySem.W.Frag) (C fe fx : Addr) : Prop where
  ent : PySem.W.findIn K (.ref C) "__enter__" = some (some (.ref fe))
  entF : PySem.W.isFn K (.ref fe) = true
  exi : PySem.W.findIn K (.ref C) "__exit__" = some (some (.ref fx))
  exiF : PySem.W.isFn K (.ref fx) = true
section
variable {X : Cx} {pins : List (Addr × Obj)} {D : Ends} {C a fe fx : Addr} {spI spX : Sp} {k ki : Nat} {fdI fdX : FuncData} {psX psI : List Str}
/-- the exception is noted, the exit called, on it goes -/
theorem with_exc {Wout : WX} {u : Value} {s' : Shared} {xe : Value → Shared → Prop} {pos : Pos} (hs : X.stack = X.env :: X.outer) (hf : X.env.frame = some X.env.locals) (hex : X.ex = []) (ok : X.Ok) (tk : Takes X Wout)
    (GX : FnE X.prog X.w X.K X.mg X.base k fx fdX psX spX) (hr : L2H.RoomH k X.A) (bX : Binds X.K fdX psX [])
    (xx : XE (X.tr (X.pn ++ pins) xe) (wWith a spX Wout) u s') :
    wpAny (model X.prog X.w) X.A (excWith X.env pos a fx u) (SP X pins D) X.xe s' := by
  have hfr : X.A.frames = some (X.env :: X.outer) := ok.frames.trans (congrArg some hs)
  obtain ⟨x, B, sI, ps', σ', H', cls, d, rfl, J', nb, up, sky, na, hos, ag, hw⟩ := xx
  have J : Inv X pins σ' H' sI := J'.ofTry ok
  have sky' : Sky B (X.env :: X.outer) x (Zc cls d) X.env.locals s'.heap := hs ▸ sky
  have fin : ∀ h1, HandSPX.HeldZ B (X.env :: X.outer) x (Zc cls d) X.env.locals h1 → s'.heap.UpToSlots h1 → wpAny (model X.prog X.w) X.A (do
      setFlight (.ref x) none
      standAt pos
      holding [.ref x] do
      let r ← withItem.marked (.ref x) (.call (.ref fx) ⟨[.ref a] ++ [← typeOf (.ref x), .ref x, ← tracebackOf (.ref x)], []⟩)
      let r ← pure r
      let sw ← match r with
        | .none => pure false
        | .bool b => pure b
        | _ => do pure ((← withItem.marked (.ref x) (.call (.type "bool") ⟨[r], []⟩)) == .bool true)
      if sw then rule "with.exit-swallows"; setFlight (.ref x) none; pure .next else passOn "with" (.ref x) X.env) (SP X pins D) X.xe { s' with heap := h1 } := fun h1 hh1 up1 => by
    refine wpAny_bind (HandSPX.landsZ hh1 fun h3 fl3 up3 => ?_)
    have J3 : Inv X pins σ' H' { s' with heap := h3 } := J.landed nb fl3.1 ((up.trans up1).trans up3) hos ag
    obtain ⟨k1, k2, k3, oe, vs, T, oT, ts, he3, hz, hd, hv1, hnT, hTe, hT, hdT, ht3⟩ := id fl3
    have gone : ∀ b, B.get? b = none → H' b = none := fun b hb => (J.inGround nb).gone hb
    have nT : H' T = none := gone T hnT
    have notFr : ∀ (b : Addr) (o : Obj) (fv : Array Value), h3.get? b = some o → o.data = .fields fv → b ∉ frs (X.env :: X.outer) := fun b o fv e dd hm => by
      obtain ⟨_, o2, e2, hnf⟩ := k3.mem hm
      rw [e] at e2
      cases e2
      exact hnf _ dd
    have fa := notFr x oe vs he3 hd
    have fT := notFr T oT ts hT hdT
    have fS : x ∉ frs X.stack := hs ▸ fa
    have fST : T ∉ frs X.stack := hs ▸ fT
    refine wpAny_bind (wpAny_standAt (wpAny_holding ?_))
    refine wpAny_bind (wpAny_typeOf_ref he3 ?_)
    rw [hz.1]
    -- the traceback that is handed in
    have tb : ∀ {Q : Value → Shared → Prop}, Q .none { s' with heap := h3 } → Q (.ref T) { s' with heap := h3 } → wpAny (model X.prog X.w) X.A (tracebackOf (.ref x)) Q X.xe { s' with heap := h3 } := fun {Q} q1 q2 => by
      unfold tracebackOf
      refine wpAny_bind (wpAny_field he3 hd hv1 ?_)
      have h1T : 1 < ts.size := Nat.lt_trans (by decide) (Array.getElem?_eq_some_iff.mp ht3).1
      refine wpAny_bind (wpAny_field hT hdT (Array.getElem?_eq_getElem h1T) ?_)
      by_cases z : ((ts[1]) == Value.none) = true
      · rw [if_pos z]
        exact wpAny_pure q1
      · rw [if_neg z]
        exact wpAny_bind (wpAny_pure (wpAny_pure q2))
    -- the exit runs
    have go : ∀ (tv : V) (tu : Value), RelV tv tu → ∀ (kv : V), RelV kv cls → wpAny (model X.prog X.w) X.A (do
        let r ← withItem.marked (.ref x) (.call (.ref fx) ⟨[.ref a] ++ [cls, .ref x, tu], []⟩)
        let r ← pure r
        let sw ← match r with
          | .none => pure false
          | .bool b => pure b
          | _ => do pure ((← withItem.marked (.ref x) (.call (.type "bool") ⟨[r], []⟩)) == .bool true)
        if sw then rule "with.exit-swallows"; setFlight (.ref x) none; pure .next else passOn "with" (.ref x) X.env) (SP X pins D) X.xe { s' with heap := h3 } := fun tv tu rt kv rk => by
      have e3 := J3.env0
      have eH : Env0 X.prog X.w X.K X.mg X.base (X.A.mark (some (.ref x))) X.stack { s' with heap := h3 } H' := ⟨e3.frames, e3.mod, e3.bs, e3.bsz, e3.funs, e3.frf, e3.hok, e3.bare⟩
      have pin : L2H.PinOk X.stack H' { s' with heap := h3 } (x, oe) := ⟨he3, na, fS, fun v z => by
        have z' : oe.data = .cell v := z
        rw [hd] at z'
        cases z'⟩
      have rH : L2H.RoomH k (X.A.mark (some (.ref x))) := ⟨hr.dp, hr.un⟩
      have rv : Vals [V.ref a, kv, .ref x, tv] [Value.ref a, cls, .ref x, tu] := .cons rfl (.cons rk (.cons rfl (.cons rt .nil)))
      have q := hw.2 kv (.ref x) tv
      have hl : ([Value.ref a, cls, .ref x, tu] ++ []).length = psX.length := by
        rw [← GX.len _ _ _ _ q]
        rfl
      have bb := bX { s' with heap := h3 } [Value.ref a, cls, .ref x, tu] J3.kIn hl
      rw [List.append_nil] at bb
      unfold withItem.marked
      refine wpAny_bind (wpAny_bind (wpAny_run (codeAny_mono (GX.run _ X.stack _ H' ⟨[Value.ref a, cls, .ref x, tu], []⟩ [Value.ref a, cls, .ref x, tu] _ _ (x, oe) rH pin eH bb rv q) fun r s6 hq => ?_)))
      cases r with
      | error er => exact (show False from hq).elim
      | ok fl =>
        cases fl with
        | next => exact (show False from hq).elim
        | brk => exact (show False from hq).elim
        | cont => exact (show False from hq).elim
        | ret u6 =>
          obtain ⟨v6, H6, os6, bare6, un6, hok6, r6, ev6, q6⟩ := hq
          subst ev6
          cases r6
          refine wpAny_pure (wpAny_bind (wpAny_pure (wpAny_bind (wpAny_pure ?_))))
          show wpAny (model X.prog X.w) X.A (passOn "with" (.ref x) X.env) (SP X pins D) X.xe s6
          have J6 : Inv X pins σ' H6 s6 := J3.call' os6 un6 hok6 bare6 fun b z => nomatch z
          have ga : s6.heap.get? x = some oe := un6.keep x oe he3 na fS (by simp)
          have gT : s6.heap.get? T = some oT := un6.keep T oT hT nT fST (by simp)
          have na6 : H6 x = none := un6.free x oe he3 na (by simp)
          have nT6 : H6 T = none := un6.free T oT hT nT (by simp)
          have far : ∀ b o, sI.heap.get? b = some o → b ≠ x ∧ b ≠ T := fun b o e => by
            by_cases hb : b ∈ frs X.stack
            · exact ⟨fun z => fS (z ▸ hb), fun z => fST (z ▸ hb)⟩
            · have y := nb b o e hb
              refine ⟨fun z => ?_, fun z => ?_⟩
              · rw [z, k2] at y
                cases y
              · rw [z, hnT] at y
                cases y
          have far0 : ∀ b o, X.s_0.heap.get? b = some o → b ≠ x ∧ b ≠ T := fun b o e => by
            obtain ⟨o2, y⟩ := J.base.there b o e (by rw [hex]; simp)
            exact far b o2 y
          obtain ⟨G, g1, g2⟩ := restrict s6.heap fun b => !(decide (b = x) || decide (b = T))
          have gIn : ∀ b o, G.get? b = some o → s6.heap.get? b = some o ∧ b ≠ x ∧ b ≠ T := fun b o e => by
            cases y : (!(decide (b = x) || decide (b = T))) with
            | false =>
              rw [g2 b y] at e
              cases e
            | true =>
              rw [g1 b y] at e
              have y2 : ¬ (b = x ∨ b = T) := fun z => by
                rcases z with z | z <;> simp [z] at y
              exact ⟨e, fun z => y2 (.inl z), fun z => y2 (.inr z)⟩
          have gOf : ∀ b o, b ≠ x → b ≠ T → s6.heap.get? b = some o → G.get? b = some o := fun b o h1 h2 e => by
            rw [g1 b (by simp [h1, h2])]
            exact e
          have I6 : Inv X pins σ' H6 { s6 with heap := G } := J6.less (fun b o e => (gIn b o e).1) gOf ⟨oe, vs, ga, hd⟩ ⟨oT, ts, gT, hdT⟩ na6 nT6 far0 fun p hp => far p.1 p.2 (J.pin p hp).1
          have Bno : ∀ b, (b = x ∨ b = T) → (PySem.W.hideAll G (frs X.stack)).get? b = none := fun b hb => by
            cases y : (PySem.W.hideAll G (frs X.stack)).get? b with
            | none => rfl
            | some o =>
              obtain ⟨_, n1, n2⟩ := gIn b o (PySem.W.of_hideAll _ y)
              exact (hb.elim n1 n2).elim
          have fl6 : HandSPX.FlyingZ (PySem.W.hideAll G (frs X.stack)) (X.env :: X.outer) x (Zc cls d) s6.heap := by
            refine ⟨fun b o e => (gIn b o (PySem.W.of_hideAll _ e)).1, Bno x (.inl rfl), ?_, oe, vs, T, oT, ts, ga, hz, hd, hv1, Bno T (.inr rfl), hTe, gT, hdT, ht3⟩
            have ff := funFrames_none (B := PySem.W.hideAll G (frs X.stack)) J6.stack fun b hb => PySem.W.hideAll_none _ hb
            exact hs ▸ ff
          unfold PySem.passOn
          refine wpAny_bind (wpAny_field ga hd hv1 ?_)
          rw [if_neg (show ¬ ((Value.ref T == Value.none) = true) from fun z => by simp at z)]
          have on : wpAny (model X.prog X.w) X.A (setFlight (.ref x) X.env.frame) (fun _ s7 => wpAny (model X.prog X.w) X.A (throw (.ref x) : Sem Flow) (SP X pins D) X.xe s7) X.xe s6 := by
            rw [hf]
            refine HandSPX.setFlight_upZ fl6 fun h7 hh7 up7 => wpAny_throw (tk _ _ ?_)
            exact ⟨x, PySem.W.hideAll G (frs X.stack), { s6 with heap := G }, pins, σ', H6, cls, d, rfl, I6, fun b o e hb => PySem.W.hideAll_get _ e hb,
              Heap.UpToSlots.trans (Heap.UpToSlots.of_keeps fun b o e => (gIn b o e).1) up7, .inr (.inr (by have z := hh7; rw [← hs] at z; exact z)), na6, rfl, J6.bare, q6⟩
          first
            | exact wpAny_bind (wpAny_pure (wpAny_bind on))
            | exact wpAny_bind on
    obtain ⟨kv, rk⟩ := hw.1
    exact wpAny_bind (tb (go .non .none rfl kv rk) (go (.ref T) (.ref T) rfl kv rk))
  show wpAny (model X.prog X.w) X.A (noteFrame (.ref x) X.env >>= fun _ => _) _ _ _
  rcases sky' with ⟨hB, hn, hl, oe, vs, he0, hz, hd, hv1⟩ | fl | hh
  · exact wpAny_bind (HandSPX.look_newZ Zc.steady hfr hl hf he0 hB hn hd hv1 hz fin)
  · exact wpAny_bind (HandSPX.looks_onZ Zc.steady hfr hf fl fin)
  · exact wpAny_bind (HandSPX.againZ hf hh.2.2.2 (fin s'.heap hh (Heap.UpToSlots.refl _)))
/-- with ctx as y: body -/
theorem ps_with {Wout : WX} {i : Nat} {y : Str} {py pos : Pos} {ctx : Expr} {body : List Stmt} {tc : TE} {tb : WX → TS} (hs : X.stack = X.env :: X.outer) (hf : X.env.frame = some X.env.locals) (hex : X.ex = []) (tk : Takes X Wout)
    (hc : PE X ctx tc) (Cl : Cls X.K C) (W : WithC X.K C fe fx) (GI : FnOk X.prog X.w X.K X.mg X.base CX0 k fe fdI psI spI) (rI : Room k X.A) (bI : Binds X.K fdI psI [])
    (GX : FnOk X.prog X.w X.K X.mg X.base CX0 k fx fdX psX spX) (GE : FnE X.prog X.w X.K X.mg X.base k fx fdX psX spX) (bX : Binds X.K fdX psX [])
    (hN : X.N.Nodup) (hi : X.N[i]? = some y) (hy : Loc X.env.scope y) (hfn : X.fn y = true ∨ X.env.scope.names.lookup y = some .local)
    (hb : ∀ (W : WX) (pn : List (Addr × Obj)) (xe : Value → Shared → Prop), Takes (X.tr pn xe) W → PSs (X.tr pn xe) body (tb W)) :
    PS X (.With [⟨ctx, some (.Name y py)⟩] body pos) (tWith C spI spX tc i tb Wout) := by
  refine ⟨fun pins s σ H D I h => ?_⟩
  have ok := I.ok
  refine PySem.W.kw_execN (thn (hc.run pins s σ H _ I h) fun u s1 ⟨x, H1, I1, rx, a, dx, fs, ex, ea, q⟩ => ?_)
  subst ex
  obtain rfl : u = Value.ref a := rx
  obtain ⟨mA, O, _⟩ := ins_get I1.hok ea
  obtain ⟨od, J, _⟩ := O.look
  obtain ⟨cd, hcd, ae⟩ := PySem.W.kw_along W.ent
  obtain ⟨cd', hcd', ax⟩ := PySem.W.kw_along W.exi
  cases hcd.symm.trans hcd'
  have kL1 : PySem.W.Looks (model X.prog X.w) s1.heap (specialOnItsLine (.ref a) "__enter__") (some (.ref fe), cd.mro) := PySem.W.kw_special I1.kIn J hcd ae
  have kL2 : PySem.W.Looks (model X.prog X.w) s1.heap (specialOnItsLine (.ref a) "__exit__") (some (.ref fx), cd.mro) := PySem.W.kw_special I1.kIn J hcd ax
  have kL3 : PySem.W.Looks (model X.prog X.w) s1.heap (bindSpecial (.ref fe) (.ref a)) (.ref fe, [.ref a]) := PySem.W.bind_fn I1.kIn _ (beq_iff_eq.mp W.entF)
  have kL4 : PySem.W.Looks (model X.prog X.w) s1.heap (bindSpecial (.ref fx) (.ref a)) (.ref fx, [.ref a]) := PySem.W.bind_fn I1.kIn _ (beq_iff_eq.mp W.exiF)
  have kL5 : PySem.W.Looks (model X.prog X.w) s1.heap (aMethodOfAnotherBuiltinTypeStops (.ref fe) cd.mro) () := PySem.W.Looks.of_pure rfl
  have kL6 : PySem.W.Looks (model X.prog X.w) s1.heap (aMethodOfAnotherBuiltinTypeStops (.ref fx) cd.mro) () := PySem.W.Looks.of_pure rfl
  obtain ⟨hh, g, d, t, os⟩ := s1
  unfold PySem.W.KwIn withItem
  refine wpAny_bind (wpAny_pure ?_)
  refine wpAny_bind (wpAny_standAt ?_)
  simp only [Bool.false_eq_true, if_false]
  kw_lk
  refine thn (run_fn (us := [.ref a]) (vs := [.ref a]) (dvs := []) (ds := []) (E := E0) GI rI bI .nil pass0 I1 (.cons rfl .nil) q) fun v s2 ⟨vv, H2, I2, rv, q2⟩ => ?_
  refine wpAny_bind (wpAny_pure ?_)
  refine wpAny_bind (wpAny_attempt (PySem.W.kw_held ?_))
  show wpAny _ _ (assign (.Name y py) X.env v >>= fun _ => execs body X.env) _ _ _
  refine wpAny_bind (wpAny_assign_Name (store_ok I2 hN hi hy rv (fun s3 I3 => ?_) hfn))
  refine wpAny_mono ((hb (wWith a spX Wout) (X.pn ++ pins) (fun u s4 => wpAny (model X.prog X.w) X.A (excWith X.env ctx.pos a fx u) (SP X pins D) X.xe s4) (fun u s4 xx => with_exc hs hf hex ok tk GE (L2H.roomH_of rI) bX xx)).run [] s3 _ H2 (dWith a spX D) (I3.toTry _) q2) (fun f s4 hsp => ?_) (fun u s4 z => z)
  -- the exit behind the block
  have out : ∀ {R : V → Hp → Prop} {σ4 : L2.St} {H4 : Hp} {Qf : Value → Shared → Prop}, Inv X pins σ4 H4 s4 → spX [.ref a, .non, .non, .non] H4 R E0 → (∀ u5 s5 v5 H5, Inv X pins σ4 H5 s5 → R v5 H5 → Qf u5 s5) →
      wpAny (model X.prog X.w) X.A (call (.ref fx) ([.ref a] ++ [.none, .none, .none])) Qf X.xe s4 := fun {R σ4 H4 Qf} I4 q4 k4 =>
    thn (run_fn (us := [.ref a, .none, .none, .none]) (vs := [.ref a, .non, .non, .non]) (dvs := []) (ds := []) (E := E0) (Q := R) GX rI bX .nil pass0 I4 (.cons rfl (.cons rfl (.cons rfl (.cons rfl .nil)))) q4) fun u5 s5 ⟨v5, H5, I5, _, q5⟩ => k4 u5 s5 v5 H5 I5 q5
  show wpAny _ _ (standAt ctx.pos >>= fun _ => _) _ _ _
  refine wpAny_bind (wpAny_standAt (wpAny_bind (wpAny_holding ?_)))
  cases f with
  | next =>
    obtain ⟨σ4, H4, J4, q4⟩ := hsp
    exact out (J4.ofTry ok) q4 fun u5 s5 v5 H5 I5 q5 => wpAny_pure ⟨σ4, H5, I5, q5⟩
  | ret u4 =>
    obtain ⟨v4, σ4, H4, J4, r4, q4⟩ := hsp
    exact out (J4.ofTry ok) q4 fun u5 s5 v5 H5 I5 q5 => wpAny_pure ⟨v4, σ4, H5, I5, r4, q5⟩
  | brk =>
    obtain ⟨_, _, _, z⟩ := hsp
    exact (show False from z).elim
  | cont =>
    obtain ⟨_, _, _, z⟩ := hsp
    exact (show False from z).elim
end
end SfW
namespace SfW
open PySem PySem.Spec PyProof.Rows L2
open Evl (Ex)
/-! comprehensions by a word of the turn, what is made so far and the heap without the new list -/
def del (D : Addr) (H : Hp) : Hp := fun a => if a = D then none else H a
theorem del_ne {D a : Addr} {H : Hp} (h : a ≠ D) : del D H a = H a := by unfold del; rw [if_neg h]
theorem del_ex (D : Addr) (H : Hp) : Ex (del D H) H := fun a o e => by
  unfold del at e
  by_cases h : a = D
  · rw [if_pos h] at e
    cases e
  · rw [if_neg h] at e
    exact e
theorem of_del {D a : Addr} {H : Hp} {o : HO} (e : del D H a = some o) : a ≠ D ∧ H a = some o := by
  unfold del at e
  by_cases h : a = D
  · rw [if_pos h] at e
    cases e
  · rw [if_neg h] at e
    exact ⟨h, e⟩
/-- H5 has what H had, and what is new in H4 since Ha -/

def Tame (o : HO) : Prop := (∀ xs, o ≠ .lst xs) ∧ ∀ kvs, o ≠ .dK kvs
def Kp (H Ha H4 H5 : Hp) : Prop := ∀ a o, H4 a = some o → (H a = some o ∨ Ha a = none ∨ Tame o) → H5 a = some o
theorem Kp.ex {H Ha H4 H5 : Hp} (k : Kp H Ha H4 H5) (e : Ex H Ha) (e2 : Ex Ha H4) : Ex H H5 := fun a o h => k a o (e2 a o (e a o h)) (.inl h)
theorem Kp.new {H Ha H4 H5 : Hp} (k : Kp H Ha H4 H5) {a : Addr} {o : HO} (h : H4 a = some o) (n : Ha a = none) : H5 a = some o := k a o h (.inr (.inl n))
theorem Kp.tame {H Ha H4 H5 : Hp} (k : Kp H Ha H4 H5) {a : Addr} {o : HO} (h : H4 a = some o) (t : Tame o) : H5 a = some o := k a o h (.inr (.inr t))
theorem del_upd {D : Addr} {H : Hp} {o : HO} (h : H D = none) : del D (upd H D o) = H := by
  funext a
  unfold del
  by_cases e : a = D
  · rw [if_pos e, e, h]
  · rw [if_neg e, upd_ne e]
theorem kp_ne {D : Addr} {Ha H4 : Hp} (hD : (∃ xs, Ha D = some (.lst xs)) ∨ ∃ kvs, Ha D = some (.dK kvs)) (e : Ex Ha H4) {a : Addr} {u : HO} (h4 : H4 a = some u) (hh : del D Ha a = some u ∨ Ha a = none ∨ Tame u) : a ≠ D := fun z => by
  rcases hh with hh | hh | hh
  · exact (of_del hh).1 z
  · rcases hD with ⟨v, hv⟩ | ⟨v, hv⟩
    · rw [z, hv] at hh
      cases hh
    · rw [z, hv] at hh
      cases hh
  · rcases hD with ⟨v, hv⟩ | ⟨v, hv⟩
    · rw [z, e _ _ hv] at h4
      exact hh.1 v (Option.some.inj h4).symm
    · rw [z, e _ _ hv] at h4
      exact hh.2 v (Option.some.inj h4).symm
theorem kp_del {D : Addr} {Ha H4 : Hp} {o : HO} (hD : (∃ xs, Ha D = some (.lst xs)) ∨ ∃ kvs, Ha D = some (.dK kvs)) (e : Ex Ha H4) : Kp (del D Ha) Ha H4 (del D (upd H4 D o)) := fun a u h4 hh => by
  have ne := kp_ne hD e h4 hh
  rw [del_ne ne, upd_ne ne]
  exact h4
theorem kp_del0 {D : Addr} {Ha H4 : Hp} (hD : (∃ xs, Ha D = some (.lst xs)) ∨ ∃ kvs, Ha D = some (.dK kvs)) (e : Ex Ha H4) : Kp (del D Ha) Ha H4 (del D H4) := fun a u h4 hh => by
  have ne := kp_ne hD e h4 hh
  rw [del_ne ne]
  exact h4
/-! within a comprehension the fragment is named: the block's own is not seen outside -/
theorem pe_at {X : Cx} {e : Expr} {K : PySem.W.Frag} {R : PySem.W.Frag → TE} (h : PE X e (R X.K)) (hK : X.K = K) : PE X e (R K) := hK ▸ h
theorem pt_at {X : Cx} {e : Expr} {K : PySem.W.Frag} {R : PySem.W.Frag → TT} (h : PT X e (R X.K)) (hK : X.K = K) : PT X e (R K) := hK ▸ h
theorem pg_at {X : Cx} {tg : Expr} {K : PySem.W.Frag} {R : PySem.W.Frag → TG} (h : PG X tg (R X.K)) (hK : X.K = K) : PG X tg (R K) := hK ▸ h
theorem pi_at {X : Cx} {tg e : Expr} {K : PySem.W.Frag} {R : PySem.W.Frag → TI} (h : PI X tg e (R X.K)) (hK : X.K = K) : PI X tg e (R K) := hK ▸ h
/-- behind an __init__: what stood ahead of the instance stands -/
theorem mk_ex {H H2 : Hp} {x dx : Addr} {o u : HO} (hx : H x = none) (hd : H dx = none) (e : Ex (del x (upd (upd H dx o) x u)) H2) : Ex H H2 := fun a v h => e a v (by
  rw [del_ne (ne_of_none h hx), upd_ne (ne_of_none h hx), upd_ne (ne_of_none h hd)]
  exact h)
section
variable {J : It} {n : Nat} {G : Hp → Prop} {Y : Nat → Hp → V → Hp → Prop}
theorem lcW (w : Walk J n G Y) {g : TG} {tt : TT} {te : TE} {vs : List Nat} {σ : L2.St} {H1 : Hp} {D : Addr} {Qd : Hp → Prop} (hD : H1 D = none) (R : Nat → List V → Hp → Prop) (hn : n ≤ 50000) (h0 : R 0 [] H1) (hG : ∀ H', Ex H1 H' → G H')
    (turn : ∀ i acc H Ha, i < n → R i acc H → Ex H1 H → Ex H Ha → ∀ (C : VK) (C0 : Hp → Prop), (∀ y H4, Ex Ha H4 → (∀ H5, Kp H Ha H4 H5 → R (i + 1) (acc ++ [y]) H5) → C y H4) → (∀ H4, Ex Ha H4 → (∀ H5, Kp H Ha H4 H5 → R (i + 1) acc H5) → C0 H4) →
      ∀ x Hb, Y i Ha x Hb → g x (wipe σ vs) Hb fun σ2 H2 => wipe σ2 vs = wipe σ vs ∧ tt σ2 H2 fun b H3 => if b = true then te σ2 H3 C else C0 H3)
    (k : ∀ acc H', acc.length ≤ n → R n acc H' → Ex H1 H' → H' D = none → ∀ H2, Ex H' H2 → H2 D = some (.lst acc) → Qd H2) :
    ∃ W : Nat → Nat → Hp → Prop, (∃ m, W 0 m (upd H1 D (.lst []))) ∧ ∀ i m H, W i m H →
      (J.stop i H ∧ Qd H) ∨ (J.go i H ∧ ∃ Nx : Hp → Prop, (∀ H', Nx H' → ∃ m', m' < m ∧ W (i + 1) m' H') ∧ ∀ x H', J.yld i H x H' → g x (wipe σ vs) H' fun σ2 H2 => wipe σ2 vs = wipe σ vs ∧ tt σ2 H2 fun b H3 =>
        if b = true then te σ2 H3 fun y H4 => ∃ acc, H4 D = some (.lst acc) ∧ acc.length < sizeLine ∧ Nx (upd H4 D (.lst (acc ++ [y]))) else Nx H3) := by
  refine lc_it w (fun i Ha => ∃ acc, Ha D = some (.lst acc) ∧ acc.length ≤ i ∧ R i acc (del D Ha) ∧ Ex H1 (del D Ha)) ?_ ?_ ?_ ?_
  · refine ⟨[], upd_same, Nat.le_refl _, ?_, ?_⟩
    · rw [del_upd hD]
      exact h0
    · rw [del_upd hD]
      exact Ex.refl _
  · intro i Ha _ ⟨acc, _, _, _, e⟩
    exact hG Ha (e.trans (del_ex D Ha))
  · intro i x Ha Hb hi ⟨acc, ea, la, r, e⟩ y
    refine turn i acc (del D Ha) Ha hi r e (del_ex D Ha) _ _ (fun y H4 q4 q5 => ?_) (fun H3 q4 q5 => ?_) x Hb y
    · have kk := kp_del (D := D) (H4 := H4) (o := .lst (acc ++ [y])) (.inl ⟨_, ea⟩) q4
      refine ⟨acc, q4 D _ ea, Nat.lt_of_le_of_lt la (Evl.sz_lt (by omega)), acc ++ [y], upd_same, by rw [List.length_append]; exact Nat.succ_le_succ la, q5 _ kk, e.trans (kk.ex (del_ex D Ha) q4)⟩
    · have kk := kp_del0 (D := D) (H4 := H3) (Ha := Ha) (.inl ⟨_, ea⟩) q4
      exact ⟨acc, q4 D _ ea, Nat.le_succ_of_le la, q5 _ kk, e.trans (kk.ex (del_ex D Ha) q4)⟩
  · intro Ha ⟨acc, ea, la, r, e⟩
    refine k acc (del D Ha) la r e (by unfold del; rw [if_pos rfl]) Ha (del_ex D Ha) ea
theorem dcW (w : Walk J n G Y) {g : TG} {tt : TT} {tk tv : TE} {vs : List Nat} {σ : L2.St} {H1 : Hp} {D : Addr} {Qd : Hp → Prop} (hD : H1 D = none) (R : Nat → List (Key × V) → Hp → Prop) (hn : n ≤ 50000) (h0 : R 0 [] H1) (hG : ∀ H', Ex H1 H' → G H')
    (turn : ∀ i acc H Ha, i < n → R i acc H → Ex H1 H → Ex H Ha → ∀ (C : V → V → Hp → Prop) (C0 : Hp → Prop), (∀ k z H4, Ex Ha H4 → (∀ H5, Kp H Ha H4 H5 → R (i + 1) (putK acc k z) H5) → C (kV k) z H4) → (∀ H4, Ex Ha H4 → (∀ H5, Kp H Ha H4 H5 → R (i + 1) acc H5) → C0 H4) →
      ∀ x Hb, Y i Ha x Hb → g x (wipe σ vs) Hb fun σ2 H2 => wipe σ2 vs = wipe σ vs ∧ tt σ2 H2 fun b H3 => if b = true then tk σ2 H3 fun y H4 => tv σ2 H4 (C y) else C0 H3)
    (k : ∀ acc H', acc.length ≤ n → R n acc H' → Ex H1 H' → H' D = none → ∀ H2, Ex H' H2 → H2 D = some (.dK acc) → Qd H2) :
    ∃ W : Nat → Nat → Hp → Prop, (∃ m, W 0 m (upd H1 D (.dK []))) ∧ ∀ i m H, W i m H →
      (J.stop i H ∧ Qd H) ∨ (J.go i H ∧ ∃ Nx : Hp → Prop, (∀ H', Nx H' → ∃ m', m' < m ∧ W (i + 1) m' H') ∧ ∀ x H', J.yld i H x H' → g x (wipe σ vs) H' fun σ2 H2 => wipe σ2 vs = wipe σ vs ∧ tt σ2 H2 fun b H3 =>
        if b = true then tk σ2 H3 fun y H4 => tv σ2 H4 fun z H5 => ∃ kvs k, y = kV k ∧ H5 D = some (.dK kvs) ∧ kvs.length < sizeLine ∧ Nx (upd H5 D (.dK (putK kvs k z))) else Nx H3) := by
  refine ⟨fun i m Ha => m = n - i ∧ i ≤ n ∧ ∃ acc, Ha D = some (.dK acc) ∧ acc.length ≤ i ∧ R i acc (del D Ha) ∧ Ex H1 (del D Ha), ⟨n, by simp, Nat.zero_le _, [], upd_same, Nat.le_refl _, ?_, ?_⟩, ?_⟩
  · rw [del_upd hD]
    exact h0
  · rw [del_upd hD]
    exact Ex.refl _
  rintro i m Ha ⟨rfl, hi, acc, ea, la, r, e⟩
  have qG := hG Ha (e.trans (del_ex D Ha))
  by_cases hlt : i < n
  · refine .inr ⟨w.goes i Ha hlt qG, fun H' => (n - (i + 1) = n - (i + 1) ∧ i + 1 ≤ n ∧ ∃ acc, H' D = some (.dK acc) ∧ acc.length ≤ i + 1 ∧ R (i + 1) acc (del D H') ∧ Ex H1 (del D H')), fun H' p' => ⟨n - (i + 1), by omega, p'⟩, fun x Hb y => ?_⟩
    refine turn i acc (del D Ha) Ha hlt r e (del_ex D Ha) _ _ (fun k z H5 e5 q6 => ?_) (fun H3 e3 q6 => ?_) x Hb (w.yields i Ha x Hb hlt qG y)
    · have kp := kp_del (D := D) (H4 := H5) (o := .dK (putK acc k z)) (.inr ⟨_, ea⟩) e5
      exact ⟨acc, k, rfl, e5 D _ ea, Nat.lt_of_le_of_lt la (Evl.sz_lt (by omega)), rfl, hlt, putK acc k z, upd_same, by have := length_putK acc k z; omega, q6 _ kp, e.trans (kp.ex (del_ex D Ha) e5)⟩
    · have kk := kp_del0 (D := D) (H4 := H3) (Ha := Ha) (.inr ⟨_, ea⟩) e3
      exact ⟨rfl, hlt, acc, e3 D _ ea, Nat.le_succ_of_le la, q6 _ kk, e.trans (kk.ex (del_ex D Ha) e3)⟩
  · have e2 : i = n := by omega
    subst e2
    exact .inl ⟨w.stops Ha qG, k acc (del D Ha) la r e (by unfold del; rw [if_pos rfl]) Ha (del_ex D Ha) ea⟩
end
theorem yes {σ : L2.St} {H : Hp} {A B : Hp → Prop} (h : A H) : tYes σ H (fun b H3 => if b = true then A H3 else B H3) := by
  show if true = true then A H else B H
  rw [if_pos rfl]
  exact h
/-- each item kept or dropped by p, told by f -/
theorem lcFM {J : It} {G : Hp → Prop} {xs : List V} (w : Walk J xs.length G (YAt xs)) {g : TG} {tt : TT} {te : TE} {vs : List Nat} {σ : L2.St} {H1 : Hp} {D : Addr} {Qd : Hp → Prop} (hD : H1 D = none) (p : V → Bool) (f : V → V) (hn : xs.length ≤ 50000) (hG : ∀ H', Ex H1 H' → G H')
    (turn : ∀ (i : Nat) x Ha, xs[i]? = some x → Ex H1 Ha → ∀ (C : VK) (C0 : Hp → Prop), (p x = true → ∀ H4, Ex Ha H4 → C (f x) H4) → (p x = false → ∀ H4, Ex Ha H4 → C0 H4) →
      g x (wipe σ vs) Ha fun σ2 H2 => wipe σ2 vs = wipe σ vs ∧ tt σ2 H2 fun b H3 => if b = true then te σ2 H3 C else C0 H3)
    (k : ∀ H2, Ex H1 H2 → H2 D = some (.lst ((xs.filter p).map f)) → Qd H2) :
    ∃ W : Nat → Nat → Hp → Prop, (∃ m, W 0 m (upd H1 D (.lst []))) ∧ ∀ i m H, W i m H →
      (J.stop i H ∧ Qd H) ∨ (J.go i H ∧ ∃ Nx : Hp → Prop, (∀ H', Nx H' → ∃ m', m' < m ∧ W (i + 1) m' H') ∧ ∀ x H', J.yld i H x H' → g x (wipe σ vs) H' fun σ2 H2 => wipe σ2 vs = wipe σ vs ∧ tt σ2 H2 fun b H3 =>
        if b = true then te σ2 H3 fun y H4 => ∃ acc, H4 D = some (.lst acc) ∧ acc.length < sizeLine ∧ Nx (upd H4 D (.lst (acc ++ [y]))) else Nx H3) := by
  refine lcW w hD (fun i acc _ => acc = ((xs.take i).filter p).map f) hn rfl hG ?_ ?_
  · intro i acc Hi Ha hi r e1 e2 C C0 hC hC0 x Hb y
    obtain ⟨rfl, hx⟩ := y
    have et : xs.take (i + 1) = xs.take i ++ [x] := by rw [List.take_add_one, hx] <;> rfl
    refine turn i x _ hx (e1.trans e2) C C0 (fun hp H4 e4 => hC _ _ e4 fun H5 _ => ?_) (fun hp H4 e4 => hC0 _ e4 fun H5 _ => ?_)
    · rw [et, List.filter_append, List.map_append, r, List.filter_cons, if_pos hp] <;> rfl
    · rw [et, List.filter_append, List.map_append, r, List.filter_cons, if_neg (by rw [hp]; exact Bool.false_ne_true)]
      simp
  · intro acc H' _ r e _ H2 e2 hs
    refine k H2 (e.trans e2) ?_
    rw [hs, r, List.take_length]
theorem lcM {J : It} {G : Hp → Prop} {xs : List V} (w : Walk J xs.length G (YAt xs)) {g : TG} {te : TE} {vs : List Nat} {σ : L2.St} {H1 : Hp} {D : Addr} {Qd : Hp → Prop} (hD : H1 D = none) (f : V → V) (hn : xs.length ≤ 50000) (hG : ∀ H', Ex H1 H' → G H')
    (turn : ∀ (i : Nat) x Ha, xs[i]? = some x → Ex H1 Ha → ∀ (C : VK), (∀ H4, Ex Ha H4 → C (f x) H4) → g x (wipe σ vs) Ha fun σ2 H2 => wipe σ2 vs = wipe σ vs ∧ te σ2 H2 C)
    (k : ∀ H2, Ex H1 H2 → H2 D = some (.lst (xs.map f)) → Qd H2) (mg : ∀ x σ1 Hb (P P' : L2.St → Hp → Prop), (∀ a b, P a b → P' a b) → g x σ1 Hb P → g x σ1 Hb P' := by intro _ _ _ _ _ h q; exact h _ _ q) :
    ∃ W : Nat → Nat → Hp → Prop, (∃ m, W 0 m (upd H1 D (.lst []))) ∧ ∀ i m H, W i m H →
      (J.stop i H ∧ Qd H) ∨ (J.go i H ∧ ∃ Nx : Hp → Prop, (∀ H', Nx H' → ∃ m', m' < m ∧ W (i + 1) m' H') ∧ ∀ x H', J.yld i H x H' → g x (wipe σ vs) H' fun σ2 H2 => wipe σ2 vs = wipe σ vs ∧ tYes σ2 H2 fun b H3 =>
        if b = true then te σ2 H3 fun y H4 => ∃ acc, H4 D = some (.lst acc) ∧ acc.length < sizeLine ∧ Nx (upd H4 D (.lst (acc ++ [y]))) else Nx H3) := by
  refine lcFM w hD (fun _ => true) f hn hG (fun i x Ha hx e C C0 hC _ => ?_) (fun H2 e h2 => k H2 e ?_)
  · exact mg _ _ _ _ _ (fun σ2 H2 q => ⟨q.1, yes q.2⟩) (turn i x Ha hx e C fun H4 e4 => hC rfl H4 e4)
  · rw [h2, List.filter_eq_self.mpr fun _ _ => rfl]
end SfW
/-! sets of ints and texts made from a list, and sorted -/
namespace SfW
open PySem PySem.Spec PyProof.Rows L2
def keyM (e : Int × Value) : Key := match e.2 with
  | .int k _ => .inl k
  | .str x _ => .inr x
  | _ => .inl 0
def inK (ks : List Key) (j : Key) : Bool := ks.any fun x => decide (j = x)
theorem inK_iff {ks : List Key} {j : Key} : inK ks j = true ↔ j ∈ ks := by
  unfold inK
  rw [List.any_eq_true]
  exact ⟨fun ⟨x, h1, h2⟩ => (of_decide_eq_true h2) ▸ h1, fun h => ⟨j, h, decide_eq_true rfl⟩⟩
def GoodM (w : World) (e : Int × Value) : Prop := ∃ k : Key, keyIs k e.2 = true ∧ e.1 = keyH w k
theorem keyM_of {k : Key} {e : Int × Value} (h : keyIs k e.2 = true) : keyM e = k := by
  rcases keyIs_shape h with ⟨i, t, rfl, e1⟩ | ⟨x, t, rfl, e1⟩ <;> (unfold keyM; rw [e1])
/-- what stands at a: a set whose members' keys are those of S -/
def SetM (w : World) (h : Heap) (a : Addr) (S : Key → Bool) (n : Nat) : Prop :=
  ∃ ob es ep t, h.get? a = some ob ∧ ob.ExactSet ∧ ob.data = .set es ep t ∧ (∀ e ∈ es.toList, GoodM w e) ∧ (es.toList.map keyM).Nodup ∧ (∀ k, S k = true ↔ k ∈ es.toList.map keyM) ∧
    es.size < scanBound ∧ t.fits es.size = true ∧ es.size = n ∧ Ris t.place.toList ∧ (w.params.followText "set-order" = true ∨ t.led = true)
section
variable {P : Program} {w : World} {A : Around} {E : Value → Shared → Prop} {s : Shared} {h h' : Heap} {a : Addr} {S : Key → Bool} {n : Nat}
theorem SetM.move (R : SetM w h a S n) (k : ∀ o, h.get? a = some o → h'.get? a = some o) : SetM w h' a S n := by
  obtain ⟨ob, es, ep, t, q, r⟩ := R
  exact ⟨ob, es, ep, t, k ob q, r⟩
theorem SetM.same {S' : Key → Bool} (R : SetM w h a S n) (e : ∀ k, S' k = S k) : SetM w h a S' n := by
  rw [show S' = S from funext e]
  exact R
theorem goodM_scan {e : Int × Value} (g : GoodM w e) : e.2.scannable = true := by
  obtain ⟨k, h1, _⟩ := g
  rcases keyIs_shape h1 with ⟨i, t, _, e1⟩ | ⟨x, t, _, e1⟩ <;> (rw [e1]; rfl)
theorem goodM_elems {l : List (Int × Value)} (g : ∀ e ∈ l, GoodM w e) : ElemsOf (mixKind P w) l := fun e he => by
  obtain ⟨k, h1, h2⟩ := g e he
  exact ⟨⟨k, h1, h2⟩, goodM_scan (g e he)⟩
theorem goodM_is {e : Int × Value} (g : GoodM w e) (k : Key) : (mixKind P w).is k e.2 = true ↔ keyM e = k := by
  obtain ⟨k0, h1, _⟩ := g
  have e0 := keyM_of h1
  constructor
  · intro h2
    exact keyM_of h2
  · intro h2
    rw [← h2, e0]
    exact h1
theorem goodM_mem {l : List (Int × Value)} (g : ∀ e ∈ l, GoodM w e) (k : Key) : k ∈ l.map keyM ↔ ∃ e ∈ l, (mixKind P w).is k e.2 = true := by
  rw [List.mem_map]
  constructor
  · rintro ⟨e, he, hk⟩
    exact ⟨e, he, (goodM_is (g e he) k).2 hk⟩
  · rintro ⟨e, he, hk⟩
    exact ⟨e, he, (goodM_is (g e he) k).1 hk⟩
theorem setM_tail {gv : Bool → Sem Unit} (hgv : ∀ (b : Bool) (s₁ : Shared) (Q' : Unit → Shared → Prop), Q' () s₁ → wpAny (model P w) A (gv b) Q' E s₁)
    {ob : Obj} {es : Array (Int × Value)} {ep : Nat} {t : SetTable} (ho : s.heap.get? a = some ob) (hex : ob.ExactSet) (hd : ob.data = .set es ep t)
    {fs : Array (Int × Value)} {u : SetTable} {S' : Key → Bool} (g1 : ∀ e ∈ fs.toList, GoodM w e) (nd1 : (fs.toList.map keyM).Nodup) (m1 : ∀ k, S' k = true ↔ k ∈ fs.toList.map keyM)
    (hb1 : fs.size < scanBound) (hf2 : u.fits fs.size = true) (hr : Ris u.place.toList) (hl : w.params.followText "set-order" = true ∨ u.led = true) {wasDummy : Bool} {R : Option Bool → Shared → Prop}
    (hR : ∀ g', Heap.SameBut a s.heap g' → SetM w g' a S' fs.size → R (some true) { s with heap := g' }) :
    wpAny (model P w) A (do
        storeSet a fs u
        if (!wasDummy && u.tooFull) = true then do
            gv (relayAll u fs (SetTable.grown fs.size)).2.2
            storeSet a (relayAll u fs (SetTable.grown fs.size)).1 (relayAll u fs (SetTable.grown fs.size)).2.1
            pure (some true)
          else pure (some true)) R E s := by
  refine wpAny_bind (wpAny_storeSet_of ho hd ?_ (fits_of_scanBound hb1))
  have at1 := store_at (es' := fs) (t' := u) ho hd
  have but1 := Heap.SameBut.update s.heap a (Obj.putSet fs u)
  split
  · have pm := relayAll_perm u fs (SetTable.grown fs.size)
    have f3 := relayAll_fits u fs (SetTable.grown fs.size)
    have r3 := relayAll_ris u fs (SetTable.grown fs.size)
    have l3 := relayAll_led u fs (SetTable.grown fs.size)
    generalize relayAll u fs (SetTable.grown fs.size) = Z at pm f3 r3 l3 ⊢
    obtain ⟨gs, t3, gave⟩ := Z
    dsimp only at pm f3 r3 l3 ⊢
    have sz : gs.size = fs.size := by rw [← Array.length_toList, pm.length_eq, Array.length_toList]
    have b2 : gs.size < scanBound := by rw [sz]; exact hb1
    refine wpAny_bind (hgv _ _ _ (wpAny_bind (wpAny_storeSet_of at1 rfl ?_ (fits_of_scanBound b2))))
    have at2 := store_at (es' := gs) (t' := t3) at1 rfl
    refine wpAny_pure (hR _ (but1.trans (Heap.SameBut.update _ a _)) ⟨_, gs, _, t3, at2, hex, rfl, fun e he => g1 e (pm.mem_iff.mp he), (pm.map keyM).nodup_iff.mpr nd1, fun k => (m1 k).trans (pm.map keyM).mem_iff.symm, b2, f3, sz, r3, ?_⟩)
    exact hl.imp id fun z => by rw [l3]; exact z
  · exact wpAny_pure (hR _ but1 ⟨_, fs, _, u, at1, hex, rfl, g1, nd1, m1, hb1, hf2, rfl, hr, hl⟩)
theorem setM_add {k : Key} {v : Value} {Q : Bool → Shared → Prop} (hkey : keyIs k v = true) (R : SetM w s.heap a S n) (room : n + 1 < scanBound)
    (hQ : ∀ g' c, Heap.SameBut a s.heap g' → SetM w g' a (fun j => S j || decide (j = k)) c → c ≤ n + 1 → Q (!S k) { s with heap := g' }) :
    wpAny (model P w) A (setAddHashed a v (keyH w k)) Q E s := by
  obtain ⟨ob, es, ep, t, ho, hex, hd, g, nd, hm, hb, hf, hn, hr, hl⟩ := R
  have hsc : v.scannable = true := by rcases keyIs_shape hkey with ⟨i, q, _, e1⟩ | ⟨x, q, _, e1⟩ <;> (rw [e1]; rfl)
  have hel : ElemsOf (mixKind P w) es.toList := goodM_elems g
  have hkm : (mixKind P w).is k v = true := hkey
  unfold setAddHashed setAddHashedIn
  refine wpAny_holding (wpAny_bind (wpAny_setState_of ho hd hf ?_))
  dsimp only
  rw [byScan_of hsc hb hel]
  simp only [↓reduceIte]
  unfold setAddByScan
  refine wpAny_bind (wpAny_bind (wpAny_rule (wpAny_bind (wpAny_setScan_of hkm ho hd hf hel ?_))))
  cases hfi : List.findIdx? (fun e => (mixKind P w).is k e.2) es.toList with
  | some j =>
    dsimp only
    obtain ⟨hj, pj, _⟩ := List.findIdx?_eq_some_iff_getElem.mp hfi
    have there : S k = true := (hm k).2 ((goodM_mem (P := P) (w := w) g k).2 ⟨es.toList[j], List.getElem_mem hj, pj⟩)
    have q := hQ s.heap n (Heap.SameBut.refl a s.heap) ⟨ob, es, ep, t, ho, hex, hd, g, nd, fun i => by
      rw [Bool.or_eq_true, decide_eq_true_eq, ← hm i]
      exact ⟨fun z => z.elim id (fun e => e ▸ there), .inl⟩, hb, hf, hn, hr, hl⟩ (Nat.le_succ n)
    rw [there] at q
    exact wpAny_pure (wpAny_pure q)
  | none =>
    dsimp only
    have notIn : k ∉ es.toList.map keyM := fun z => by
      obtain ⟨e, he, q⟩ := (goodM_mem (P := P) (w := w) g k).1 z
      have c := List.findIdx?_eq_none_iff.mp hfi e he
      rw [q] at c
      cases c
    have away : S k = false := by
      cases q : S k with
      | false => rfl
      | true => exact absurd ((hm k).1 q) notIn
    have gives : ∀ (b : Bool) {s₁ : Shared} {Q' : Unit → Shared → Prop}, Q' () s₁ → wpAny (model P w) A (match b with | true => rule "set.scan.the-table-gave-way" | false => pure ()) Q' E s₁ :=
      fun b s₁ Q' q => by cases b <;> first | exact wpAny_pure q | exact wpAny_rule q
    have pm := layNew_perm t es (keyH w k) v
    have f1 := layNew_fits t es (keyH w k) v
    have r1 := layNew_ris t es (keyH w k) v hr
    have l1 := layNew_led t es (keyH w k) v
    generalize layNew t es (keyH w k) v = Z at pm f1 r1 l1 ⊢
    obtain ⟨fs, t1, wasDummy, gave⟩ := Z
    dsimp only at pm f1 r1 l1 ⊢
    rw [Array.toList_push] at pm
    have pc : fs.toList.Perm ((keyH w k, v) :: es.toList) := pm.trans (List.perm_append_singleton _ _)
    have pk : (fs.toList.map keyM).Perm (k :: es.toList.map keyM) := by
      have q := pc.map keyM
      rw [List.map_cons, keyM_of (e := (keyH w k, v)) hkey] at q
      exact q
    have g1 : ∀ e ∈ fs.toList, GoodM w e := fun e he => by
      rcases List.mem_cons.mp (pc.mem_iff.mp he) with z | z
      · rw [z]
        exact ⟨k, hkey, rfl⟩
      · exact g e z
    have nd1 : (fs.toList.map keyM).Nodup := pk.nodup_iff.mpr (List.nodup_cons.mpr ⟨notIn, nd⟩)
    have m1 : ∀ i, (S i || decide (i = k)) = true ↔ i ∈ fs.toList.map keyM := fun i => by
      rw [Bool.or_eq_true, decide_eq_true_eq, hm i, pk.mem_iff, List.mem_cons]
      exact Or.comm
    have sz : fs.size = n + 1 := by rw [← Array.length_toList, pc.length_eq, List.length_cons, Array.length_toList, hn]
    have b1 : fs.size < scanBound := by rw [sz]; exact room
    have led1 : w.params.followText "set-order" = true ∨ t1.led = true := hl.imp id fun z => by rw [l1]; exact z
    have fin : ∀ g', Heap.SameBut a s.heap g' → SetM w g' a (fun j => S j || decide (j = k)) fs.size → Q true { s with heap := g' } := fun g' sb r => by
      have q := hQ g' _ sb r (Nat.le_of_eq sz)
      rw [away] at q
      exact q
    refine wpAny_bind (gives _ ?_)
    split
    · refine wpAny_bind ?_
      rw [hashByValue_scannable 8 hsc]
      refine wpAny_pure ?_
      refine setM_tail ?_ ho hex hd g1 nd1 m1 b1 ?_ ?_ ?_ ?_
      · intro b s₁ Q' q
        exact gives b q
      · first | (split <;> first | exact f1 | exact SetTable.fits_plain_off f1) | exact f1
      · first | (split <;> exact r1) | exact r1
      · first | (split <;> exact led1) | exact led1
      · intro g' sb r
        dsimp only
        exact wpAny_pure (fin g' sb r)
    · refine wpAny_bind (wpAny_pure ?_)
      simp only [↓reduceIte]
      refine setM_tail ?_ ho hex hd g1 nd1 m1 b1 f1 r1 led1 ?_
      · intro b s₁ Q' q
        exact gives b q
      · intro g' sb r
        dsimp only
        exact wpAny_pure (fin g' sb r)
/-- the members' loop -/
theorem setM_update {I : Addr} {fp wr : List Addr} {G : Array GenState → Array GenState → Prop} {m : Nat} {Pv : Nat → Value → Prop} {St : Nat → Shared → Prop} {R : Result → Shared → Prop}
    (W : WalksS P w A.in1 I fp wr G m Pv St) (B : Addr) (hB : B ∉ fp) (ks : List Key) (hm : m = ks.length) (hb : ks.length + 1 < scanBound) (hval : ∀ i v, Pv i v → ∃ k, ks[i]? = some k ∧ keyIs k v = true) :
    ∀ (j i : Nat) (s : Shared), m - i = j → i ≤ m → St i s → (∃ c, c ≤ i ∧ SetM w s.heap B (fun j => inK (ks.take i) j) c) →
      (∀ s' c, Moved (B :: wr) G s s' → c ≤ m → SetM w s'.heap B (fun j => inK ks j) c → R (.ok (.ret .none)) s') →
      codeAny (model P w) A (.builtin "set.update.loop" ⟨[.ref B, .ref I], []⟩) R s := by
  have hBw : B ∉ wr := fun z => hB (W.sub _ z)
  have wider : ∀ b ∈ wr, b ∈ B :: wr := fun b z => List.mem_cons_of_mem _ z
  intro j
  induction j with
  | zero =>
    intro i s hj hi st ⟨c, hc, hS⟩ hR
    obtain rfl : i = m := by omega
    refine codeAny_builtin F.entry_set_update_loop ?_
    rw [Around.under_plainId F.plain_set_update_loop _]
    show wpAny _ A.in1 (pyNext (.ref I) >>= _) _ _ s
    refine wpAny_bind (W.done s _ _ st fun s2 mv => ?_)
    show wpAny _ A.in1 (ret Value.none) _ _ s2
    have e : ks.take i = ks := List.take_of_length_le (by omega)
    rw [e] at hS
    exact wpAny_pure (hR s2 c (mv.mono wider) hc (hS.move fun o q => mv.heap B o hBw q))
  | succ j ih =>
    intro i s hj hi st ⟨c, hc, hS⟩ hR
    have lt : i < m := by omega
    refine codeAny_builtin F.entry_set_update_loop ?_
    rw [Around.under_plainId F.plain_set_update_loop _]
    show wpAny _ A.in1 (pyNext (.ref I) >>= _) _ _ s
    refine wpAny_bind (W.item i s _ _ lt st fun v s2 hP st2 mv => ?_)
    obtain ⟨k, hk, hkv⟩ := hval i v hP
    have hS2 : SetM w s2.heap B (fun j => inK (ks.take i) j) c := hS.move fun o q => mv.heap B o hBw q
    show wpAny _ A.in1 (holding [v] (setAdd B v) >>= _) _ _ s2
    refine wpAny_bind (wpAny_holding ?_)
    unfold setAdd
    refine wpAny_holding (wpAny_bind ((mixKind P w).pyHash (k := k) hkv ?_))
    refine setM_add (s := { s2 with toks := s2.toks + 1 }) hkv hS2 (by omega) fun g' c2 sb hS3 hc2 => ?_
    have hS4 : SetM w g' B (fun j => inK (ks.take (i + 1)) j) c2 := hS3.same fun j => by
      unfold inK
      rw [List.take_add_one, hk, List.any_append]
      simp
    refine wpAny_pure ⟨plainId_quiet F.plain_set_update_loop _, ih (i + 1) _ (by omega) lt (W.frame _ s2 _ _ st2 (Nat.le_succ _) fun b hb o e => ?_) ⟨_, by omega, hS4⟩ fun s3 c3 mv3 hc3 hS5 => ?_⟩
    · rw [sb.2 b (fun z : b = B => hB (by rw [← z]; exact hb))]
      exact e
    · refine hR s3 c3 (Moved.trans W.gtrans ((mv.mono wider).then_heap (Nat.le_succ _) fun b o hb e => ?_) mv3) hc3 hS5
      rw [sb.2 b (fun z : b = B => hb (by rw [z]; exact List.mem_cons_self))]
      exact e
theorem setM_fresh {ks : List Key} (ho : h.get? a = some { cls := .type "set", dict := none, data := .set #[] 0 (.fresh 0 0 (!w.params.followText "set-order")) }) : SetM w h a (fun j => inK (ks.take 0) j) 0 :=
  ⟨_, #[], 0, _, ho, ⟨rfl, rfl, rfl⟩, rfl, (fun e he => by simp at he), (by simp), (fun k => by simp [inK]), (by decide), (by rfl), rfl, List.Pairwise.nil, by
    show _ ∨ (!w.params.followText "set-order") = true
    cases w.params.followText "set-order" <;> simp⟩

theorem SetM.count (R : SetM w h a S n) (l : List Key) (hl : l.Nodup) (hk : ∀ k, k ∈ l ↔ S k = true) : n = l.length := by
  obtain ⟨o, es, ep, t, ho, hex, hd, g, nd, hm, hb, hf, hn, hr, _⟩ := R
  have p : l.Perm (es.toList.map keyM) := (List.perm_ext_iff_of_nodup hl nd).mpr fun k => by rw [hk k, hm k]
  rw [p.length_eq, List.length_map, Array.length_toList, hn]
abbrev set0 (w : World) : Obj := { cls := .type "set", dict := none, data := .set #[] 0 (.fresh 0 0 (!w.params.followText "set-order")) }
set_option maxRecDepth 100000 in
set_option maxHeartbeats 3200000 in
/-- set(a list) -/
theorem call_setM {l : Addr} {items : Array Value} (ks : List Key) {Q : Value → Shared → Prop} (hh : A.handled = none) (hl : s.heap.IsList l items) (hit : Paired (fun k v => keyIs k v = true) ks items.toList) (hb : ks.length + 1 < scanBound)
    (fin : ∀ (g' : Heap) (tk c : Nat), SetM w g' s.heap.objs.size (inK ks) c → c ≤ ks.length → (∀ b o, s.heap.get? b = some o → g'.get? b = some o) → Q (.ref s.heap.objs.size) { s with heap := g', toks := tk }) :
    wpAny (model P w) A (call (.type "set") [.ref l]) Q E s := by
  have size : items.size = ks.length := by
    have q := Paired.length hit
    rw [Array.length_toList] at q
    exact q.symm
  obtain ⟨c0, tl, hmro⟩ := F.called_set.mro
  have hmade := F.called_set.made
  have hsub := F.called_set.sub
  refine wpAny_call (codeAny_of_tree ?_)
  show wpAny _ _ (callAny (.type "set") _) _ _ _
  refine wpAny_pure ⟨Code.quiet_builtin _ (by decide +kernel), codeAny_builtin F.entry_type_call ?_⟩
  rw [Around.under_plain (weight_type_call_type "set" [.ref l] []) rfl]
  have h1 := F.called_set.notType
  have h2 := F.called_set.canCreate
  have hct := F.typeCall_set_1 (.ref l)
  repeat (any_goals (first | assumption | wp_step))

  refine codeAny_mono (code_set_led1 (.ref l) (E := E) (Q₁ := fun v s₁ => v = .ref s.heap.objs.size ∧ s₁ = { s with heap := s.heap.push (set0 w) }) ⟨rfl, rfl⟩) fun r s₁ hr => ?_
  cases r with
  | error e => exact hr
  | ok fl =>
    cases fl with
    | ret v =>
      obtain ⟨rfl, rfl⟩ := hr
      have laid : (s.heap.push (set0 w)).get? s.heap.objs.size = some (set0 w) := Heap.get?_push_size _ rfl
      have hT : Shared.TypeIs { s with heap := s.heap.push (set0 w) } (.ref s.heap.objs.size) "set" := ⟨_, laid, rfl⟩
      have hli := F.called_set.init.lookup
      have hbi := F.called_set.init.bind (.ref s.heap.objs.size)
      repeat (any_goals (first | assumption | wp_step))

      refine codeAny_mono (codeAny_call_builtin (R := wants (fun r s₂ => r = .none ∧ ∃ g' tk c, s₂ = { s with heap := g', toks := tk } ∧ SetM w g' s.heap.objs.size (inK ks) c ∧ c ≤ ks.length ∧ (∀ b o, s.heap.get? b = some o → g'.get? b = some o)) E)
        F.called_set.init.plain F.entry_set_init (check_set_init_1 hT ?_)) fun r₂ s₂ hr₂ => ?_
      · obtain ⟨ol, hol, hcl, nl, hdl⟩ := hl
        obtain ⟨ocls, odict, odata, oslots⟩ := ol
        simp only at hcl hdl
        subst hcl; subst hdl
        have there : (s.heap.push (set0 w)).get? l = some { cls := .type "list", dict := odict, data := .seq items nl, slots := oslots } := Heap.get?_push_of_some _ hol
        have hsls := F.sub_list_set
        have hslf := F.sub_list_frozenset
        have hne : (Value.type "list" == Value.type "dict") = false := by decide
        have isl : (s.heap.push (set0 w)).IsList l items := ⟨_, there, rfl, nl, rfl⟩
        unfold Builtin.«set.__init__» noKeywords Builtin.Frozenset.updateFrom
        generalize hPI : pyIter = PI
        wp_walk
        subst hPI

        refine wpAny_pyIter_list isl ?_
        refine wpAny_bind (wpAny_runValue ?_)
        have below : l < s.heap.objs.size := Heap.lt_size hol
        have quiet : A.in1.in1.in1.handled = none := by simp [hh]
        have sz1 : (s.heap.push (set0 w)).objs.size = s.heap.objs.size + 1 := Heap.size_push ..
        have neI : l ≠ (s.heap.push (set0 w)).objs.size := by
          rw [sz1]
          exact Nat.ne_of_lt (Nat.lt_succ_of_lt below)
        have out : s.heap.objs.size ∉ [(s.heap.push (set0 w)).objs.size, l] := by
          rw [sz1]
          simp only [List.mem_cons, List.mem_singleton, List.not_mem_nil, or_false, not_or]
          exact ⟨Nat.ne_of_lt (Nat.lt_succ_self _), Nat.ne_of_gt below⟩
        have val : ∀ (i : Nat) (v : Value), items[i]? = some v → ∃ k, ks[i]? = some k ∧ keyIs k v = true := fun i v hv => by
          have hi : i < ks.length := by rw [← size]; exact (Array.getElem?_eq_some_iff.mp hv).1
          obtain ⟨u, hu, r⟩ := paired_get hit (List.getElem?_eq_getElem hi)
          rw [Array.getElem?_toList, hv] at hu
          cases hu
          exact ⟨_, List.getElem?_eq_getElem hi, r⟩
        refine setM_update ((Walks.list quiet _ l neI items).toS) s.heap.objs.size
          out ks size hb val (items.size - 0) 0 _ (by omega) (Nat.zero_le _)
          ⟨⟨_, Heap.get?_push_size _ rfl, rfl, rfl⟩, (isl.push _)⟩ ⟨0, Nat.le_refl 0, setM_fresh (Heap.get?_push_of_some _ laid)⟩ ?_
        intro s3 c3 mv hc3 hS3
        obtain ⟨g3, gn, dr, tk, os⟩ := s3
        obtain rfl : gn = s.gens := mv.gens
        obtain rfl : dr = s.drawn := mv.drawn
        obtain rfl : os = s.os := mv.os
        show wpAny _ _ _ _ _ _
        refine wpAny_pure ?_
        show wpAny _ _ (ret Value.none) _ _ _
        rw [size] at hc3
        refine wpAny_pure ⟨rfl, g3, tk, c3, rfl, hS3, hc3, fun b o e => ?_⟩
        have lt0 : b < s.heap.objs.size := Heap.lt_size e
        have ne2 : b ≠ (s.heap.push (set0 w)).objs.size := by
          rw [sz1]
          exact Nat.ne_of_lt (Nat.lt_succ_of_lt lt0)
        exact mv.heap b o (by simp only [List.mem_cons, List.mem_singleton, List.not_mem_nil, or_false, not_or]; exact ⟨Nat.ne_of_lt lt0, ne2⟩) (Heap.get?_push_of_some _ (Heap.get?_push_of_some _ e))

      · cases r₂ with
        | error e => exact hr₂
        | ok fl₂ =>
          cases fl₂ with
          | ret r =>
            obtain ⟨rfl, g3, tk, c3, rfl, hS3, hc3, kk⟩ := hr₂
            repeat (any_goals (first | assumption | wp_step))
            exact fin _ _ _ hS3 hc3 kk
          | _ => exact hr₂.elim
    | _ => exact hr.elim
end
/-! ### over the layer -/
def SetMO (w : World) (a : Addr) (S : Key → Bool) (n : Nat) : HO := .ext fun h => SetM w h a S n
/-- set(xs), xs a list of ints and texts -/
def rSetM (K : PySem.W.Frag) (w : World) : List V → Hp → VK → Prop := fun vs H Q => ∃ (l : Addr) (ks : List Key), vs = [V.ref l] ∧ SqL K H l (ks.map kV) ∧ ks.length ≤ 200 ∧
  ∀ p c, H p = none → c ≤ ks.length → (∀ l : List Key, l.Nodup → (∀ k, k ∈ l ↔ k ∈ ks) → c = l.length) → Q (.ref p) (upd H p (SetMO w p (inK ks) c))
theorem keys_vals : ∀ {ks : List Key} {us : List Value}, Vals (ks.map kV) us → Paired (fun k v => keyIs k v = true) ks us
  | [], _, .nil => .nil
  | .inl i :: ks, _, .cons r t => by
    obtain ⟨tk, rfl⟩ := r
    exact .cons (keyIs_int i tk) (keys_vals t)
  | .inr x :: ks, _, .cons r t => by
    obtain ⟨tk, rfl⟩ := r
    exact .cons (keyIs_str x tk) (keys_vals t)
section
variable {X : Cx}
theorem cr_setM (hc : X.calm = true) : CallR X (.type "set") (rSetM X.K X.w) := by
  intro pins s σ H vs us Q I r h
  obtain ⟨l, ks, rfl, hs, hn, q⟩ := h
  obtain ⟨its, rv, hl, _⟩ := I.list hs
  rw [Vals.ref1 r]
  refine call_setM ks (I.ok.hd hc) hl.isList (by simpa using keys_vals rv) (by unfold scanBound; omega) fun g' tk c hS hc' kk => ?_
  have new : ObjOk X.prog X.w (upd H s.heap.objs.size (SetMO X.w s.heap.objs.size (inK ks) c)) g' s.heap.objs.size (SetMO X.w s.heap.objs.size (inK ks) c) := by
    have ⟨o, _, _, _, ho, _⟩ := hS
    exact ⟨hS, ⟨o, ho⟩, fun h1 h2 p k => SetM.move p k⟩
  exact ⟨.ref _, upd H s.heap.objs.size (SetMO X.w s.heap.objs.size (inK ks) c), I.laid (t' := tk) kk (Nat.le_refl _) new, rfl, q _ c (I.hok.fresh (Nat.le_refl _)) hc' fun l nd hk => hS.count l nd fun k => by rw [hk k, inK_iff]⟩
end
end SfW
/-! sorted(set), len(set) -/
namespace SfW
open PySem PySem.Spec PyProof.Rows L2
theorem rel_perm {α β : Type} {G : α → β → Prop} {xs : List α} {us vs : List β} (p : us.Perm vs) : Paired G xs vs → ∃ ys, ys.Perm xs ∧ Paired G ys us := by
  intro h
  induction p generalizing xs with
  | nil => exact ⟨xs, List.Perm.refl _, h⟩
  | cons v p ih =>
    cases h with
    | cons r t =>
      obtain ⟨ys, h1, h2⟩ := ih t
      exact ⟨_ :: ys, h1.cons _, .cons r h2⟩
  | swap a b l =>
    cases h with
    | cons r t =>
      cases t with
      | cons r2 t2 => exact ⟨_, List.Perm.swap _ _ _, .cons r2 (.cons r t2)⟩
  | trans p1 p2 i1 i2 =>
    obtain ⟨ys, h1, h2⟩ := i2 h
    obtain ⟨zs, h3, h4⟩ := i1 h2
    exact ⟨zs, h3.trans h1, h4⟩
theorem goodM_pair {w : World} : ∀ {l : List (Int × Value)}, (∀ e ∈ l, GoodM w e) → Paired (fun k v => keyIs k v = true) (l.map keyM) (l.map (·.2))
  | [], _ => .nil
  | e :: l, g => by
    obtain ⟨k, h1, _⟩ := g e List.mem_cons_self
    have e0 := keyM_of h1
    rw [List.map_cons, List.map_cons, e0]
    exact .cons h1 (goodM_pair fun x hx => g x (List.mem_cons_of_mem _ hx))
theorem strs_pair : ∀ {ks : List Key} {us : List Value}, Paired (fun k v => keyIs k v = true) ks us → (∀ k ∈ ks, ∃ x, k = .inr x) → ∃ xs, ks = xs.map .inr ∧ StrsAre us xs
  | _, _, .nil, _ => ⟨[], rfl, .nil⟩
  | k :: ks, u :: us, .cons r t, h => by
    obtain ⟨xs, e, q⟩ := strs_pair t fun k' hk => h k' (List.mem_cons_of_mem _ hk)
    obtain ⟨x, rfl⟩ := h k List.mem_cons_self
    obtain ⟨tk, rfl⟩ := Value.isStrOf_shape (show Value.isStrOf x u = true from r)
    exact ⟨x :: xs, by rw [e] <;> rfl, .cons x tk q⟩
theorem ints_pair : ∀ {ks : List Key} {us : List Value}, Paired (fun k v => keyIs k v = true) ks us → (∀ k ∈ ks, ∃ x, k = .inl x) → ∃ xs, ks = xs.map .inl ∧ IntsAre us xs
  | _, _, .nil, _ => ⟨[], rfl, .nil⟩
  | k :: ks, u :: us, .cons r t, h => by
    obtain ⟨xs, e, q⟩ := ints_pair t fun k' hk => h k' (List.mem_cons_of_mem _ hk)
    obtain ⟨x, rfl⟩ := h k List.mem_cons_self
    obtain ⟨tk, rfl⟩ := Value.isInt_shape (show Value.isInt x u = true from r)
    exact ⟨x :: xs, by rw [e] <;> rfl, .cons x tk q⟩
theorem nodup_inj {α β : Type} {f : α → β} {l : List α} (h : (l.map f).Nodup) : l.Nodup := List.Pairwise.of_map f (fun _ _ hne e => hne (congrArg f e)) h
section
variable {P : Program} {w : World} {A : Around} {E : Value → Shared → Prop} {s : Shared} {a : Addr} {S : Key → Bool} {n : Nat}
theorem sortedMS {xs : List Str} {Q : Value → Shared → Prop} (R : SetM w s.heap a (inK (xs.map .inr)) n) (quiet : A.handled = none) (h64 : n < 64)
    (hQ : ∀ s' p (out : Array Value) (c : Nat) (ys : List Str), (∀ b o, s.heap.get? b = some o → s'.heap.get? b = some o) → s'.gens = s.gens → s'.os = s.os → s.heap.objs.size ≤ p →
      s'.heap.get? p = some (seqObj "list" out c) → StrsAre out.toList ys → sortedS ys = true → ys.Nodup → (∀ x, x ∈ ys ↔ x ∈ xs) → ys.length = n → Q (.ref p) s') :
    wpAny (model P w) A (call (.builtin "sorted") [.ref a]) Q E s := by
  obtain ⟨o, es, ep, t, ho, hex, hd, g, nd, hm, hb, hf, hn, hr, hl⟩ := R
  refine Calls.call_function_entry kind_sorted plain_sorted entry_sorted (args_sorted1 _) ?_
  unfold Builtin.«sorted»
  refine wpAny_bind (m := checkCount "sorted" 1 1 _) (wpAny_pure ?_)
  refine wpAny_bind (collect_set (A := A.in1) quiet ⟨o, ho, hex.1, hd⟩ hf hb hr hl fun s1 vs k1 hz g1 o1 pm => ?_)
  have vl : vs.length = n := by
    rw [pm.length_eq, List.length_map, Array.length_toList]
    exact hn
  obtain ⟨ks, pk, pr⟩ := rel_perm pm (goodM_pair g)
  have all : ∀ k ∈ ks, ∃ x, k = (.inr x : Key) := fun k hk => by
    have z := inK_iff.mp ((hm k).2 (pk.mem_iff.mp hk))
    obtain ⟨x, _, e⟩ := List.mem_map.mp z
    exact ⟨x, e.symm⟩
  obtain ⟨zs, ez, hI⟩ := strs_pair pr all
  refine wpAny_bind (wpAny_newList ?_ (by rw [vl, sizeLine_eq]; omega))
  have hoL : (s1.heap.push (seqObj "list" vs.toArray 0)).get? s1.heap.objs.size = some (seqObj "list" vs.toArray 0) := Heap.get?_push_size _ rfl
  refine wpAny_bind (wpAny_holding (wpAny_call_entry slot_list_sort ⟨_, hoL, rfl⟩ entry_list_sort (list_sort_treeK strKind_oneLt hoL hI.keysOf (fun v₁ v₂ rest e => keyKind_strs (by rw [← e]; exact hI)) (by rw [vl]; exact h64) fun st' hp hs => ⟨_, rfl, ?_⟩) (args_list_sort _)))
  obtain ⟨ys, a1, a2, a3⟩ := sorted_out_str hI hp hs
  obtain ⟨c, hc⟩ := sortedHeap_at (vs := vs) (out := (arrOf st').map (·.2)) hoL
  have nz : zs.Nodup := nodup_inj (f := (.inr : Str → Key)) (by rw [← ez]; exact pk.nodup_iff.mpr nd)
  refine wpAny_pure ⟨_, rfl, hQ _ s1.heap.objs.size _ c ys (fun b u e => ?_) g1 o1 hz hc a1 a3 (a2.nodup_iff.mpr nz) (fun x => ?_) ?_⟩
  · have q := k1 b u e
    have below := Heap.lt_size q
    show (sortedHeap (s1.heap.push (seqObj "list" vs.toArray 0)) s1.heap.objs.size vs _).get? b = some u
    rw [sortedHeap_old (Nat.ne_of_lt below) (by rw [size_push']; exact Nat.lt_succ_of_lt below)]
    exact Heap.get?_push_of_some _ q
  · rw [a2.mem_iff]
    have e1 : x ∈ zs ↔ (.inr x : Key) ∈ ks := by
      rw [ez, List.mem_map]
      exact ⟨fun h => ⟨x, h, rfl⟩, fun ⟨y, hy, e⟩ => (Sum.inr.inj e) ▸ hy⟩
    have e2 : x ∈ xs ↔ (.inr x : Key) ∈ xs.map (.inr : Str → Key) := by
      rw [List.mem_map]
      exact ⟨fun h => ⟨x, h, rfl⟩, fun ⟨y, hy, e⟩ => (Sum.inr.inj e) ▸ hy⟩
    rw [e1, e2, pk.mem_iff, ← hm, inK_iff]
  · rw [a2.length_eq]
    have z := congrArg List.length ez
    rw [List.length_map] at z
    rw [← z, pk.length_eq, List.length_map, Array.length_toList]
    exact hn
theorem sortedMI {xs : List Int} {Q : Value → Shared → Prop} (R : SetM w s.heap a (inK (xs.map .inl)) n) (quiet : A.handled = none) (h64 : n < 64)
    (hQ : ∀ s' p (out : Array Value) (c : Nat) (ys : List Int), (∀ b o, s.heap.get? b = some o → s'.heap.get? b = some o) → s'.gens = s.gens → s'.os = s.os → s.heap.objs.size ≤ p →
      s'.heap.get? p = some (seqObj "list" out c) → IntsAre out.toList ys → ys.Pairwise (· < ·) → (∀ x, x ∈ ys ↔ x ∈ xs) → ys.length = n → Q (.ref p) s') :
    wpAny (model P w) A (call (.builtin "sorted") [.ref a]) Q E s := by
  obtain ⟨o, es, ep, t, ho, hex, hd, g, nd, hm, hb, hf, hn, hr, hl⟩ := R
  refine Calls.call_function_entry kind_sorted plain_sorted entry_sorted (args_sorted1 _) ?_
  unfold Builtin.«sorted»
  refine wpAny_bind (m := checkCount "sorted" 1 1 _) (wpAny_pure ?_)
  refine wpAny_bind (collect_set (A := A.in1) quiet ⟨o, ho, hex.1, hd⟩ hf hb hr hl fun s1 vs k1 hz g1 o1 pm => ?_)
  have vl : vs.length = n := by
    rw [pm.length_eq, List.length_map, Array.length_toList]
    exact hn
  obtain ⟨ks, pk, pr⟩ := rel_perm pm (goodM_pair g)
  have all : ∀ k ∈ ks, ∃ x, k = (.inl x : Key) := fun k hk => by
    have z := inK_iff.mp ((hm k).2 (pk.mem_iff.mp hk))
    obtain ⟨x, _, e⟩ := List.mem_map.mp z
    exact ⟨x, e.symm⟩
  obtain ⟨zs, ez, hI⟩ := ints_pair pr all
  refine wpAny_bind (wpAny_newList ?_ (by rw [vl, sizeLine_eq]; omega))
  have hoL : (s1.heap.push (seqObj "list" vs.toArray 0)).get? s1.heap.objs.size = some (seqObj "list" vs.toArray 0) := Heap.get?_push_size _ rfl
  refine wpAny_bind (wpAny_holding (wpAny_call_entry slot_list_sort ⟨_, hoL, rfl⟩ entry_list_sort (list_sort_tree hoL hI (by rw [vl]; exact h64) fun out ys a1 a2 a3 => ⟨_, rfl, ?_⟩) (args_list_sort _)))
  obtain ⟨c, hc⟩ := sortedHeap_at (vs := vs) (out := out) hoL
  have nz : zs.Nodup := nodup_inj (f := (.inl : Int → Key)) (by rw [← ez]; exact pk.nodup_iff.mpr nd)
  refine wpAny_pure ⟨_, rfl, hQ _ s1.heap.objs.size _ c ys (fun b u e => ?_) g1 o1 hz hc a1 (lt_of_le_nodup ys a3 (a2.nodup_iff.mpr nz)) (fun x => ?_) ?_⟩
  · have q := k1 b u e
    have below := Heap.lt_size q
    show (sortedHeap (s1.heap.push (seqObj "list" vs.toArray 0)) s1.heap.objs.size vs _).get? b = some u
    rw [sortedHeap_old (Nat.ne_of_lt below) (by rw [size_push']; exact Nat.lt_succ_of_lt below)]
    exact Heap.get?_push_of_some _ q
  · rw [a2.mem_iff]
    have e1 : x ∈ zs ↔ (.inl x : Key) ∈ ks := by
      rw [ez, List.mem_map]
      exact ⟨fun h => ⟨x, h, rfl⟩, fun ⟨y, hy, e⟩ => (Sum.inl.inj e) ▸ hy⟩
    have e2 : x ∈ xs ↔ (.inl x : Key) ∈ xs.map (.inl : Int → Key) := by
      rw [List.mem_map]
      exact ⟨fun h => ⟨x, h, rfl⟩, fun ⟨y, hy, e⟩ => (Sum.inl.inj e) ▸ hy⟩
    rw [e1, e2, pk.mem_iff, ← hm, inK_iff]
  · rw [a2.length_eq]
    have z := congrArg List.length ez
    rw [List.length_map] at z
    rw [← z, pk.length_eq, List.length_map, Array.length_toList]
    exact hn
end
/-! ### over the layer -/
def rSortMS (w : World) : List V → Hp → VK → Prop := fun vs H Q => ∃ (a : Addr) (xs : List Str) (n : Nat), vs = [V.ref a] ∧ H a = some (SetMO w a (inK (xs.map .inr)) n) ∧ n < 64 ∧
  ∀ (ys : List Str) (p : Addr), sortedS ys = true → ys.Nodup → (∀ x, x ∈ ys ↔ x ∈ xs) → H p = none → Q (.ref p) (upd H p (.lst (ys.map V.str)))
def rSortMI (w : World) : List V → Hp → VK → Prop := fun vs H Q => ∃ (a : Addr) (xs : List Int) (n : Nat), vs = [V.ref a] ∧ H a = some (SetMO w a (inK (xs.map .inl)) n) ∧ n < 64 ∧
  ∀ (ys : List Int) (p : Addr), ys.Pairwise (· < ·) → (∀ x, x ∈ ys ↔ x ∈ xs) → H p = none → Q (.ref p) (upd H p (.lst (ys.map V.int)))
def rLenM (w : World) : List V → Hp → VK → Prop := fun vs H Q => ∃ (a : Addr) (ks l : List Key) (n : Nat), vs = [V.ref a] ∧ H a = some (SetMO w a (inK ks) n) ∧ l.Nodup ∧ (∀ k, k ∈ l ↔ k ∈ ks) ∧ l.length < 1000 ∧ Q (.int (l.length : Nat)) H
section
variable {X : Cx}
theorem setM_get {pins : List (Addr × Obj)} {σ : L2.St} {H : Hp} {s : Shared} {a : Addr} {S : Key → Bool} {n : Nat} (I : Inv X pins σ H s) (ha : H a = some (SetMO X.w a S n)) : SetM X.w s.heap a S n := (I.hok a _ ha).1
theorem newlist {pins : List (Addr × Obj)} {σ : L2.St} {H : Hp} {s s' : Shared} {p : Addr} {xs : List V} {its : Array Value} {c : Nat} {Q : VK} (I : Inv X pins σ H s) (k : ∀ b o, s.heap.get? b = some o → s'.heap.get? b = some o) (g : s'.gens = s.gens) (o : s'.os = s.os) (hp : s.heap.objs.size ≤ p)
    (hg : s'.heap.get? p = some (seqObj "list" its c)) (r : Vals xs its.toList) (hz : xs.length ≤ sizeLine) (q : H p = none → Q (.ref p) (upd H p (.lst xs))) : EP X pins σ Q (.ref p) s' := by
  have hn : H p = none := I.hok.fresh hp
  have J : Inv X pins σ (upd H p (.lst xs)) { s with heap := s'.heap, gens := s'.gens, drawn := s'.drawn, toks := s'.toks } :=
    I.call (ch := []) (Un.laid k hp hn) (I.hok.laid k hp ⟨hz, its.toList, c, r, hg⟩) (by rw [g]; exact I.bare) (fun _ z => nomatch z)
  have e : s' = { s with heap := s'.heap, gens := s'.gens, drawn := s'.drawn, toks := s'.toks } := by
    cases s'
    cases s
    cases o
    rfl
  rw [e]
  exact ⟨.ref p, _, J, rfl, q hn⟩
theorem cr_sortMS (hc : X.calm = true) : CallR X (.builtin "sorted") (rSortMS X.w) := by
  intro pins s σ H vs us Q I r h
  obtain ⟨a, xs, n, rfl, ha, h64, q⟩ := h
  rw [Vals.ref1 r]
  refine sortedMS (setM_get I ha) (I.ok.hd hc) h64 fun s' p out c ys k g o hp hg hi hs nd hm hl => ?_
  exact newlist I k g o hp hg (vals_of_strs hi) (by rw [List.length_map, hl, sizeLine_eq]; omega) (q ys p hs nd hm)
theorem cr_sortMI (hc : X.calm = true) : CallR X (.builtin "sorted") (rSortMI X.w) := by
  intro pins s σ H vs us Q I r h
  obtain ⟨a, xs, n, rfl, ha, h64, q⟩ := h
  rw [Vals.ref1 r]
  refine sortedMI (setM_get I ha) (I.ok.hd hc) h64 fun s' p out c ys k g o hp hg hi hs hm hl => ?_
  exact newlist I k g o hp hg (vals_of_ints hi) (by rw [List.length_map, hl, sizeLine_eq]; omega) (q ys p hs hm)
theorem cr_lenM : CallR X (.builtin "len") (rLenM X.w) := by
  intro pins s σ H vs us Q I r h
  obtain ⟨a, ks, l, n, rfl, ha, nd, hm, hz, q⟩ := h
  rw [Vals.ref1 r]
  have R := setM_get I ha
  have e := R.count l nd fun k => by rw [hm k, inK_iff]
  obtain ⟨o, es, ep, t, ho, hex, hd, _, _, _, hb, hf, hn, _⟩ := R
  exact call_len_set ho hex hd hf (by rw [hn] <;> omega) ⟨.int l.length, H, I.tok _, ⟨_, by rw [hn, e]⟩, q⟩
end
end SfW
/-! enumerate(a tuple); a walk over a list or a tuple -/
namespace SfW
open PySem PySem.Spec PyProof.Rows L2
theorem enum_meets {v : Value} {ob : Obj} {Hc : Heap → Prop} (B : Begins v ob Hc) :
    Meets (Builtin.«enumerate.__new__» ⟨[.type "enumerate", v], []⟩) (fun _ R s => Hc s.heap ∧
      R (.ok (.ret (.ref (s.heap.push ob).objs.size))) { s with heap := (s.heap.push ob).push { cls := .type "enumerate", data := .fields #[.none, .bool false, .ref s.heap.objs.size, rawInt 0, .none, .none] } }) :=
  .of_wp fun prog w A R s h => by
    obtain ⟨hp, g, d, tk, os⟩ := s
    obtain ⟨h1, h⟩ := h
    have hsub := sub_enumerate
    have q1 : ∀ {A' : Around} {E : Value → Shared → Prop} {Q : Value → Shared → Prop}, Q (.ref hp.objs.size) ⟨hp.push ob, g, d, tk, os⟩ → wpAny (model prog w) A' (pyIter v) Q E ⟨hp, g, d, tk, os⟩ :=
      fun q => B.iter prog w _ _ ⟨hp, g, d, tk, os⟩ _ h1 q
    wp_walk using q1
    refine wpAny_stack_any fun st => wpAny_pure ?_
    split
    · rename_i c _ _ _ _ _
      cases (c == Value.type "enumerate")
      · wp_walk using q1
        exact ⟨_, rfl, h⟩
      · wp_walk using q1
        exact ⟨_, rfl, h⟩
    · wp_walk using q1
      exact ⟨_, rfl, h⟩
theorem enum_tuple {prog : Program} {w : World} {A : Around} {E : Value → Shared → Prop} {s : Shared} {l : Addr} {items : Array Value} {Q : Value → Shared → Prop} (hL : s.heap.IsTuple l items)
    (h : ∀ g', IsEnum g' (s.heap.objs.size + 1) s.heap.objs.size 0 .none → g'.IsTupleIter s.heap.objs.size l 0 → (∀ b o, s.heap.get? b = some o → g'.get? b = some o) → Q (.ref (s.heap.objs.size + 1)) { s with heap := g' }) :
    wpAny (model prog w) A (call (.type "enumerate") [.ref l]) Q E s := by
  refine callType_new F.called_enumerate (by decide) (F.typeCall_enumerate_1 _) (F.newCall_enumerate_1 _) (fun obj => F.args_object_init_2 obj _) F.entry_enumerate_new
    (enum_meets (begins_tuple l items)) ⟨hL, ?_⟩
  have sz : (s.heap.push { cls := .type "tuple_iterator", data := .fields #[.ref l, .int 0 0] }).objs.size = s.heap.objs.size + 1 := Heap.size_push ..
  show _ ∧ _
  rw [sz]
  have he : IsEnum ((s.heap.push { cls := .type "tuple_iterator", data := .fields #[.ref l, .int 0 0] }).push
      { cls := .type "enumerate", data := .fields #[.none, .bool false, .ref s.heap.objs.size, rawInt 0, .none, .none] }) (s.heap.objs.size + 1) s.heap.objs.size 0 .none := by
    have q := Heap.get?_push_size (s.heap.push { cls := .type "tuple_iterator", data := .fields #[.ref l, .int 0 0] })
      (o := { cls := .type "enumerate", data := .fields #[.none, .bool false, .ref s.heap.objs.size, rawInt 0, .none, .none] }) rfl
    rw [sz] at q
    exact q
  exact ⟨⟨_, he, rfl⟩, h _ he ⟨_, Heap.get?_push_of_some _ (Heap.get?_push_size _ rfl), rfl, rfl⟩ fun b o x => Heap.get?_push_of_some _ (Heap.get?_push_of_some _ x)⟩
/-- the tuple at a, each item in a new pair -/
def IteT (K : PySem.W.Frag) (a : Addr) (xs : List V) : It :=
  ⟨fun i H => SqT K H a xs ∧ i < xs.length, fun i H v H' => ∃ T x, v = .ref T ∧ H T = none ∧ H' = upd H T (.tup [.int (i : Nat), x]) ∧ xs[i]? = some x, fun i H => SqT K H a xs ∧ i = xs.length⟩
theorem walk_enumT {K : PySem.W.Frag} {a : Addr} {xs : List V} : Walk (IteT K a xs) xs.length (fun H => SqT K H a xs) (YPair (fun i => some (.int (i : Nat))) (fun i => xs[i]?)) :=
  ⟨fun i _ hi q => ⟨q, hi⟩, fun _ q => ⟨q, rfl⟩, fun i H v H' _ q ⟨T, x, h1, h2, h3, h4⟩ => ⟨T, .int (i : Nat), x, h1, h2, h3, rfl, h4⟩⟩
theorem turn_enumT {P : Program} {w : World} {K : PySem.W.Frag} {elts : List Expr} {kk : Nat} {tpos : Pos} (a e it : Addr) (xs : List V) (ha : a ≠ it) (ha2 : a ≠ e) :
    Turn P w K (.Tuple elts kk tpos) (IteT K a xs) [e, it] e (fun i h => (∃ old, IsEnum h e it ((i : Nat) : Int) old) ∧ h.IsTupleIter it a i ∧ e ≠ it) where
  mem := by simp
  obj := fun i h st b hb => by
    obtain ⟨⟨old, he⟩, ⟨o, ho, hc, hd⟩, _⟩ := st
    rcases (show b = e ∨ b = it by simpa using hb) with z | z
    · rw [z]
      exact ⟨_, he, fun v q => nomatch q⟩
    · rw [z]
      exact ⟨o, ho, fun v q => by rw [hd] at q; cases q⟩
  keep := fun i h h' st k => let ⟨⟨old, he⟩, hi, hne⟩ := st; ⟨⟨old, k e (by simp) _ he⟩, hi.at fun o q => k it (by simp) o q, hne⟩
  item := by
    intro X hP hw hK hc i pins s σ H E I hf st hg
    subst hP hw hK
    obtain ⟨⟨old, he⟩, hit, hne⟩ := st
    obtain ⟨hq, hlt⟩ := hg
    obtain ⟨its, rv, p, hz⟩ := I.tuple hq
    obtain ⟨u, hu, ru⟩ := rv.get (List.getElem?_eq_getElem hlt)
    have eb : e < s.heap.objs.size := Heap.lt_size he
    have ib : it < s.heap.objs.size := by
      obtain ⟨_, q, _⟩ := hit
      exact Heap.lt_size q
    have sz : its.toArray.size = xs.length := by rw [List.size_toArray, rv.length]
    refine wpAny_pyNext_enum_itemD (Draws.tuple (A := X.A.in1) (by simp [I.ok.hd hc]) it a ha its.toArray) he ⟨hit, p⟩ (by rw [sz]; exact hlt) hne (by simp [hne, Ne.symm ha2]) fun x g' tk hP ho hit' hT hsz hk => ?_
    have ex : x = u := by
      have q : its.toArray[i]? = some x := hP
      have q2 : its.toArray[i]? = some u := by simpa using hu
      rw [q] at q2
      exact Option.some.inj q2
    subst ex
    refine ⟨_, rfl, wpAny_letOwnedTupleGo_enum (s := { s with heap := g', toks := tk + 1 }) ho fun h'' he' sb => ?_⟩
    have hT2 : h''.get? s.heap.objs.size = some { cls := .type "tuple", data := .seq #[.int i tk, x] } := (sb.2 _ (Nat.ne_of_gt eb)).trans hT
    have new : ObjOk X.prog X.w (upd H s.heap.objs.size (.tup [.int (i : Nat), xs[i]])) h'' s.heap.objs.size (.tup [.int (i : Nat), xs[i]]) :=
      ⟨by show 2 ≤ sizeLine; decide, [.int i tk, x], .cons ⟨_, rfl⟩ (.cons ru .nil), ⟨_, hT2, rfl, _, rfl⟩⟩
    have I1 : Inv X pins σ (upd H s.heap.objs.size (.tup [.int (i : Nat), xs[i]])) { s with heap := h'', toks := tk + 1 } :=
      I.turnedNew (ch := [e, it]) (fun b ob hb q => (sb.2 b (fun z => hb (by simp [z]))).trans (hk b ob (fun z => hb (by simp [z])) (fun z => hb (by simp [z])) q)) hf (Nat.le_refl _) new
    refine ⟨.ref s.heap.objs.size, _, I1, rfl, ⟨_, xs[i], rfl, I.hok.fresh (Nat.le_refl _), rfl, List.getElem?_eq_getElem hlt⟩, ⟨⟨x, ?_⟩, hit'.1.at fun o q => (sb.2 it (Ne.symm hne)).trans q, hne⟩, fun b hb => ?_⟩
    · rw [show ((i + 1 : Nat) : Int) = (i : Int) + 1 by omega]
      exact he'
    · have below : b < s.heap.objs.size := by
        rcases (show b = e ∨ b = it by simpa using hb) with z | z
        · rw [z]
          exact eb
        · rw [z]
          exact ib
      rw [upd_ne (Nat.ne_of_lt below)]
      exact (hf b hb).1
  done := by
    intro X hP hw hK hc i pins s σ H E I hf st hg
    subst hP hw hK
    obtain ⟨⟨old, he⟩, hit, hne⟩ := st
    obtain ⟨hq, hx⟩ := hg
    obtain ⟨its, rv, p, hz⟩ := I.tuple hq
    obtain ⟨f0, f1, f2, f3, f4, f5⟩ := hf it (by simp)
    have sz : its.toArray.size = xs.length := by rw [List.size_toArray, rv.length]
    refine wpAny_pyNext_enum_endD (Draws.tuple (A := X.A.in1) (by simp [I.ok.hd hc]) it a ha its.toArray) he ⟨?_, p⟩ fun h' eb => ⟨rfl, I.turned (t' := s.toks) (fun b o hb q => eb b o hb q) f0 f1 f3 f4 f5⟩
    rw [sz, ← hx]
    exact hit
  self := fun A i s Q E st h => let ⟨⟨_, he⟩, _⟩ := st; wpAny_pyIter_enum he h
def iEnumT (K : PySem.W.Frag) (ta : TA) : TI := fun σ H R => ta σ H fun vs H1 => ∃ a xs, vs = [.ref a] ∧ SqT K H1 a xs ∧ R (IteT K a xs) H1
theorem pi_enumT {X : Cx} {e : Expr} {ta : TA} {p pos tpos : Pos} {elts : List Expr} {kk : Nat} (hg : Gl X "enumerate") (hm : X.mg "enumerate" = none) (ha : PA X [e] ta) (hs : starEach [e] X.env = [(false, eval e X.env)] := by rfl) :
    PI X (.Tuple elts kk tpos) (.Call (.Name "enumerate" p) [e] [] pos) (iEnumT X.K ta) := by
  refine ⟨fun pins s σ H R I h => ?_⟩
  refine Call_ (ld_blt I hg hm boot_enumerate (PyProof.Rows.callWith_type1 (thn (ha.run pos pins s σ H _ I h) fun us s1 ⟨vs, H1, I1, r1, a, xs, ex, hq, q⟩ => ?_) hs rfl))
  subst ex
  cases r1 with
  | cons r rr =>
    cases rr
    cases r
    obtain ⟨its, rv, p', hz⟩ := I1.tuple hq
    have below : a < s1.heap.objs.size := by
      obtain ⟨_, z, _⟩ := p'
      exact Heap.lt_size z
    refine enum_tuple p' fun g' he hit hk => wpAny_pyIter_enum he ?_
    refine ⟨s1.heap.objs.size + 1, [s1.heap.objs.size + 1, s1.heap.objs.size], _, _, H1, rfl, I1.kept (t' := s1.toks) hk, turn_enumT a (s1.heap.objs.size + 1) s1.heap.objs.size xs (Nat.ne_of_lt below) (Nat.ne_of_lt (Nat.lt_succ_of_lt below)), ⟨⟨.none, he⟩, hit, Nat.succ_ne_self _⟩, fun b hb => ?_, q⟩
    have hle : s1.heap.objs.size ≤ b := by
      rcases (show b = s1.heap.objs.size + 1 ∨ b = s1.heap.objs.size by simpa using hb) with z | z
      · rw [z]
        exact Nat.le_add_right _ _
      · rw [z]
        exact Nat.le_refl _
    exact I1.fpOk hle (I1.hok.fresh hle)
theorem PI_or {X : Cx} {tg e : Expr} {w1 w2 : TI} (h1 : PI X tg e w1) (h2 : PI X tg e w2) : PI X tg e (fun σ H R => w1 σ H R ∨ w2 σ H R) :=
  ⟨fun pins s σ H R I h => h.elim (fun q => h1.run pins s σ H R I q) fun q => h2.run pins s σ H R I q⟩
end SfW
namespace SfW
open PySem PySem.Spec PyProof.Rows L2
open Evl (Ex RetV)
variable {P : Program} {w : World} {K : PySem.W.Frag} {mg : Str → Option Value} {bs : Heap}
/-! names -/
def Lett (c : Nat) : Prop := ∃ k, k < 26 ∧ c = 97 + k
def NameOk (x : Str) : Prop := 1 ≤ x.length ∧ x.length ≤ 8 ∧ ∀ c ∈ x.cps.toList, Lett c
theorem lett_in : ∀ k, k < 26 → (!(Builtin.Str.occurrences "abcdefghijklmnopqrstuvwxyz" ⟨#[97 + k]⟩ 0 ("abcdefghijklmnopqrstuvwxyz" : Str).length 1).isEmpty) = true := by decide +kernel
def spName : Sp := fun vs H Q _ => ∃ x, vs = [.str x] ∧ NameOk x ∧ RetV (.bl true) H Q
theorem F_is_name (T : TX K mg) : FnR P w K mg bs CX0 1 (He.ga K "is_name") spName :=
  T.f_is_name.fn S_is_name (fun vs H Q E ⟨x, h, _⟩ => by rw [h] <;> rfl) (fun _ _ _ _ _ _ us hl => match us, hl with | [_], _ => rfl) (body0 fun cdv A outer s H vs Q E hr q => by
    obtain ⟨x, rfl, ⟨n1, n2, n3⟩, k⟩ := q
    obtain ⟨_, hi_LONGEST_NAME⟩ := T.i_LONGEST_NAME
    obtain ⟨_, ht_LETTERS⟩ := T.t_LETTERS
    refine ⟨_, (pss_cons (ps_if (PW.pt (pw_or (pt_not (pt_val (pe_callB call_isi (by rfl) T.b_isinstance (by decide +kernel) (pa_cons (pv 0) (pa_cons (pe_bltn (v := .ty "str") (by rfl) T.b_str (by decide +kernel) rfl) pa_nil))))) (pw_or1 (pt_not (pt_chain op_le op_le pe_int (pe_callB call_len_str (by rfl) T.b_len PySem.boot_len (pa_cons (pv 0) pa_nil)) (pe_glob (v := .int 8) (by rfl) hi_LONGEST_NAME ⟨_, rfl⟩)))))) (pss_one (ps_ret pe_bl)) pss_nil) (pss_one (ps_ret (pe_callB (cr_all rfl) (by rfl) T.b_all (by decide +kernel) (pa_cons (pe_lc (own := [("sign", 1)]) rfl S_is_name.nd (pi_str (pv 0)) (blkOk_by (N := N_is_name) (sc := defScope s_is_name) (by decide +kernel)) (fun _ _ _ _ _ => (pg_name (i := 1) S_is_name.nd rfl (Or.inl rfl))) (fun _ _ _ _ _ => pts_nil) (fun _ _ _ _ _ => (pe_cmpR op_in_str (pv 1) (pe_glob (v := .str "abcdefghijklmnopqrstuvwxyz") (by rfl) ht_LETTERS ⟨_, rfl⟩) (by rfl)))) pa_nil))))), ?_⟩
    refine ⟨_, rfl, _, _, _, _, true, rfl, .ty _, .base (.str _), kit_ty (by decide +kernel), true, rfl, ?_⟩
    refine iteF ?_
    refine ⟨.str x, rfl, x, rfl, Evl.sz_of (by omega), 1, _, rfl, rfl, _, rfl, iteY (by omega) ⟨_, _, rfl, rfl, _, rfl, ?_⟩⟩
    rw [decide_eq_true (show (x.length : Int) ≤ 8 by omega)]
    refine iteF ?_
    refine ⟨_, rfl, x, rfl, ?_⟩
    have hl : x.cps.size ≤ 8 := n2
    refine fun D hD => lcW (walk_str (z := x)) hD (fun i acc _ => acc = (List.replicate i true).map V.bl) (by omega) rfl (fun _ _ => True.intro) ?_ ?_
    · intro i acc Hi Ha hi r _ _ C C0 hC _ v Hb y
      obtain ⟨rfl, c, hc, rfl⟩ := y
      obtain ⟨j, hj, rfl⟩ := n3 c (by rw [← Array.getElem?_toList] at hc; exact List.mem_of_getElem? hc)
      refine ⟨rfl, yes ?_⟩
      refine ⟨_, rfl, _, _, rfl, rfl, ?_⟩
      rw [lett_in j hj]
      refine hC _ _ (Ex.refl _) fun H5 _ => ?_
      rw [r, List.replicate_succ', List.map_append] <;> rfl
    · intro acc H' _ r e hD' H2 e2 hs
      refine ⟨D, List.replicate x.cps.size true, rfl, .inl (.inl (r ▸ hs)), ?_⟩
      have : (List.replicate x.cps.size true).all id = true := by simp
      rw [this]
      exact k H2 (e.trans e2))
/-! ascending_names, hosts_of -/
abbrev txs (xs : List Str) : List V := xs.map V.str
theorem txs_kV (xs : List Str) : (xs.map (Sum.inr : Str → Key)).map kV = txs xs := by rw [List.map_map] <;> rfl
theorem ints_kV (xs : List Int) : (xs.map (Sum.inl : Int → Key)).map kV = xs.map V.int := by rw [List.map_map] <;> rfl
/-- a new tuple of the texts of xs, each once, ascending -/
def RetAsc (xs : List Str) (H : Hp) (Q : VK) : Prop := ∀ ys p H2, H p = none → Ex H H2 → H2 p = some (.tup (txs ys)) → sortedS ys = true → ys.Nodup → (∀ x, x ∈ ys ↔ x ∈ xs) → Q (.ref p) H2
def spAsc (K : PySem.W.Frag) : Sp := fun vs H Q _ => ∃ (a : Addr) (xs : List Str), vs = [.ref a] ∧ (SqL K H a (txs xs) ∨ SqT K H a (txs xs)) ∧ xs.length < 64 ∧ RetAsc xs H Q
theorem F_ascending_names (T : TX K mg) : FnR P w K mg bs CX0 1 (He.ga K "ascending_names") (spAsc K) :=
  T.f_ascending_names.fn S_ascending_names (fun vs H Q E ⟨x, _, h, _⟩ => by rw [h] <;> rfl) (fun _ _ _ _ _ _ us hl => match us, hl with | [_], _ => rfl) (body0 fun cdv A outer s H vs Q E hr q => by
    obtain ⟨a, xs, rfl, hx, hn, k⟩ := q
    refine ⟨_, (pss_one (ps_ret (pe_callTy call_tuple_of (by rfl) T.b_tuple (by decide +kernel) (pa_cons (pe_callB (cr_sortMS rfl) (by rfl) T.b_sorted (by decide +kernel) (pa_cons (pe_callTy (cr_setM rfl) (by rfl) T.b_set (by decide +kernel) (pa_cons (pe_lc (own := [("name", 1)]) rfl S_ascending_names.nd (PI_or (pi_list (pv 0)) (pi_tup (pv 0))) (blkOk_by (N := N_ascending_names) (sc := defScope s_ascending_names) (by decide +kernel)) (fun _ _ _ _ _ => (pg_name (i := 1) S_ascending_names.nd rfl (Or.inl rfl))) (fun _ _ _ _ _ => pts_nil) (fun _ _ _ _ _ => (pe_callTy SkE.call_str_str (by rfl) T.b_str (by decide +kernel) (pa_cons (pv 1) pa_nil)))) pa_nil)) pa_nil)) pa_nil)))), ?_⟩
    have key : ∀ (D : Addr) (H2 : Hp), H D = none → Ex H H2 → H2 D = some (.lst (txs xs)) → rSetM K w [.ref D] H2 fun v H3 => rSortMS w [v] H3 fun v2 H4 => ∃ p ys, [v2] = [V.ref p] ∧ ((SqL K H4 p ys ∧ ∀ l, H4 l = none → Q (.ref l) (upd H4 l (.tup ys))) ∨ (SqT K H4 p ys ∧ Q (.ref p) H4)) := fun D H2 hD e2 h2 => by
      refine ⟨D, xs.map .inr, rfl, by rw [txs_kV]; exact .inl (.inl h2), by rw [List.length_map]; omega, fun p c hp hc _ => ⟨p, xs, c, rfl, upd_same, by rw [List.length_map] at hc; omega, fun ys r h1 h3 h4 hr => ?_⟩⟩
      have e3 : Ex H (upd (upd H2 p (SetMO w p (inK (xs.map .inr)) c)) r (.lst (txs ys))) := e2.trans ((Ex.new hp).trans (Ex.new hr))
      exact ⟨r, txs ys, rfl, .inl ⟨.inl (.inl upd_same), fun l hl => k ys l _ (Evl.fresh_back e3 hl) (e3.trans (Ex.new hl)) upd_same h1 h3 h4⟩⟩
    have turn : ∀ (i : Nat) (x : V), (txs xs)[i]? = some x → ∃ y, x = .str y := fun i x hx => by
      rw [List.getElem?_map] at hx
      cases h : xs[i]? with
      | none =>
        rw [h] at hx
        cases hx
      | some y =>
        rw [h] at hx
        exact ⟨y, (Option.some.inj hx).symm⟩
    have lz : (txs xs).length ≤ 50000 := by rw [List.length_map]; omega
    rcases hx with hx | hx
    · refine .inl ⟨.ref a, rfl, a, rfl, ⟨_, hx⟩, fun D hD => lcM walk_list hD id lz (fun H' e => Evl.ex_l e hx) (fun i x Ha h e C hC => ?_) fun H2 e2 h2 => key D H2 hD e2 (by rw [h2, List.map_id])⟩
      obtain ⟨y, rfl⟩ := turn i x h
      exact ⟨rfl, _, rfl, y, rfl, hC _ (Ex.refl _)⟩
    · refine .inr ⟨.ref a, rfl, a, rfl, ⟨_, hx⟩, fun D hD => lcM walk_tup hD id lz (fun H' e => Evl.ex_t e hx) (fun i x Ha h e C hC => ?_) fun H2 e2 h2 => key D H2 hD e2 (by rw [h2, List.map_id])⟩
      obtain ⟨y, rfl⟩ := turn i x h
      exact ⟨rfl, _, rfl, y, rfl, hC _ (Ex.refl _)⟩)
theorem kit_tup {K : PySem.W.Frag} : PySem.W.kitAny K (.type "tuple") [.type "list", .type "tuple"] = some true :=
  kitAny_cons (b := false) (kit_ty (by decide +kernel)) (fun _ => kitAny_cons (b := true) (kit_ty (by decide +kernel)) (fun z => nomatch z) (fun _ => rfl)) (fun z => nomatch z)
theorem kit_lst {K : PySem.W.Frag} : PySem.W.kitAny K (.type "list") [.type "list", .type "tuple"] = some true :=
  kitAny_cons (b := true) (kit_ty (by decide +kernel)) (fun z => nomatch z) (fun _ => rfl)
theorem ty2 : Paired ClsV [.ty "list", .ty "tuple"] [.type "list", .type "tuple"] := .cons (.ty _) (.cons (.ty _) .nil)
theorem txs_get {xs : List Str} {i : Nat} {v : V} (h : (txs xs)[i]? = some v) : ∃ x, xs[i]? = some x ∧ v = .str x := by
  rw [List.getElem?_map] at h
  cases e : xs[i]? with
  | none =>
    rw [e] at h
    cases h
  | some x =>
    rw [e] at h
    exact ⟨x, rfl, (Option.some.inj h).symm⟩
theorem flat_txs (xs : List Str) : (txs xs).all flatV = true := by
  rw [List.all_map]
  exact List.all_eq_true.mpr fun _ _ => rfl
theorem inV_txs (x : Str) (xs : List Str) : inV (.str x) (txs xs) = decide (x ∈ xs) := by
  induction xs with
  | nil => rfl
  | cons y ys ih =>
    have e : inV (.str x) (txs (y :: ys)) = (eqV (.str y) (.str x) || inV (.str x) (txs ys)) := rfl
    rw [e, ih]
    have e2 : eqV (.str y) (.str x) = decide (x = y) := by
      show (y == x) = decide (x = y)
      by_cases h : x = y
      · rw [h, decide_eq_true rfl]
        exact beq_self_eq_true y
      · rw [decide_eq_false h]
        exact beq_eq_false_iff_ne.mpr fun z => h z.symm
    rw [e2, ← Bool.decide_or]
    exact decide_eq_decide.mpr List.mem_cons.symm
theorem six_nat (n d i : Nat) (h : i ≤ n) : HT.sIx n d (some (i : Int)) = i := by
  rw [HT.sIx_nat]
  omega
theorem cut_take (xs : List V) (i : Nat) (h : i ≤ xs.length) : cutV xs none (some (i : Int)) = xs.take i := by
  unfold cutV
  rw [six_nat _ _ _ h]
  show (xs.drop 0).take (i - 0) = xs.take i
  rw [List.drop_zero, Nat.sub_zero]
def spHostsOf (K : PySem.W.Frag) : Sp := fun vs H Q _ => ∃ (a : Addr) (xs : List Str), vs = [.ref a, .int 40] ∧ H a = some (.tup (txs xs)) ∧ xs ≠ [] ∧ xs.length ≤ 40 ∧ (∀ x ∈ xs, NameOk x) ∧ xs.Nodup ∧ RetAsc xs H Q
theorem FB_hosts_of (T : TX K mg) : Body P w K mg bs CX0 1 (He.ga K "hosts_of") "hosts_of" s_hosts_of N_hosts_of (spHostsOf K) := body0 fun cdv A outer s H vs Q E hr q => by
    obtain ⟨a, xs, rfl, hx, hne, hn, hok, hnd, k⟩ := q
    refine ⟨_, (pss_cons (ps_if (PW.pt (pw_or (pt_not (pt_val (pe_callB call_isiT (by rfl) T.b_isinstance (by decide +kernel) (pa_cons (pv 0) (pa_cons (pe_tup (pa_cons (pe_bltn (v := .ty "list") (by rfl) T.b_list (by decide +kernel) rfl) (pa_cons (pe_bltn (v := .ty "tuple") (by rfl) T.b_tuple (by decide +kernel) rfl) pa_nil))) pa_nil))))) (pw_or1 (pt_cmpR op_eq (pe_callB call_len_seq (by rfl) T.b_len PySem.boot_len (pa_cons (pv 0) pa_nil)) pe_int (nomark _))))) pss_never pss_nil) (pss_cons (ps_for PassesOwn.never rfl (pi_enumT (by rfl) T.b_enumerate (pa_cons (pv 0) pa_nil)) (pg_tup (n := 2) (by rfl) (pgs_cons (pg_name (i := 2) S_hosts_of.nd rfl (Or.inl rfl)) (pgs_cons (pg_name (i := 3) S_hosts_of.nd rfl (Or.inl rfl)) pgs_nil))) (pss_one (ps_if (PW.pt (pw_or (pt_not (pt_val (pe_callR (F_is_name T) hr T.f_is_name.kp T.g_is_name pass0 (pa_cons (pv 3) pa_nil)))) (pw_or1 (pt_cmpR op_in_seq (pv 3) (pe_slice sl_tup (pv 0) po_none (po_some (pv 2))) (by rfl))))) pss_never pss_nil))) (pss_cons (ps_if (pt_cmpR op_gt (pe_callB call_len_seq (by rfl) T.b_len PySem.boot_len (pa_cons (pv 0) pa_nil)) (pv 1) (nomark _)) pss_never pss_nil) (pss_one (ps_ret (pe_callR (F_ascending_names T) hr T.f_ascending_names.kp T.g_ascending_names pass0 (pa_cons (pv 0) pa_nil))))))), ?_⟩
    have l0 : xs.length ≠ 0 := fun z => hne (List.length_eq_zero_iff.mp z)
    refine ⟨.ref a, rfl, Evl.sz_of (by decide), fun tp htp => ⟨.ref a, tp, _, .type "tuple", _, true, rfl, upd_same, ty2, .base (.tup (by rw [upd_ne (ne_of_none hx htp)]; exact hx)), kit_tup, true, rfl, iteF ?_⟩⟩
    have e1 : Ex H (upd H tp (.tup [.ty "list", .ty "tuple"])) := Ex.new htp
    refine ⟨.ref a, rfl, a, _, rfl, .inr (.inl (.inl (e1 a _ hx))), rfl, _, rfl, iteZ (fun h => by injection h with h; rw [List.length_map] at h; omega) ?_⟩
    refine ⟨.ref a, rfl, a, _, rfl, .inl (.inl (e1 a _ hx)), for_it walk_enumT (fun i σ' H' => Ex H H' ∧ ∃ u v, σ' = [some (.ref a), some (.int 40), u, v]) ⟨e1, none, none, rfl⟩ (fun i σ' H' _ p => Evl.ex_t p.1 (.inl (.inl hx))) ?_ ?_⟩
    · intro i v σ' H' H'' hi ⟨e2, u1, u2, hs⟩ ⟨tq, x1, x2, h1, h2, h3, h4, h5⟩
      subst hs h1 h3
      obtain ⟨x, hx1, rfl⟩ := txs_get h5
      obtain rfl : V.int i = x1 := Option.some.inj h4
      have e3 : Ex H (upd H' tq (.tup [.int i, .str x])) := e2.trans (Ex.new h2)
      refine ⟨tq, _, rfl, .inl (.inl upd_same), rfl, _, _, rfl, _, _, rfl, rfl, ?_⟩
      refine ⟨.str x, rfl, x, rfl, hok x (List.mem_of_getElem? hx1), fun H3 e4 => ⟨true, rfl, iteF ?_⟩⟩
      refine ⟨.str x, rfl, .ref a, rfl, .int i, rfl, i, rfl, a, _, rfl, .inl (.inl (e4 a _ (e3 a _ hx))), (fun z => by rw [six_nat _ _ _ (Nat.le_of_lt hi)] at z; omega), fun p hp => ⟨p, _, rfl, .inr (.inl (.inl upd_same)), rfl, ?_, _, rfl, ?_⟩⟩
      · rw [cut_take _ _ (Nat.le_of_lt hi), ← List.map_take]
        exact flat_txs _
      · rw [cut_take _ _ (Nat.le_of_lt hi), ← List.map_take]
        show if inV (.str x) (txs (xs.take i)) = true then _ else _
        rw [inV_txs]
        refine iteZ (fun hm => ?_) ⟨(e3.trans e4).trans (Ex.new hp), _, _, rfl⟩
        obtain ⟨j, hj, hj2⟩ := List.mem_take_iff_getElem.mp hm
        have hil := (List.getElem?_eq_some_iff.mp hx1)
        obtain ⟨hil, hxi⟩ := hil
        have hji : j < i := by omega
        have := List.pairwise_iff_getElem.mp hnd j i (by omega) hil hji
        exact this (hj2.trans hxi.symm)
    · intro σ' H' ⟨e2, u1, u2, hs⟩
      subst hs
      refine ⟨.ref a, rfl, a, _, rfl, .inr (.inl (.inl (e2 a _ hx))), .int 40, rfl, _, _, rfl, rfl, _, rfl, iteZ (by rw [List.length_map]; omega) ?_⟩
      exact ⟨.ref a, rfl, a, xs, rfl, .inr (.inl (.inl (e2 a _ hx))), by omega, fun ys p H2 hp e3 h4 h5 h6 h7 => k ys p H2 (Evl.fresh_back e2 hp) (e2.trans e3) h4 h5 h6 h7⟩
theorem F_hosts_of (T : TX K mg) : FnR P w K mg bs CX0 2 (He.ga K "hosts_of") (fun vs H Q E => spHostsOf K (vs ++ [.int 40]) H Q E) :=
  T.f_hosts_of.fnD S_hosts_of (fun vs H Q E ⟨_, _, h, _⟩ => by rw [h] <;> rfl) 1 0 (by simp) (by simp)
    (fun _ _ _ _ _ _ _ us its h1 h2 => match us, its, h1, h2 with | [_], [_], _, _ => ⟨_, rfl, rfl⟩) (FB_hosts_of T)
end SfW
namespace SfW
open PySem PySem.Spec PyProof.Rows L2
/-! == of instances, isinstance of instances, len of an instance -/
theorem ty_ins {K : PySem.W.Frag} {H : Hp} {a C dx : Addr} {fs : List (Str × V)} (e : H a = some (.ins C dx fs)) (c : Cls K C) (q : SlX.SIsi K C) : TyX K H (.ref a) (.ref C) := .base (.ins e c q.ca q.cn q.ct q.cm)
section
variable {X : Cx} {n : Nat}
theorem rcG_insR {CX : CXT} {C f : Addr} {R : Addr → Addr → Hp → Prop} {E : XK} (F : FnR X.prog X.w X.K X.mg X.base CX n f (spEq R))
    (hs : PySem.W.findIn X.K (.ref C) "__eq__" = some (some (.ref f))) (hf : PySem.W.isFn X.K (.ref f) = true) (hx : Passes CX X E) : RcG X n (DIns C R) := by
  intro A pins s σ H x y u v sb I rx ry ⟨a, b, dx, dy, fs, gs, h1, h2, ha, hb, hr⟩
  subst h1 h2
  cases rx
  cases ry
  obtain ⟨mA, JA, _⟩ := ins_get I.hok ha
  obtain ⟨mB, JB, _⟩ := ins_get I.hok hb
  obtain ⟨od, JA, _⟩ := JA.look
  obtain ⟨od', JB, _⟩ := JB.look
  obtain ⟨m, hF⟩ := I.fr
  refine PySem.W.cmp_K (op := .Eq) (tb := .ref C) sb.room.units0 hF I.ok.mod.kin JA JB.type (by simp [PySem.W.notFirst]) hs hf ?_
  have e := I.env0
  have e0 : Env0 X.prog X.w X.K X.mg X.base A X.stack s H := ⟨by rw [sb.fr]; exact e.frames, e.mod, e.bs, e.bsz, e.funs, e.frf, e.hok, e.bare⟩
  have hsp : spEq R [.ref a, .ref b] H (fun v H' => v = .bl true ∧ Ext H H') E := ⟨a, b, rfl, hr, fun H' e => ⟨rfl, e⟩⟩
  refine wpAny_call (codeAny_mono (F A X.stack s H [.ref a, .ref b] [.ref a, .ref b] _ E sb.room e0 (.cons rfl (.cons rfl .nil)) hsp) fun r s' hq => ?_)
  cases r with
  | error er => exact hx pins σ H s er s' I hq
  | ok fl =>
    cases fl with
    | ret w =>
      obtain ⟨z, H', I', rz, ez, ex⟩ := I.after hq
      subst ez
      cases rz
      exact ⟨rfl, H', I', ex⟩
    | next => exact False.elim hq
    | brk => exact False.elim hq
    | cont => exact False.elim hq
theorem eqG_insR {CX : CXT} {C f : Addr} {R : Addr → Addr → Hp → Prop} {E : XK} (F : FnR X.prog X.w X.K X.mg X.base CX n f (spEq R))
    (hs : PySem.W.findIn X.K (.ref C) "__eq__" = some (some (.ref f))) (hf : PySem.W.isFn X.K (.ref f) = true) (hx : Passes CX X E) : EqG X n (DIns C R) :=
  (rcG_insR F hs hf hx).eqG fun _ _ _ ⟨a, b, _, _, _, _, hx, hy, _⟩ => ⟨a, b, hx, hy⟩
end
end SfW
namespace SfW
open PySem PySem.Spec PyProof.Rows L2
open Evl (Ex RetV)
variable {P : Program} {w : World} {K : PySem.W.Frag} {mg : Str → Option Value} {bs : Heap}
/-! frames -/
def oV : Option Str → V
  | none => .non
  | some x => .str x
/-- what a frame's parts must be -/
def FrameOk (s : Str) (t : Option Str) : Prop := NameOk s ∧ ∀ x, t = some x → NameOk x ∧ x ≠ s
/-- the frame s, t stands at a -/
def FrAt (K : PySem.W.Frag) (H : Hp) (a : Addr) (s : Str) (t : Option Str) : Prop := ∃ dx, H a = some (.ins (He.ga K "Frame") dx [("sender", .str s), ("target", oV t)])
theorem FrAt.mono {H H' : Hp} {a : Addr} {s : Str} {t : Option Str} (h : FrAt K H a s t) (e : Ex H H') : FrAt K H' a s t := by
  obtain ⟨dx, h1⟩ := h
  exact ⟨dx, e _ _ h1⟩
def spFrameInit (K : PySem.W.Frag) : Sp := fun vs H Q _ => ∃ (a dx : Addr) (s : Str) (t : Option Str), vs = [.ref a, .str s, oV t] ∧ H a = some (.ins (He.ga K "Frame") dx []) ∧ FrameOk s t ∧ ∀ H2, Ex (del a H) H2 → FrAt K H2 a s t → Q .non H2
theorem FB_Frame_init (T : TX K mg) : Body P w K mg bs CX0 1 (He.ma K (He.ga K "Frame") "__init__") "Frame.__init__" s_Frame_init N_Frame_init (spFrameInit K) := body0 fun cdv A outer s H vs Q E hr q => by
    obtain ⟨a, dx, sd, t, rfl, ha, ⟨h1, h2⟩, k⟩ := q
    refine ⟨_, (pss_cons (ps_if (pt_not (pt_val (pe_callR (F_is_name T) (hr.mono (by decide)) T.f_is_name.kp T.g_is_name pass0 (pa_cons (pv 1) pa_nil)))) pss_never pss_nil) (pss_cons (ps_if (PW.pt (pw_and (pt_cmpR op_notN (pv 2) pe_non (nomark _)) (pw_and1 (PW.pt (pw_or (pt_not (pt_val (pe_callR (F_is_name T) (hr.mono (by decide)) T.f_is_name.kp T.g_is_name pass0 (pa_cons (pv 2) pa_nil)))) (pw_or1 (pt_cmpR op_eq (pv 2) (pv 1) (nomark _)))))))) pss_never pss_nil) (pss_cons (ps_fld (pv 0) (pv 1) rfl) (pss_one (ps_fld (pv 0) (pv 2) rfl))))), ?_⟩
    refine ⟨.str sd, rfl, sd, rfl, h1, fun H1 e1 => ⟨true, rfl, iteF ?_⟩⟩
    have fin : ∀ H2, Ex H H2 → tSeq (sFld K (tVar 0) (tVar 1) "sender") (sFld K (tVar 0) (tVar 2) "target") { nx := fun _ H' => Q .non H', rt := Q } (L2.start N_Frame_init [.ref a, .str sd, oV t]) H2 := fun H2 e2 => by
      refine ⟨.str sd, rfl, .ref a, rfl, a, _, dx, [], rfl, e2 _ _ ha, T.c_Frame, T.n_Frame_sender, by decide, ?_⟩
      refine ⟨oV t, rfl, .ref a, rfl, a, _, dx, [("sender", .str sd)], rfl, upd_same, T.c_Frame, T.n_Frame_target, (by show 1 < 1000; decide), ?_⟩
      rw [upd_upd]
      refine k _ (fun b o h => ?_) ⟨dx, upd_same⟩
      obtain ⟨ne, hb⟩ := of_del h
      rw [upd_ne ne]
      exact e2 _ _ hb
    cases t with
    | none =>
      exact ⟨.non, rfl, rfl, _, rfl, iteF (iteF (fin _ e1))⟩
    | some x =>
      obtain ⟨h3, h4⟩ := h2 x rfl
      refine ⟨.str x, rfl, rfl, _, rfl, iteT ?_⟩
      refine ⟨.str x, rfl, x, rfl, h3, fun H2 e2 => ⟨true, rfl, iteF ?_⟩⟩
      exact ⟨.str x, rfl, .str sd, rfl, rfl, _, rfl, iteZ (fun z => h4 (by injection z)) (fin _ (e1.trans e2))⟩
/-- Frame(s, t), Frame(s) -/
theorem F_Frame2 (T : TX K mg) : FnR P w K mg bs CX0 2 (He.ma K (He.ga K "Frame") "__init__") (fun vs H Q E => spFrameInit K vs H Q E) :=
  fn_weak (T.f_Frame_init.fnD S_Frame_init (fun vs H Q E ⟨_, _, _, _, h, _⟩ => by rw [h] <;> rfl) 3 1 (by simp) (by simp)
    (fun _ _ _ _ _ _ _ us its h1 h2 => match us, its, h1, h2 with | [_, _, _], [_], _, _ => ⟨_, rfl, rfl⟩) (FB_Frame_init T)) (Nat.le_refl _) fun vs H Q E h => by
      show spFrameInit K (vs ++ []) H Q E
      rw [List.append_nil]
      exact h
theorem F_Frame1 (T : TX K mg) : FnR P w K mg bs CX0 2 (He.ma K (He.ga K "Frame") "__init__") (fun vs H Q E => spFrameInit K (vs ++ [.non]) H Q E) :=
  T.f_Frame_init.fnD S_Frame_init (fun vs H Q E ⟨_, _, _, _, h, _⟩ => by rw [h] <;> rfl) 2 0 (by simp) (by simp)
    (fun _ _ _ _ _ _ _ us its h1 h2 => match us, its, h1, h2 with | [_, _], [_], _, _ => ⟨_, rfl, rfl⟩) (FB_Frame_init T)
def plc : Option Str → Str
  | none => ""
  | some x => x
def spPlace (K : PySem.W.Frag) : Sp := fun vs H Q _ => ∃ (a : Addr) (s : Str) (t : Option Str), vs = [.ref a] ∧ FrAt K H a s t ∧ ∀ p H2, H p = none → Ex H H2 → H2 p = some (.tup [.str s, .str (plc t)]) → Q (.ref p) H2
theorem F_frame_place (T : TX K mg) : FnR P w K mg bs CX0 1 (He.ma K (He.ga K "Frame") "frame_place") (spPlace K) :=
  T.f_Frame_place.fn S_Frame_place (fun vs H Q E ⟨_, _, _, h, _⟩ => by rw [h] <;> rfl) (fun _ _ _ _ _ _ us hl => match us, hl with | [_], _ => rfl) (body0 fun cdv A outer s H vs Q E hr q => by
    obtain ⟨a, sd, t, rfl, ⟨dx, ha⟩, k⟩ := q
    refine ⟨_, (pss_one (ps_ret (pe_tup (pa_cons (pe_fld (pv 0) rfl) (pa_cons (pe_ifExp (pt_cmpR op_isN (pe_fld (pv 0) rfl) pe_non (nomark _)) pe_str (pe_fld (pv 0) rfl)) pa_nil))))), ?_⟩
    have cl := T.c_Frame
    refine ⟨.ref a, rfl, a, _, dx, _, .str sd, rfl, ha, cl, T.n_Frame_sender, rfl, ?_⟩
    refine ⟨.ref a, rfl, a, _, dx, _, oV t, rfl, ha, cl, T.n_Frame_target, rfl, ?_⟩
    cases t with
    | none => exact ⟨rfl, _, rfl, iteT ⟨Evl.sz_of (by show 2 ≤ 100000; decide), fun p hp => k p _ hp (Ex.new hp) upd_same⟩⟩
    | some x => exact ⟨rfl, _, rfl, iteF ⟨.ref a, rfl, a, _, dx, _, .str x, rfl, ha, cl, T.n_Frame_target, rfl, Evl.sz_of (by show 2 ≤ 100000; decide), fun p hp => k p _ hp (Ex.new hp) upd_same⟩⟩)
def FrSame (K : PySem.W.Frag) (a b : Addr) (H : Hp) : Prop := ∃ s t, FrAt K H a s t ∧ FrAt K H b s t
theorem FrSame.mono {a b : Addr} {H H' : Hp} (e : Ex H H') (h : FrSame K a b H) : FrSame K a b H' := by
  obtain ⟨s, t, h1, h2⟩ := h
  exact ⟨s, t, h1.mono e, h2.mono e⟩
theorem F_Frame_eq (T : TX K mg) : FnR P w K mg bs CX0 3 (He.ma K (He.ga K "Frame") "__eq__") (spEq (FrSame K)) :=
  T.f_Frame_eq.fn S_Frame_eq (fun vs H Q E ⟨_, _, h, _⟩ => by rw [h] <;> rfl) (fun _ _ _ _ _ _ us hl => match us, hl with | [_, _], _ => rfl) (body0 fun cdv A outer s H vs Q E hr q => by
    obtain ⟨a, b, rfl, ⟨sd, t, hA, hB⟩, k⟩ := q
    refine ⟨_, (pss_one (ps_ret (pe_and (pe_callB call_isi (by rfl) T.b_isinstance (by decide +kernel) (pa_cons (pv 1) (pa_cons (pe_glob (v := .ref (He.ga K "Frame")) (by rfl) T.g_Frame rfl) pa_nil))) (pe_one (pe_cmpR (op_eqG (rcG_tup mon_flat eqG_flat) (hr.mono (by decide))) (pe_methR0 (pv 0) T.c_Frame T.m_Frame_frame_place (F_frame_place T) (hr.mono (by decide)) pass0) (pe_methR0 (pv 1) T.c_Frame T.m_Frame_frame_place (F_frame_place T) (hr.mono (by decide)) pass0) (nomark _)))))), ?_⟩
    obtain ⟨dx, ha⟩ := id hA
    obtain ⟨dy, hb⟩ := id hB
    refine ⟨.ref b, rfl, .ref b, .ref (He.ga K "Frame"), .ref (He.ga K "Frame"), .ref (He.ga K "Frame"), true, rfl, .own _, ty_ins hb T.c_Frame T.q_Frame, T.is_Frame_Frame, true, rfl, iteT ?_⟩
    refine ⟨.ref a, rfl, a, dx, _, rfl, ha, rfl, a, sd, t, rfl, hA, fun p H2 hp e2 h2 => ?_⟩
    refine ⟨.ref b, rfl, b, dy, _, rfl, e2 _ _ hb, rfl, b, sd, t, rfl, hB.mono e2, fun p' H3 hp' e3 h3 => ?_⟩
    refine ⟨⟨p, p', _, _, rfl, rfl, .inl (.inl (e3 _ _ h2)), .inl (.inl h3), .cons ⟨rfl, rfl, ?_⟩ (.cons ⟨rfl, rfl, ?_⟩ .nil)⟩, fun H' e => k H' ((e2.trans e3).trans e)⟩
    · exact beq_self_eq_true _
    · exact beq_self_eq_true _)
end SfW
namespace SfW
open PySem PySem.Spec PyProof.Rows L2
open Evl (Ex RetV)
/-! histories -/
section
variable {X : Cx} {CX : CXT} {k : Nat} {f C : Addr} {sp : Sp} {E : XK} {x : Str} {e : Expr} {te : TE} {p sp_ pos : Pos}
/-- C(*y) -/
theorem pe_makeS1 (M : Mk X.K C f) (F : FnR X.prog X.w X.K X.mg X.base CX k f sp) (hr : Room (k + 1) X.A) (hg : Gl X x) (hm : X.mg x = some (.ref C)) (hx : Passes CX X E) (he : PE X e te) (hd : (x == ("__debug__" : Str)) = false := by decide)
    (hst : starEach [.Starred e sp_] X.env = [(true, eval e X.env)] := by rfl) :
    PE X (.Call (.Name x p) [.Starred e sp_] [] pos) (fun σ H Q => te σ H fun y H1 => ∃ a xs, y = V.ref a ∧ (SqT X.K H1 a xs ∨ SqL X.K H1 a xs) ∧ ∀ z dx, H1 z = none → H1 dx = none → dx ≠ z →
      sp (V.ref z :: xs) (upd (upd H1 dx (.own z)) z (.ins C dx [])) (fun v H2 => v = .non ∧ Q (.ref z) H2) E) := by
  refine ⟨fun pins s σ H Q I h => ?_⟩
  refine wpAny_Call_Name_kw (ld_glob I hg hm ?_ hd)
  refine PySem.W.callWith_S (h₀ := X.base) I.ok.mod.kin M.kp (thn (he.run pins s σ H _ I h) fun v s1 ⟨y, H1, I1, ry, a, xs, ey, hxs, q⟩ => ?_) hst
  subst ey
  obtain rfl : v = Value.ref a := ry
  exact StX.star_any I1 hxs fun us s2 I2 rv => ⟨I2.kIn, StX.run_makeR M F hr hx I2 rv q⟩
end
variable {P : Program} {w : World} {K : PySem.W.Frag} {mg : Str → Option Value} {bs : Heap}
abbrev Fr : Type := Str × Option Str
/-- the frames fs stand at refs -/
def FrsAt (K : PySem.W.Frag) (H : Hp) (refs : List V) (fs : List Fr) : Prop := Paired (fun v (f : Fr) => ∃ b, v = .ref b ∧ FrAt K H b f.1 f.2) refs fs
theorem FrsAt.mono {H H' : Hp} {refs : List V} {fs : List Fr} (h : FrsAt K H refs fs) (e : Ex H H') : FrsAt K H' refs fs := Paired.mapP h fun v f ⟨b, h1, h2⟩ => ⟨b, h1, h2.mono e⟩
theorem paired_at {α β : Type} {G : α → β → Prop} {xs : List α} {ys : List β} (h : Paired G xs ys) {i : Nat} {x : α} (hx : xs[i]? = some x) : ∃ y, ys[i]? = some y ∧ G x y := paired_get h hx
def HistAt (K : PySem.W.Frag) (H : Hp) (a : Addr) (fs : List Fr) : Prop := ∃ dx p refs, H a = some (.ins (He.ga K "History") dx [("rows", .ref p)]) ∧ H p = some (.tup refs) ∧ FrsAt K H refs fs
theorem HistAt.mono {H H' : Hp} {a : Addr} {fs : List Fr} (h : HistAt K H a fs) (e : Ex H H') : HistAt K H' a fs := by
  obtain ⟨dx, p, refs, h1, h2, h3⟩ := h
  exact ⟨dx, p, refs, e _ _ h1, e _ _ h2, h3.mono e⟩
def spHistInit (K : PySem.W.Frag) : Sp := fun vs H Q _ => ∃ (a dx p : Addr) (refs : List V) (fs : List Fr), vs = [.ref a, .ref p] ∧ H a = some (.ins (He.ga K "History") dx []) ∧ H p = some (.tup refs) ∧ FrsAt K H refs fs ∧ fs.length ≤ 60 ∧
  ∀ H2, Ex (del a H) H2 → H2 a = some (.ins (He.ga K "History") dx [("rows", .ref p)]) → Q .non H2
theorem F_History (T : TX K mg) : FnR P w K mg bs CX0 1 (He.ma K (He.ga K "History") "__init__") (fun vs H Q E => ∃ ws rest, vs = ws ++ rest ∧ ws.length = (["self"] : List Str).length ∧ rest.length ≤ sizeLine ∧ ∀ p, H p = none → spHistInit K (ws ++ [V.ref p]) (upd H p (.tup rest)) Q E) := by
  obtain ⟨fd, oc, od, dV, kV, doc, pm, an, cdv, ct, osl, rfl, lk, hcd, hD, _⟩ := (show ∃ fd, ∃ (oc : Value) (od : Option Addr) (dV kV doc pm : Value) (an : Option Addr) (cdv ct : Value) (osl : Array (Option Value)), _ from let ⟨fd, F⟩ := T.f_History_init; ⟨fd, F.ex⟩)
  obtain rfl : dV = .none := by
    rcases hD with ⟨_, h⟩ | ⟨h, _⟩
    · exact h
    · exact absurd rfl h
  refine StX.fn_star (ps := ["self"]) (pv := "frames") lk hcd S_History_init StX.cxUp_none (fun us rest hl => match us, rest, hl with | [_], [], _ => rfl | [_], _ :: _, _ => rfl) fun A outer s H vs Q E hr q => ?_
  · obtain ⟨a, dx, p, refs, fs, rfl, ha, hp, hf, hn, k⟩ := q
    suffices h : ∃ t, PSs (cxOf CX0 P w K mg bs N_History_init "History.__init__" (defScope s_History_init) (He.ma K (He.ga K "History") "__init__") cdv A outer s H E).nox (defBody s_History_init) t ∧ t { nx := fun _ H' => Q .non H', rt := Q } (start N_History_init [.ref a, .ref p]) H by
      obtain ⟨t, h1, h2⟩ := h
      exact ⟨t, h1.nox, h2⟩
    obtain ⟨_, hc⟩ := T.cv_History
    refine ⟨_, (pss_cons (ps_for PassesOwn.never rfl (pi_enumT (by rfl) T.b_enumerate (pa_cons (pv 1) pa_nil)) (pg_tup (n := 2) (by rfl) (pgs_cons (pg_name (i := 2) S_History_init.nd rfl (Or.inl rfl)) (pgs_cons (pg_name (i := 3) S_History_init.nd rfl (Or.inl rfl)) pgs_nil))) (pss_one (ps_if (pt_not (pt_val (pe_callB call_isi (by rfl) T.b_isinstance (by decide +kernel) (pa_cons (pv 3) (pa_cons (pe_glob (v := .ref (He.ga K "Frame")) (by rfl) T.g_Frame rfl) pa_nil))))) pss_never pss_nil))) (pss_cons (ps_if (pt_cmpR op_gt (pe_callB call_len_seq (by rfl) T.b_len PySem.boot_len (pa_cons (pv 1) pa_nil)) (ClX.pe_cval (pe_glob (v := .ref (He.ga K "History")) (by rfl) T.g_History rfl)) (nomark _)) pss_never pss_nil) (pss_one (ps_fld (pv 0) (pv 1) rfl)))), ?_⟩
    have rl : refs.length = fs.length := Paired.length hf
    refine ⟨.ref p, rfl, p, refs, rfl, .inl (.inl hp), for_it walk_enumT (fun i σ' H' => Ex H H' ∧ ∃ u v, σ' = [some (.ref a), some (.ref p), u, v]) ⟨Ex.refl _, none, none, rfl⟩ (fun i σ' H' _ p1 => Evl.ex_t p1.1 (.inl (.inl hp))) ?_ ?_⟩
    · intro i v σ' H' H'' hi ⟨e2, u1, u2, hs⟩ ⟨tq, x1, x2, h1, h2, h3, h4, h5⟩
      subst hs h1 h3
      obtain rfl : V.int i = x1 := Option.some.inj h4
      obtain ⟨f, hf1, b, rfl, dy, hb⟩ := paired_at hf h5
      have e3 : Ex H (upd H' tq (.tup [.int i, .ref b])) := e2.trans (Ex.new h2)
      refine ⟨tq, _, rfl, .inl (.inl upd_same), rfl, _, _, rfl, _, _, rfl, rfl, ?_⟩
      exact ⟨.ref b, rfl, .ref b, .ref (He.ga K "Frame"), .ref (He.ga K "Frame"), .ref (He.ga K "Frame"), true, rfl, .own _, ty_ins (e3 _ _ hb) T.c_Frame T.q_Frame, T.is_Frame_Frame, true, rfl, iteF ⟨e3, _, _, rfl⟩⟩
    · intro σ' H' ⟨e2, u1, u2, hs⟩
      subst hs
      refine ⟨.ref p, rfl, p, _, rfl, .inr (.inl (.inl (e2 _ _ hp))), He.ga K "History", .type "type", .int 60, _, rfl, T.cr_History, hc, _, _, rfl, rfl, _, rfl, iteZ (by omega) ?_⟩
      refine ⟨.ref p, rfl, .ref a, rfl, a, _, dx, [], rfl, e2 _ _ ha, T.c_History, T.n_History_rows, by decide, k _ (fun b o h => ?_) upd_same⟩
      obtain ⟨ne, hb⟩ := of_del h
      rw [upd_ne ne]
      exact e2 _ _ hb
def spHistOf (K : PySem.W.Frag) : Sp := fun vs H Q _ => ∃ (c l : Addr) (refs : List V) (fs : List Fr), vs = [.ref c, .ref l] ∧ H l = some (.lst refs) ∧ FrsAt K H refs fs ∧ fs.length ≤ 60 ∧ ∀ x H2, H x = none → Ex H H2 → HistAt K H2 x fs → Q (.ref x) H2
theorem F_History_of (T : TX K mg) : FnR P w K mg bs CX0 3 (cmA K (He.ga K "History") "of") (spHistOf K) :=
  T.f_History_of.fn S_History_of (fun vs H Q E ⟨_, _, _, _, h, _⟩ => by rw [h] <;> rfl) (fun _ _ _ _ _ _ us hl => match us, hl with | [_, _], _ => rfl) (body0 fun cdv A outer s H vs Q E hr q => by
    obtain ⟨c, l, refs, fs, rfl, hl, hf, hn, k⟩ := q
    refine ⟨_, (pss_cons (ps_if (pt_not (pt_val (pe_callB call_isiT (by rfl) T.b_isinstance (by decide +kernel) (pa_cons (pv 1) (pa_cons (pe_tup (pa_cons (pe_bltn (v := .ty "list") (by rfl) T.b_list (by decide +kernel) rfl) (pa_cons (pe_bltn (v := .ty "tuple") (by rfl) T.b_tuple (by decide +kernel) rfl) pa_nil))) pa_nil))))) pss_never pss_nil) (pss_one (ps_ret (pe_makeS1 T.k_History (F_History T) (hr.mono (by decide)) (by rfl) T.g_History pass0 (pv 1))))), ?_⟩
    have rl : refs.length = fs.length := Paired.length hf
    refine ⟨.ref l, rfl, Evl.sz_of (by decide), fun tp htp => ⟨.ref l, tp, _, .type "list", _, true, rfl, upd_same, ty2, .base (.lst (by rw [upd_ne (ne_of_none hl htp)]; exact hl)), kit_lst, true, rfl, iteF ?_⟩⟩
    have e1 : Ex H (upd H tp (.tup [.ty "list", .ty "tuple"])) := Ex.new htp
    refine ⟨.ref l, rfl, l, refs, rfl, .inr (.inl (.inl (e1 _ _ hl))), fun z dx hz hd hne => ⟨[.ref z], refs, rfl, rfl, Evl.sz_of (by omega), fun p hp => ?_⟩⟩
    have hpz : p ≠ z := fun h => by
      rw [h, upd_same] at hp
      cases hp
    have hpd : p ≠ dx := fun h => by
      rw [h, upd_ne hne, upd_same] at hp
      cases hp
    have e2 : Ex H (upd (upd (upd (upd H tp (.tup [.ty "list", .ty "tuple"])) dx (.own z)) z (.ins (He.ga K "History") dx [])) p (.tup refs)) := e1.trans ((Ex.new hd).trans ((Ex.new (by rw [upd_ne (Ne.symm hne)]; exact hz)).trans (Ex.new hp)))
    refine ⟨z, dx, p, refs, fs, rfl, by rw [upd_ne (Ne.symm hpz)]; exact upd_same, upd_same, hf.mono e2, hn, fun H2 e3 h3 => ⟨rfl, ?_⟩⟩
    have nz : H z = none := Evl.fresh_back e1 hz
    have e4 : Ex H H2 := fun b o h => e3 b o (by
      rw [del_ne (ne_of_none h nz)]
      exact e2 b o h)
    exact k z H2 nz e4 ⟨dx, p, refs, h3, e3 p _ (by rw [del_ne hpz]; exact upd_same), hf.mono e4⟩)
/-- a property that reads one attribute -/
def getR (C : Addr) (f : Str) : Sp := fun vs H Q _ => ∃ a dx fs v, vs = [.ref a] ∧ H a = some (.ins C dx fs) ∧ fs.lookup f = some v ∧ Q v H
theorem F_History_frames (T : TX K mg) : FnR P w K mg bs CX0 1 (pgA K (He.ga K "History") "frames") (getR (He.ga K "History") "rows") :=
  T.f_History_frames.fn S_History_frames (fun vs H Q E ⟨_, _, _, _, h, _⟩ => by rw [h] <;> rfl) (fun _ _ _ _ _ _ us hl => match us, hl with | [_], _ => rfl) (body0 fun cdv A outer s H vs Q E hr q => by
    obtain ⟨a, dx, fs, v, rfl, ha, hv, k⟩ := q
    exact ⟨_, (pss_one (ps_ret (pe_fld (pv 0) rfl))), .ref a, rfl, a, _, dx, fs, v, rfl, ha, T.c_History, T.n_History_rows, hv, k⟩)
def hostsIn (fs : List Fr) : List Str := fs.map (·.1) ++ fs.filterMap (·.2)
def spHistHosts (K : PySem.W.Frag) : Sp := fun vs H Q _ => ∃ (a : Addr) (fs : List Fr), vs = [.ref a] ∧ HistAt K H a fs ∧ fs.length ≤ 31 ∧ RetAsc (hostsIn fs) H Q
theorem F_History_hosts (T : TX K mg) : FnR P w K mg bs CX0 2 (pgA K (He.ga K "History") "hosts") (spHistHosts K) :=
  T.f_History_hosts.fn S_History_hosts (fun vs H Q E ⟨_, _, h, _⟩ => by rw [h] <;> rfl) (fun _ _ _ _ _ _ us hl => match us, hl with | [_], _ => rfl) (body0 fun cdv A outer s H vs Q E hr q => by
    obtain ⟨a, fs, rfl, ⟨dx, p, refs, ha, hp, hf⟩, hn, k⟩ := q
    refine ⟨_, (pss_cons (ps_setLc (i := 1) (own := [("frame", 2)]) rfl S_History_hosts.nd rfl rfl (sw_true rfl rfl rfl (by decide +kernel)) (pi_tup (pe_fld (pv 0) rfl)) (blkOk_by (N := N_History_hosts) (sc := defScope s_History_hosts) (by decide +kernel)) (fun _ _ _ _ _ => (pg_name (i := 2) S_History_hosts.nd rfl (Or.inl rfl))) (fun _ _ _ _ _ => pts_nil) (fun _ _ _ _ _ => (pe_at (K := K) (R := fun k => tFld k _ _) (pe_fld (pv 2) rfl) rfl))) (pss_one (ps_ret (pe_callR (F_ascending_names T) hr T.f_ascending_names.kp T.g_ascending_names pass0 (pa_cons (pe_lst (StX.pa_star (pv 1) (StX.pa_star (pe_lc (own := [("frame", 2)]) rfl S_History_hosts.nd (pi_tup (pe_fld (pv 0) rfl)) (blkOk_by (N := N_History_hosts) (sc := defScope s_History_hosts) (by decide +kernel)) (fun _ _ _ _ _ => (pg_name (i := 2) S_History_hosts.nd rfl (Or.inl rfl))) (fun _ _ _ _ _ => pts_one (pt_cmpR op_notN (pe_at (K := K) (R := fun k => tFld k _ _) (pe_fld (pv 2) rfl) rfl) pe_non (nomark _))) (fun _ _ _ _ _ => (pe_at (K := K) (R := fun k => tFld k _ _) (pe_fld (pv 2) rfl) rfl))) pa_nil))) pa_nil))))), ?_⟩
    have rl : refs.length = fs.length := Paired.length hf
    refine ⟨.ref a, rfl, a, _, dx, _, .ref p, rfl, ha, T.c_History, T.n_History_rows, rfl, p, rfl, ⟨refs, .inl (.inl hp)⟩, fun D hD => ?_⟩
    refine lcW walk_tup hD (fun i acc _ => acc = txs ((fs.take i).map (·.1))) (by omega) rfl (fun H' e => Evl.ex_t e (.inl (.inl hp))) ?_ ?_
    · intro i acc Hi Ha hi r e1 e2 C C0 hC _ x Hb ⟨rfl, hx⟩
      obtain ⟨f, hf1, b, rfl, dy, hb⟩ := paired_at hf hx
      refine ⟨rfl, yes ?_⟩
      refine ⟨.ref b, rfl, b, _, dy, _, .str f.1, rfl, (e1.trans e2) _ _ hb, T.c_Frame, T.n_Frame_sender, rfl, hC _ _ (Ex.refl _) fun H5 _ => ?_⟩
      rw [r, List.take_add_one, hf1]
      simp [txs]
    · intro acc H' la r e _ H2 e2 h2
      have e3 : Ex H H2 := e.trans e2
      rw [r, show refs.length = fs.length from rl, List.take_length] at h2
      refine ⟨.ref D, rfl, D, _, rfl, .inr (.inl (.inl h2)), .ref a, rfl, a, _, dx, _, .ref p, rfl, e3 _ _ ha, T.c_History, T.n_History_rows, rfl, p, rfl, ⟨refs, .inl (.inl (e3 _ _ hp))⟩, fun D2 hD2 => ?_⟩
      refine lcW walk_tup hD2 (fun i acc _ => acc = txs ((fs.take i).filterMap (·.2))) (by omega) rfl (fun H' e => Evl.ex_t (e3.trans e) (.inl (.inl hp))) ?_ ?_
      · intro i acc Hi Ha hi r e4 e5 C C0 hC hC0 x Hb ⟨rfl, hx⟩
        obtain ⟨f, hf1, b, rfl, dy, hb⟩ := paired_at hf hx
        have hb2 := ((e3.trans e4).trans e5) _ _ hb
        have et : (fs.take (i + 1)).filterMap (·.2) = (fs.take i).filterMap (·.2) ++ [f].filterMap (·.2) := by rw [List.take_add_one, hf1, ← List.filterMap_append] <;> rfl
        refine ⟨rfl, .ref b, rfl, b, _, dy, _, oV f.2, rfl, hb2, T.c_Frame, T.n_Frame_target, rfl, rfl, _, rfl, ?_⟩
        obtain ⟨f1, f2⟩ := f
        cases f2 with
        | none => exact iteF (hC0 _ (Ex.refl _) fun H5 _ => by rw [r, et]; simp [txs])
        | some y => exact iteT ⟨.ref b, rfl, b, _, dy, _, .str y, rfl, hb2, T.c_Frame, T.n_Frame_target, rfl, hC _ _ (Ex.refl _) fun H5 _ => by rw [r, et]; simp [txs]⟩
      · intro acc H4 la r e4 _ H5 e5 h5
        have e6 : Ex H H5 := e3.trans (e4.trans e5)
        rw [r, show refs.length = fs.length from rl, List.take_length] at h5
        have len1 : (fs.map (·.1)).length = fs.length := List.length_map _
        have len2 : (fs.filterMap (·.2)).length ≤ fs.length := List.length_filterMap_le _ _
        refine ⟨D2, _, rfl, .inr (.inl (.inl h5)), Evl.sz_of (by simp only [List.append_nil, List.length_append, List.length_map]; omega), fun z hz => ?_⟩
        have e7 : Ex H (upd H5 z (.lst (txs (fs.map (·.1)) ++ (txs (fs.filterMap (·.2)) ++ [])))) := e6.trans (Ex.new hz)
        refine ⟨z, hostsIn fs, rfl, .inl (.inl (.inl ?_)), by unfold hostsIn; rw [List.length_append]; omega, fun ys q H6 hq e8 h1 h3 h4 h6 => k ys q H6 (Evl.fresh_back e7 hq) (e7.trans e8) h1 h3 h4 h6⟩
        rw [upd_same]
        unfold hostsIn
        simp [txs])
end SfW
namespace SfW
open PySem PySem.Spec PyProof.Rows L2
open Evl (Ex RetV)
/-! cuts -/
theorem hu64 {A : Around} {k : Nat} (hr : Room k A) : A.units + 64 < cLine := hr.units
variable {P : Program} {w : World} {K : PySem.W.Frag} {mg : Str → Option Value} {bs : Heap}
/-- a side: names, at least two, each once -/
structure Side (xs : List Str) : Prop where
  two : 2 ≤ xs.length
  few : xs.length ≤ 40
  ok : ∀ x ∈ xs, NameOk x
  nd : xs.Nodup
def spIsSide : Sp := fun vs H Q _ => ∃ (a : Addr) (xs : List Str), vs = [.ref a] ∧ H a = some (.lst (txs xs)) ∧ Side xs ∧ RetV (.bl true) H Q
theorem lcTxs {xs : List Str} {i : Nat} {x : V} (h : (txs xs)[i]? = some x) : ∃ y ∈ xs, x = .str y := by
  obtain ⟨y, h1, h2⟩ := txs_get h
  exact ⟨y, List.mem_of_getElem? h1, h2⟩
theorem txs_len (xs : List Str) : (txs xs).length = xs.length := List.length_map _
theorem F_is_side (T : TX K mg) : FnR P w K mg bs CX0 2 (He.ga K "is_side") spIsSide :=
  T.f_is_side.fn S_is_side (fun vs H Q E ⟨_, _, h, _⟩ => by rw [h] <;> rfl) (fun _ _ _ _ _ _ us hl => match us, hl with | [_], _ => rfl) (body0 fun cdv A outer s H vs Q E hr q => by
    obtain ⟨a, xs, rfl, ha, S, k⟩ := q
    obtain ⟨_, hi_LEAST_SIDE⟩ := T.i_LEAST_SIDE
    refine ⟨_, (pss_cons (ps_if (PW.pt (pw_or (pt_not (pt_val (pe_callB call_isiT (by rfl) T.b_isinstance (by decide +kernel) (pa_cons (pv 0) (pa_cons (pe_tup (pa_cons (pe_bltn (v := .ty "list") (by rfl) T.b_list (by decide +kernel) rfl) (pa_cons (pe_bltn (v := .ty "tuple") (by rfl) T.b_tuple (by decide +kernel) rfl) pa_nil))) pa_nil))))) (pw_or1 (pt_cmpR op_lt (pe_callB call_len_seq (by rfl) T.b_len PySem.boot_len (pa_cons (pv 0) pa_nil)) (pe_glob (v := .int 2) (by rfl) hi_LEAST_SIDE ⟨_, rfl⟩) (nomark _))))) (pss_one (ps_ret pe_bl)) pss_nil) (pss_cons (ps_if (pt_not (pt_val (pe_callB (cr_all rfl) (by rfl) T.b_all (by decide +kernel) (pa_cons (pe_lc (own := [("one", 1)]) rfl S_is_side.nd (pi_list (pv 0)) (blkOk_by (N := N_is_side) (sc := defScope s_is_side) (by decide +kernel)) (fun _ _ _ _ _ => (pg_name (i := 1) S_is_side.nd rfl (Or.inl rfl))) (fun _ _ _ _ _ => pts_nil) (fun _ _ _ _ _ => (pe_callR (F_is_name T) (hr.mono (by decide)) T.f_is_name.kp T.g_is_name pass0 (pa_cons (pv 1) pa_nil)))) pa_nil)))) (pss_one (ps_ret pe_bl)) pss_nil) (pss_one (ps_ret (pe_cmpR op_eq (pe_callB cr_lenM (by rfl) T.b_len PySem.boot_len (pa_cons (pe_callTy (cr_setM rfl) (by rfl) T.b_set (by decide +kernel) (pa_cons (pe_lc (own := [("one", 1)]) rfl S_is_side.nd (pi_list (pv 0)) (blkOk_by (N := N_is_side) (sc := defScope s_is_side) (by decide +kernel)) (fun _ _ _ _ _ => (pg_name (i := 1) S_is_side.nd rfl (Or.inl rfl))) (fun _ _ _ _ _ => pts_nil) (fun _ _ _ _ _ => (pe_callTy SkE.call_str_str (by rfl) T.b_str (by decide +kernel) (pa_cons (pv 1) pa_nil)))) pa_nil)) pa_nil)) (pe_callB call_len_seq (by rfl) T.b_len PySem.boot_len (pa_cons (pv 0) pa_nil)) (nomark _)))))), ?_⟩
    have lz : (txs xs).length ≤ 50000 := by
      rw [txs_len]
      have := S.few
      omega
    refine ⟨.ref a, rfl, Evl.sz_of (by decide), fun tp htp => ⟨.ref a, tp, _, .type "list", _, true, rfl, upd_same, ty2, .base (.lst (by rw [upd_ne (ne_of_none ha htp)]; exact ha)), kit_lst, true, rfl, iteF ?_⟩⟩
    have e1 : Ex H (upd H tp (.tup [.ty "list", .ty "tuple"])) := Ex.new htp
    refine ⟨.ref a, rfl, a, _, rfl, .inl (.inl (.inl (e1 _ _ ha))), _, _, rfl, rfl, _, rfl, iteZ (by rw [txs_len]; have := S.two; omega) ?_⟩
    refine ⟨.ref a, rfl, a, rfl, ⟨_, .inl (.inl (e1 _ _ ha))⟩, fun D hD => lcM walk_list hD (fun _ => .bl true) lz (fun H' e => Evl.ex_l (e1.trans e) (.inl (.inl ha))) (fun i x Ha h e C hC => ?_) fun H2 e2 h2 => ?_⟩
    · obtain ⟨y, hy, rfl⟩ := lcTxs h
      exact ⟨rfl, _, rfl, y, rfl, S.ok y hy, fun H4 e4 => hC H4 e4⟩
    · have e3 : Ex H H2 := e1.trans e2
      refine ⟨D, xs.map fun _ => true, rfl, .inl (.inl (by rw [h2, txs, List.map_map, List.map_map]; rfl)), true, by simp, iteF ?_⟩
      refine ⟨.ref a, rfl, a, rfl, ⟨_, .inl (.inl (e3 _ _ ha))⟩, fun D2 hD2 => lcM walk_list hD2 id lz (fun H' e => Evl.ex_l (e3.trans e) (.inl (.inl ha))) (fun i x Ha h e C hC => ?_) fun H4 e4 h4 => ?_⟩
      · obtain ⟨y, hy, rfl⟩ := lcTxs h
        exact ⟨rfl, _, rfl, y, rfl, hC _ (Ex.refl _)⟩
      · have e5 : Ex H H4 := e3.trans e4
        rw [List.map_id] at h4
        refine ⟨D2, xs.map .inr, rfl, by rw [txs_kV]; exact .inl (.inl h4), by rw [List.length_map]; have := S.few; omega, fun p c hp _ _ => ?_⟩
        have nd : (xs.map (Sum.inr : Str → Key)).Nodup := List.Pairwise.map _ (fun x y h e => h (Sum.inr.inj e)) S.nd
        refine ⟨p, xs.map .inr, xs.map .inr, c, rfl, upd_same, nd, fun k => Iff.rfl, by rw [List.length_map]; have := S.few; omega, ?_⟩
        have e6 : Ex H (upd H4 p (SetMO w p (inK (xs.map .inr)) c)) := e5.trans (Ex.new hp)
        refine ⟨.ref a, rfl, a, _, rfl, .inl (.inl (.inl (e6 _ _ ha))), rfl, ?_⟩
        rw [List.length_map, txs_len, decide_eq_true rfl]
        exact k _ e6)
/-- a new tuple of the texts of xs in order -/
def RetSort (xs : List Str) (H : Hp) (Q : VK) : Prop := ∀ ys p H2, H p = none → Ex H H2 → H2 p = some (.tup (txs ys)) → ys.Perm xs → sortedS ys = true → Q (.ref p) H2
def spSort : Sp := fun vs H Q _ => ∃ (a : Addr) (xs : List Str), vs = [.ref a] ∧ H a = some (.lst (txs xs)) ∧ xs.length < 64 ∧ RetSort xs H Q
theorem F_ascending_cuts (T : TX K mg) : FnR P w K mg bs CX0 1 (He.ga K "ascending_cuts") spSort :=
  T.f_ascending_cuts.fn S_ascending_cuts (fun vs H Q E ⟨_, _, h, _⟩ => by rw [h] <;> rfl) (fun _ _ _ _ _ _ us hl => match us, hl with | [_], _ => rfl) (body0 fun cdv A outer s H vs Q E hr q => by
    obtain ⟨a, xs, rfl, ha, hn, k⟩ := q
    refine ⟨_, (pss_one (ps_ret (pe_callTy call_tuple_of (by rfl) T.b_tuple (by decide +kernel) (pa_cons (pe_callB (cr_sortedS) (by rfl) T.b_sorted (by decide +kernel) (pa_cons (pe_lc (own := [("name", 1)]) rfl S_ascending_cuts.nd (pi_list (pv 0)) (blkOk_by (N := N_ascending_cuts) (sc := defScope s_ascending_cuts) (by decide +kernel)) (fun _ _ _ _ _ => (pg_name (i := 1) S_ascending_cuts.nd rfl (Or.inl rfl))) (fun _ _ _ _ _ => pts_nil) (fun _ _ _ _ _ => (pe_callTy SkE.call_str_str (by rfl) T.b_str (by decide +kernel) (pa_cons (pv 1) pa_nil)))) pa_nil)) pa_nil)))), ?_⟩
    refine ⟨.ref a, rfl, a, rfl, ⟨_, .inl (.inl ha)⟩, fun D hD => lcM walk_list hD id (by rw [txs_len]; omega) (fun H' e => Evl.ex_l e (.inl (.inl ha))) (fun i x Ha h e C hC => ?_) fun H2 e2 h2 => ?_⟩
    · obtain ⟨y, hy, rfl⟩ := lcTxs h
      exact ⟨rfl, _, rfl, y, rfl, hC _ (Ex.refl _)⟩
    · rw [List.map_id] at h2
      refine ⟨D, xs, rfl, .inl (.inl h2), hn, fun ys p pm hs hp => ?_⟩
      have e3 : Ex H (upd H2 p (.lst (txs ys))) := e2.trans (Ex.new hp)
      exact ⟨p, txs ys, rfl, .inl ⟨.inl (.inl upd_same), fun l hl => k ys l _ (Evl.fresh_back e3 hl) (e3.trans (Ex.new hl)) upd_same pm hs⟩⟩)
/-- the cut of the sides xs, ys stands at a; al: its hosts -/
def CutAt (K : PySem.W.Frag) (H : Hp) (a : Addr) (xs ys al : List Str) : Prop := ∃ dx p q r ns fs, H a = some (.ins (He.ga K "Cut") dx [("near_side", .ref p), ("far_side", .ref q), ("all_names", .ref r)]) ∧
  H p = some (.tup (txs ns)) ∧ H q = some (.tup (txs fs)) ∧ H r = some (.tup (txs al)) ∧ ((ns.Perm xs ∧ fs.Perm ys) ∨ (ns.Perm ys ∧ fs.Perm xs))
theorem CutAt.mono {H H' : Hp} {a : Addr} {xs ys al : List Str} (h : CutAt K H a xs ys al) (e : Ex H H') : CutAt K H' a xs ys al := by
  obtain ⟨dx, p, q, r, ns, fs, h1, h2, h3, h4, h5⟩ := h
  exact ⟨dx, p, q, r, ns, fs, e _ _ h1, e _ _ h2, e _ _ h3, e _ _ h4, h5⟩
def spCutInit (K : PySem.W.Frag) : Sp := fun vs H Q _ => ∃ (a dx l1 l2 : Addr) (xs ys : List Str), vs = [.ref a, .ref l1, .ref l2] ∧ H a = some (.ins (He.ga K "Cut") dx []) ∧ H l1 = some (.lst (txs xs)) ∧ H l2 = some (.lst (txs ys)) ∧ Side xs ∧ Side ys ∧ (∀ x ∈ ys, x ∉ xs) ∧ xs.length + ys.length < 64 ∧
  ∀ H2 al, Ex (del a H) H2 → CutAt K H2 a xs ys al → al.Perm (xs ++ ys) → sortedS al = true → Q .non H2
theorem F_Cut (T : TX K mg) : FnR P w K mg bs CX0 3 (He.ma K (He.ga K "Cut") "__init__") (spCutInit K) :=
  T.f_Cut_init.fn S_Cut_init (fun vs H Q E ⟨_, _, _, _, _, _, h, _⟩ => by rw [h] <;> rfl) (fun _ _ _ _ _ _ us hl => match us, hl with | [_, _, _], _ => rfl) (body0 fun cdv A outer s H vs Q E hr q => by
    obtain ⟨a, dx, l1, l2, xs, ys, rfl, ha, h1, h2, S1, S2, dj, hz, k⟩ := q
    refine ⟨_, (pss_cons (ps_if (pt_not (pt_val (pe_callR (F_is_side T) (hr.mono (by decide)) T.f_is_side.kp T.g_is_side pass0 (pa_cons (pv 1) pa_nil)))) pss_never pss_nil) (pss_cons (ps_if (PW.pt (pw_or (pt_not (pt_val (pe_callR (F_is_side T) (hr.mono (by decide)) T.f_is_side.kp T.g_is_side pass0 (pa_cons (pv 2) pa_nil)))) (pw_or1 (pt_val (pe_callB (cr_any rfl) (by rfl) T.b_any (by decide +kernel) (pa_cons (pe_lc (own := [("name", 6)]) rfl S_Cut_init.nd (pi_list (pv 2)) (blkOk_by (N := N_Cut_init) (sc := defScope s_Cut_init) (by decide +kernel)) (fun _ _ _ _ _ => (pg_name (i := 6) S_Cut_init.nd rfl (Or.inl rfl))) (fun _ _ _ _ _ => pts_nil) (fun _ _ _ _ _ => (pe_at (K := K) (R := fun k => tOp (rIn k false) _ _) (pe_cmpR op_in_seq (pv 6) (pv 1) (by rfl)) rfl))) pa_nil)))))) pss_never pss_nil) (pss_cons (ps_par (i := 3) (j := 4) (by rfl) S_Cut_init.nd rfl rfl (by decide) rfl rfl (pa_cons (pe_callR (F_ascending_cuts T) (hr.mono (by decide)) T.f_ascending_cuts.kp T.g_ascending_cuts pass0 (pa_cons (pv 1) pa_nil)) (pa_cons (pe_callR (F_ascending_cuts T) (hr.mono (by decide)) T.f_ascending_cuts.kp T.g_ascending_cuts pass0 (pa_cons (pv 2) pa_nil)) pa_nil)) (by rfl)) (pss_cons (ps_set (i := 5) S_Cut_init.nd rfl (Or.inl rfl) (pe_cmpR op_lt_str (pe_ix ix_tup (pv 4) pe_int (fun _ _ => rfl)) (pe_ix ix_tup (pv 3) pe_int (fun _ _ => rfl)) (nomark _))) (pss_cons (ps_fld (pv 0) (pe_ifExp (pt_val (pv 5)) (pv 4) (pv 3)) rfl) (pss_cons (ps_fld (pv 0) (pe_ifExp (pt_val (pv 5)) (pv 3) (pv 4)) rfl) (pss_one (ps_fld (pv 0) (pe_callR (F_ascending_cuts T) (hr.mono (by decide)) T.f_ascending_cuts.kp T.g_ascending_cuts pass0 (pa_cons (pe_lst (StX.pa_star (pv 3) (StX.pa_star (pv 4) pa_nil))) pa_nil)) rfl)))))))), ?_⟩
    refine ⟨.ref l1, rfl, l1, xs, rfl, h1, S1, fun H1 e1 => ⟨true, rfl, iteF ?_⟩⟩
    refine ⟨.ref l2, rfl, l2, ys, rfl, e1 _ _ h2, S2, fun H2 e2 => ⟨true, rfl, iteF ?_⟩⟩
    have e12 : Ex H H2 := e1.trans e2
    refine ⟨.ref l2, rfl, l2, rfl, ⟨_, .inl (.inl (e12 _ _ h2))⟩, fun D hD => lcM walk_list hD (fun _ => .bl false) (by rw [txs_len]; omega) (fun H' e => Evl.ex_l (e12.trans e) (.inl (.inl h2))) (fun i x Ha h e C hC => ?_) fun H3 e3 h3 => ?_⟩
    · obtain ⟨y, hy, rfl⟩ := lcTxs h
      refine ⟨rfl, .str y, rfl, .ref l1, rfl, l1, txs xs, rfl, .inl (.inl (.inl ((e12.trans e) _ _ h1))), rfl, flat_txs xs, ?_⟩
      show C (.bl (inV (.str y) (txs xs))) _
      rw [inV_txs, decide_eq_false (dj y hy)]
      exact hC _ (Ex.refl _)
    · have e13 := e12.trans e3
      refine ⟨D, ys.map fun _ => false, rfl, .inl (.inl (by rw [h3, txs, List.map_map, List.map_map]; rfl)), _, rfl, ?_⟩
      rw [show (ys.map fun _ => false).any id = false by simp]
      refine iteF ?_
      have below : ∀ z : List Str, Side z → z.length < 64 := fun z h => by
        have := h.few
        omega
      refine ⟨.ref l1, rfl, l1, xs, rfl, e13 _ _ h1, below _ S1, fun as p1 H4 hp1 e4 ha4 pa sa => ?_⟩
      have e14 := e13.trans e4
      refine ⟨.ref l2, rfl, l2, ys, rfl, e14 _ _ h2, below _ S2, fun cs p2 H5 hp2 e5 hc5 pc sc => ⟨_, _, rfl, ?_⟩⟩
      have e15 := e14.trans e5
      have hd : ∀ {z m : List Str}, Side z → m.Perm z → ∃ y r, m = y :: r := fun {z m} h p => by
        cases m with
        | nil =>
          have q := p.length_eq
          have t := h.two
          rw [List.length_nil] at q
          omega
        | cons y r => exact ⟨y, r, rfl⟩
      obtain ⟨a0, ar, ea⟩ := hd S1 pa
      obtain ⟨c0, cr, ec⟩ := hd S2 pc
      refine ⟨.ref p2, rfl, p2, txs cs, 0, .str c0, rfl, rfl, .inl (.inl hc5), by rw [ec]; exact atI_nat (j := 0) rfl, ?_⟩
      refine ⟨.ref p1, rfl, p1, txs as, 0, .str a0, rfl, rfl, .inl (.inl (e5 _ _ ha4)), by rw [ea]; exact atI_nat (j := 0) rfl, c0, a0, rfl, rfl, ?_⟩
      generalize decide (c0.cps.toList < a0.cps.toList) = b
      have n1 : p1 ≠ a := ne_of (e5 _ _ ha4) (e15 _ _ ha) (fun z => nomatch z)
      have n2 : p2 ≠ a := ne_of hc5 (e15 _ _ ha) (fun z => nomatch z)
      have third : ∀ (p q : Addr) (ns fs : List Str), ((ns.Perm xs ∧ fs.Perm ys) ∨ (ns.Perm ys ∧ fs.Perm xs)) → H5 p = some (.tup (txs ns)) → H5 q = some (.tup (txs fs)) → p ≠ a → q ≠ a →
          sFld K (tVar 0) (tCallR spSort E0 (tCons (tLst (StX.tStar K (tVar 3) (StX.tStar K (tVar 4) tNil))) tNil)) "all_names" { nx := fun _ H' => Q .non H', rt := Q } [some (.ref a), some (.ref l1), some (.ref l2), some (.ref p1), some (.ref p2), some (.bl b), none]
            (upd H5 a (.ins (He.ga K "Cut") dx [("near_side", .ref p), ("far_side", .ref q)])) := fun p q ns fs hpm hp hq np nq => by
        refine ⟨.ref p1, rfl, p1, txs as, rfl, .inl (.inl (.inl (by rw [upd_ne n1]; exact e5 _ _ ha4))), .ref p2, rfl, p2, txs cs, rfl, .inl (.inl (.inl (by rw [upd_ne n2]; exact hc5))), Evl.sz_of (by rw [List.append_nil, List.length_append, txs_len, txs_len, pa.length_eq, pc.length_eq]; omega), fun l hl => ?_⟩
        have nl : l ≠ a := fun z => by
          rw [z, upd_same] at hl
          cases hl
        refine ⟨l, as ++ cs, rfl, by rw [upd_same]; simp [txs], by rw [List.length_append, pa.length_eq, pc.length_eq]; omega, fun al r H6 hr6 e6 har pm sal => ?_⟩
        have e16 : Ex (upd H5 a (.ins (He.ga K "Cut") dx [("near_side", .ref p), ("far_side", .ref q)])) H6 := (Ex.new hl).trans e6
        refine ⟨.ref a, rfl, a, _, dx, [("near_side", .ref p), ("far_side", .ref q)], rfl, e16 _ _ upd_same, T.c_Cut, T.n_Cut_all_names, (by show 2 < 1000; decide), ?_⟩
        have up : ∀ c o, c ≠ a → H5 c = some o → upd H6 a (.ins (He.ga K "Cut") dx [("near_side", .ref p), ("far_side", .ref q), ("all_names", .ref r)]) c = some o := fun c o hc h => by
          rw [upd_ne hc]
          exact e16 _ _ (by rw [upd_ne hc]; exact h)
        have nr : r ≠ a := fun z => by
          rw [z, upd_ne (Ne.symm nl), upd_same] at hr6
          cases hr6
        refine k _ al (fun c o h => ?_) ⟨dx, p, q, r, ns, fs, upd_same, up _ _ np hp, up _ _ nq hq, by rw [upd_ne nr]; exact har, hpm⟩ (pm.trans (pa.append pc)) sal
        obtain ⟨hc, h0⟩ := of_del h
        exact up c o hc (e15 _ _ h0)
      cases b with
      | true =>
        refine ⟨.bl true, rfl, true, rfl, iteT ⟨.ref p2, rfl, .ref a, rfl, a, _, dx, [], rfl, e15 _ _ ha, T.c_Cut, T.n_Cut_near_side, by decide, ?_⟩⟩
        refine ⟨.bl true, rfl, true, rfl, iteT ⟨.ref p1, rfl, .ref a, rfl, a, _, dx, [("near_side", .ref p2)], rfl, upd_same, T.c_Cut, T.n_Cut_far_side, (by show 1 < 1000; decide), ?_⟩⟩
        rw [upd_upd]
        exact third p2 p1 cs as (.inr ⟨pc, pa⟩) hc5 (e5 _ _ ha4) n2 n1
      | false =>
        refine ⟨.bl false, rfl, false, rfl, iteF ⟨.ref p1, rfl, .ref a, rfl, a, _, dx, [], rfl, e15 _ _ ha, T.c_Cut, T.n_Cut_near_side, by decide, ?_⟩⟩
        refine ⟨.bl false, rfl, false, rfl, iteF ⟨.ref p2, rfl, .ref a, rfl, a, _, dx, [("near_side", .ref p1)], rfl, upd_same, T.c_Cut, T.n_Cut_far_side, (by show 1 < 1000; decide), ?_⟩⟩
        rw [upd_upd]
        exact third p1 p2 as cs (.inl ⟨pa, pc⟩) (e5 _ _ ha4) hc5 n1 n2)
theorem F_Cut_near (T : TX K mg) : FnR P w K mg bs CX0 1 (pgA K (He.ga K "Cut") "near") (getR (He.ga K "Cut") "near_side") :=
  T.f_Cut_near.fn S_Cut_near (fun vs H Q E ⟨_, _, _, _, h, _⟩ => by rw [h] <;> rfl) (fun _ _ _ _ _ _ us hl => match us, hl with | [_], _ => rfl) (body0 fun cdv A outer s H vs Q E hr q => by
    obtain ⟨a, dx, fs, v, rfl, ha, hv, k⟩ := q
    exact ⟨_, (pss_one (ps_ret (pe_fld (pv 0) rfl))), .ref a, rfl, a, _, dx, fs, v, rfl, ha, T.c_Cut, T.n_Cut_near_side, hv, k⟩)
theorem F_Cut_far (T : TX K mg) : FnR P w K mg bs CX0 1 (pgA K (He.ga K "Cut") "far") (getR (He.ga K "Cut") "far_side") :=
  T.f_Cut_far.fn S_Cut_far (fun vs H Q E ⟨_, _, _, _, h, _⟩ => by rw [h] <;> rfl) (fun _ _ _ _ _ _ us hl => match us, hl with | [_], _ => rfl) (body0 fun cdv A outer s H vs Q E hr q => by
    obtain ⟨a, dx, fs, v, rfl, ha, hv, k⟩ := q
    exact ⟨_, (pss_one (ps_ret (pe_fld (pv 0) rfl))), .ref a, rfl, a, _, dx, fs, v, rfl, ha, T.c_Cut, T.n_Cut_far_side, hv, k⟩)
theorem F_Cut_hosts (T : TX K mg) : FnR P w K mg bs CX0 1 (pgA K (He.ga K "Cut") "hosts") (getR (He.ga K "Cut") "all_names") :=
  T.f_Cut_hosts.fn S_Cut_hosts (fun vs H Q E ⟨_, _, _, _, h, _⟩ => by rw [h] <;> rfl) (fun _ _ _ _ _ _ us hl => match us, hl with | [_], _ => rfl) (body0 fun cdv A outer s H vs Q E hr q => by
    obtain ⟨a, dx, fs, v, rfl, ha, hv, k⟩ := q
    exact ⟨_, (pss_one (ps_ret (pe_fld (pv 0) rfl))), .ref a, rfl, a, _, dx, fs, v, rfl, ha, T.c_Cut, T.n_Cut_all_names, hv, k⟩)
/-- data of texts -/
theorem dp_txs {H : Hp} : ∀ xs : List Str, DpAll K H (txs xs) (xs.map .str)
  | [] => .nil
  | x :: xs => .cons (.str x) (dp_txs xs)
theorem name_str {x : Str} (h : NameOk x) : PyData.strOk x = true := by
  unfold PyData.strOk
  rw [Array.all_eq_true]
  intro i hi
  obtain ⟨k, hk, e⟩ := h.2.2 x.cps[i] (by simp)
  rw [e]
  exact decide_eq_true (by omega)
theorem lay_txs : ∀ {xs : List Str}, (∀ x ∈ xs, NameOk x) → PyData.canLayAll0 (xs.map .str) = true ∧ PyData.depthAll (xs.map .str) = 0
  | [], _ => ⟨rfl, rfl⟩
  | x :: xs, h => by
    obtain ⟨h1, h2⟩ := lay_txs (xs := xs) fun y hy => h y (List.mem_cons_of_mem _ hy)
    refine ⟨?_, ?_⟩
    · show (PyData.strOk x && PyData.canLayAll0 (xs.map .str)) = true
      rw [name_str (h x List.mem_cons_self), h1]
      rfl
    · show max 0 (PyData.depthAll (xs.map .str)) = 0
      rw [h2]
      rfl
theorem shaped_t {xs : List Str} (h : ∀ x ∈ xs, NameOk x) : SeqAt.shaped (.tuple (xs.map .str)) = true := by
  obtain ⟨h1, h2⟩ := lay_txs h
  show (PyData.canLayAll0 (xs.map .str) && decide (PyData.depthAll (xs.map .str) + 1 ≤ 64)) = true
  rw [h1, h2]
  rfl
theorem eqv_t {xs : List Str} (h : ∀ x ∈ xs, NameOk x) : PyData.eqv (.tuple (xs.map .str)) (.tuple (xs.map .str)) = true := SeqAt.eqv_refl _ (lay_txs h).1
/-- two cuts of the same hosts that do not cross: a side of one apart from a side of the other -/
def Apart (x1 y1 x2 y2 : List Str) : Prop := ∃ s t, (s = x1 ∨ s = y1) ∧ (t = x2 ∨ t = y2) ∧ ∀ x ∈ s, x ∉ t
def spCrosses (K : PySem.W.Frag) : Sp := fun vs H Q _ => ∃ (a b : Addr) (x1 y1 x2 y2 al : List Str), vs = [.ref a, .ref b] ∧ CutAt K H a x1 y1 al ∧ CutAt K H b x2 y2 al ∧ Apart x1 y1 x2 y2 ∧ x1.length ≤ 40 ∧ y1.length ≤ 40 ∧ x2.length ≤ 40 ∧ y2.length ≤ 40 ∧ (∀ x ∈ al, NameOk x) ∧ RetV (.bl false) H Q
theorem F_crosses (T : TX K mg) : FnR P w K mg bs CX0 3 (He.ma K (He.ga K "Cut") "crosses") (spCrosses K) :=
  T.f_crosses.fn S_crosses (fun vs H Q E ⟨_, _, _, _, _, _, _, h, _⟩ => by rw [h] <;> rfl) (fun _ _ _ _ _ _ us hl => match us, hl with | [_, _], _ => rfl) (body0 fun cdv A outer s H vs Q E hr q => by
    obtain ⟨a, b, x1, y1, x2, y2, al, rfl, ⟨dx, p1, q1, r1, n1, f1, hA, hp1, hq1, hr1, pm1⟩, ⟨dy, p2, q2, r2, n2, f2, hB, hp2, hq2, hr2, pm2⟩, ap, z1, z2, z3, z4, nm, k⟩ := q
    refine ⟨_, (pss_cons (ps_if (PW.pt (pw_or (pt_not (pt_val (pe_callB call_isi (by rfl) T.b_isinstance (by decide +kernel) (pa_cons (pv 1) (pa_cons (pe_glob (v := .ref (He.ga K "Cut")) (by rfl) T.g_Cut rfl) pa_nil))))) (pw_or1 (pt_cmpR (op_neD (hu64 hr)) (pe_fld (pv 0) rfl) (pe_propR (pv 1) T.c_Cut T.p_Cut_hosts (F_Cut_hosts T) (hr.mono (by decide)) pass0) (nomark _))))) pss_never pss_nil) (pss_cons (ps_for PassesOwn.never rfl (pi_tup (pe_tup (pa_cons (pe_fld (pv 0) rfl) (pa_cons (pe_fld (pv 0) rfl) pa_nil)))) (pg_name (i := 2) S_crosses.nd rfl (Or.inl rfl)) (pss_one (ps_for PassesOwn.never rfl (pi_tup (pe_tup (pa_cons (pe_propR (pv 1) T.c_Cut T.p_Cut_near (F_Cut_near T) (hr.mono (by decide)) pass0) (pa_cons (pe_propR (pv 1) T.c_Cut T.p_Cut_far (F_Cut_far T) (hr.mono (by decide)) pass0) pa_nil)))) (pg_name (i := 3) S_crosses.nd rfl (Or.inr rfl)) (pss_one (ps_if (pt_not (pt_val (pe_callB (cr_any rfl) (by rfl) T.b_any (by decide +kernel) (pa_cons (pe_lc (own := [("name", 4)]) rfl S_crosses.nd (pi_tup (pv 2)) (blkOk_by (N := N_crosses) (sc := defScope s_crosses) (by decide +kernel)) (fun _ _ _ _ _ => (pg_name (i := 4) S_crosses.nd rfl (Or.inl rfl))) (fun _ _ _ _ _ => pts_nil) (fun _ _ _ _ _ => (pe_at (K := K) (R := fun k => tOp (rIn k false) _ _) (pe_cmpR op_in_seq (pv 4) (pv 3) (by rfl)) rfl))) pa_nil)))) (pss_one (ps_ret pe_bl)) pss_nil))))) (pss_one (ps_ret pe_bl)))), ?_⟩
    have cl := T.c_Cut
    refine ⟨.ref b, rfl, .ref b, .ref (He.ga K "Cut"), .ref (He.ga K "Cut"), .ref (He.ga K "Cut"), true, rfl, .own _, ty_ins hB cl T.q_Cut, T.is_Cut_Cut, true, rfl, iteF ?_⟩
    refine ⟨.ref a, rfl, a, _, dx, _, .ref r1, rfl, hA, cl, T.n_Cut_all_names, rfl, .ref b, rfl, b, dy, _, rfl, hB, b, dy, _, .ref r2, rfl, hB, rfl, .tuple (al.map .str), .tuple (al.map .str), .tup (.inl (.inl hr1)) (dp_txs al), .tup (.inl (.inl hr2)) (dp_txs al), ?_, ?_, _, rfl, ?_⟩
    · exact shaped_t nm
    · exact shaped_t nm
    rw [eqv_t nm]
    refine iteF ?_
    -- the sides by number
    let S1 : Nat → List Str := fun i => if i = 0 then n1 else f1
    let S2 : Nat → List Str := fun i => if i = 0 then n2 else f2
    let P1 : Nat → Addr := fun i => if i = 0 then p1 else q1
    let P2 : Nat → Addr := fun i => if i = 0 then p2 else q2
    have a1 : ∀ i, H (P1 i) = some (.tup (txs (S1 i))) := fun i => by
      by_cases h : i = 0
      · simp only [P1, S1, if_pos h]
        exact hp1
      · simp only [P1, S1, if_neg h]
        exact hq1
    have a2 : ∀ i, H (P2 i) = some (.tup (txs (S2 i))) := fun i => by
      by_cases h : i = 0
      · simp only [P2, S2, if_pos h]
        exact hp2
      · simp only [P2, S2, if_neg h]
        exact hq2
    have two : ∀ (p q : Addr) (i : Nat) (x : V), ([V.ref p, V.ref q] : List V)[i]? = some x → i < 2 ∧ x = .ref (if i = 0 then p else q) := fun p q i x h => by
      match i, h with
      | 0, h => exact ⟨by omega, (Option.some.inj h).symm⟩
      | 1, h => exact ⟨by omega, (Option.some.inj h).symm⟩
      | n + 2, h => simp at h
    have l1 : ∀ i, (S1 i).length ≤ 40 := fun i => by
      have e1 := pm1
      by_cases h : i = 0
      · simp only [S1, if_pos h]
        rcases e1 with e | e
        · rw [e.1.length_eq]; exact z1
        · rw [e.1.length_eq]; exact z2
      · simp only [S1, if_neg h]
        rcases e1 with e | e
        · rw [e.2.length_eq]; exact z2
        · rw [e.2.length_eq]; exact z1
    obtain ⟨i0, j0, hi0, hj0, hap⟩ : ∃ i0 j0, i0 < 2 ∧ j0 < 2 ∧ ∀ x ∈ S1 i0, x ∉ S2 j0 := by
      obtain ⟨s, t, hs, ht, hd⟩ := ap
      have w1 : ∃ i, i < 2 ∧ ∀ x, x ∈ S1 i → x ∈ s := by
        rcases pm1 with e | e
        · rcases hs with rfl | rfl
          · exact ⟨0, by omega, fun x hx => e.1.mem_iff.mp hx⟩
          · exact ⟨1, by omega, fun x hx => e.2.mem_iff.mp hx⟩
        · rcases hs with rfl | rfl
          · exact ⟨1, by omega, fun x hx => e.2.mem_iff.mp hx⟩
          · exact ⟨0, by omega, fun x hx => e.1.mem_iff.mp hx⟩
      have w2 : ∃ i, i < 2 ∧ ∀ x, x ∈ S2 i → x ∈ t := by
        rcases pm2 with e | e
        · rcases ht with rfl | rfl
          · exact ⟨0, by omega, fun x hx => e.1.mem_iff.mp hx⟩
          · exact ⟨1, by omega, fun x hx => e.2.mem_iff.mp hx⟩
        · rcases ht with rfl | rfl
          · exact ⟨1, by omega, fun x hx => e.2.mem_iff.mp hx⟩
          · exact ⟨0, by omega, fun x hx => e.1.mem_iff.mp hx⟩
      obtain ⟨i0, h1, g1⟩ := w1
      obtain ⟨j0, h2, g2⟩ := w2
      exact ⟨i0, j0, h1, h2, fun x hx hy => hd x (g1 x hx) (g2 x hy)⟩
    refine ⟨.ref a, rfl, a, _, dx, _, .ref p1, rfl, hA, cl, T.n_Cut_near_side, rfl, .ref a, rfl, a, _, dx, _, .ref q1, rfl, hA, cl, T.n_Cut_far_side, rfl, Evl.sz_of (by show 2 ≤ 100000; decide), fun t1 ht1 => ⟨t1, rfl, ⟨_, .inl (.inl upd_same)⟩, ?_⟩⟩
    have e1 : Ex H (upd H t1 (.tup [.ref p1, .ref q1])) := Ex.new ht1
    refine for_tup (xs := [.ref p1, .ref q1]) (fun i σ' H' => Ex (upd H t1 (.tup [.ref p1, .ref q1])) H' ∧ i ≤ i0 ∧ ∃ u v w', σ' = [some (.ref a), some (.ref b), u, v, w']) ⟨Ex.refl _, Nat.zero_le _, none, none, none, rfl⟩ (fun i σ' H' _ p => Evl.ex_t p.1 (.inl (.inl upd_same))) ?_ ?_
    · intro i x σ' H' hx ⟨e2, hi, u, v, w', hs⟩
      subst hs
      obtain ⟨hi2, rfl⟩ := two p1 q1 i x hx
      have e3 : Ex H H' := e1.trans e2
      refine ⟨.ref b, rfl, b, dy, _, rfl, e3 _ _ hB, b, dy, _, .ref p2, rfl, e3 _ _ hB, rfl, .ref b, rfl, b, dy, _, rfl, e3 _ _ hB, b, dy, _, .ref q2, rfl, e3 _ _ hB, rfl, Evl.sz_of (by show 2 ≤ 100000; decide), fun t2 ht2 => ⟨t2, rfl, ⟨_, .inl (.inl upd_same)⟩, ?_⟩⟩
      have e4 : Ex H' (upd H' t2 (.tup [.ref p2, .ref q2])) := Ex.new ht2
      refine for_tup (xs := [.ref p2, .ref q2]) (fun j σ' H'' => Ex (upd H' t2 (.tup [.ref p2, .ref q2])) H'' ∧ (i = i0 → j ≤ j0) ∧ ∃ v w', σ' = [some (.ref a), some (.ref b), some (.ref (P1 i)), v, w']) ⟨Ex.refl _, fun _ => Nat.zero_le _, v, w', rfl⟩ (fun i σ' H' _ p => Evl.ex_t p.1 (.inl (.inl upd_same))) ?_ ?_
      · intro j y σ' H'' hy ⟨e5, hj, v, w', hs⟩
        subst hs
        obtain ⟨hj2, rfl⟩ := two p2 q2 j y hy
        have e6 : Ex H H'' := e3.trans (e4.trans e5)
        refine ⟨.ref (P1 i), rfl, P1 i, rfl, ⟨_, .inl (.inl (e6 _ _ (a1 i)))⟩, fun D hD => lcM walk_tup hD (fun v => .bl (inV v (txs (S2 j)))) (by rw [txs_len]; have := l1 i; omega) (fun H' e => Evl.ex_t (e6.trans e) (.inl (.inl (a1 i)))) (fun n x Ha h e C hC => ?_) fun H5 e7 h5 => ?_⟩
        · obtain ⟨z, hz, rfl⟩ := lcTxs h
          exact ⟨rfl, .str z, rfl, .ref (P2 j), rfl, P2 j, txs (S2 j), rfl, .inr (.inl (.inl ((e6.trans e) _ _ (a2 j)))), rfl, flat_txs _, hC _ (Ex.refl _)⟩
        · have e8 := e6.trans e7
          refine ⟨D, (S1 i).map fun x => decide (x ∈ S2 j), rfl, .inl (.inl (by rw [h5, txs, List.map_map, List.map_map]; congr 1; congr 1; exact List.map_congr_left fun x _ => congrArg V.bl (inV_txs x _))), _, rfl, ?_⟩
          cases hb : ((S1 i).map fun x => decide (x ∈ S2 j)).any id with
          | false => exact iteT (k _ e8)
          | true =>
            refine iteF ⟨e5.trans e7, fun h => ?_, _, _, rfl⟩
            have g := hj h
            rcases Nat.lt_or_ge j j0 with c | c
            · exact c
            · exfalso
              obtain rfl : j = j0 := by omega
              subst h
              obtain ⟨bb, hb1, hb2⟩ := List.any_eq_true.mp hb
              obtain ⟨x, hx1, hx2⟩ := List.mem_map.mp hb1
              rw [← hx2] at hb2
              exact hap x hx1 (of_decide_eq_true hb2)
      · intro σ' H'' ⟨e5, hj, v, w', hs⟩
        subst hs
        refine ⟨e2.trans (e4.trans e5), ?_, _, _, _, rfl⟩
        rcases Nat.lt_or_ge i i0 with c | c
        · exact c
        · have := hj (by omega)
          simp at this
          omega
    · intro σ' H' ⟨e2, hi, _⟩
      simp at hi
      omega)
end SfW
namespace SfW
open PySem PySem.Spec PyProof.Rows L2
variable {X : Cx}
/-- name = {k: v for ..} on one line, the name a local -/
theorem ps_setDc {i : Nat} {y : Str} {py : Pos} {kx vx tg iter : Expr} {ifs : List Expr} {scope : Scope} {own : List (Str × Nat)} {pos spos : Pos} {wi : TI} {g : TG} {tt : TT} {tk tv : TE} (hc : X.calm = true) (hN : X.N.Nodup) (hy : X.N[i]? = some y) (hyl : X.env.scope.names.lookup y = some .local)
    (hsw : swapsWith (.DictComp kx vx [⟨tg, iter, ifs, 0⟩] scope pos) (some (.Name y py)) spos.line X.env = pure true) (hi : PI X tg iter wi) (ok : BlkOk X.N X.env.scope scope own)
    (hg : ∀ (s : Shared) (H : Hp) (C : Addr) (cl : List (Str × Addr)) (fp : List Addr), PG (X.blk s H scope (compEnvC scope cl C X.env) fp) tg g)
    (ht : ∀ (s : Shared) (H : Hp) (C : Addr) (cl : List (Str × Addr)) (fp : List Addr), PTs (X.blk s H scope (compEnvC scope cl C X.env) fp) ifs tt)
    (hk : ∀ (s : Shared) (H : Hp) (C : Addr) (cl : List (Str × Addr)) (fp : List Addr), PE (X.blk s H scope (compEnvC scope cl C X.env) fp) kx tk)
    (he : ∀ (s : Shared) (H : Hp) (C : Addr) (cl : List (Str × Addr)) (fp : List Addr), PE (X.blk s H scope (compEnvC scope cl C X.env) fp) vx tv) (hs : ∀ x, foldedSetIterable iter X.env x = pure x := by intro _; rfl) :
    PS X (.Assign [.Name y py] (.DictComp kx vx [⟨tg, iter, ifs, 0⟩] scope pos) spos) (tAsg (tDc wi g tt tk tv (own.map (·.2))) (gName i)) := by
  refine ⟨fun pins s σ H D I h => ?_⟩
  rw [exec_Assign_Name_used _ _ _ _ hsw]
  refine wpAny_bind (wpAny_standAt (wpAny_bind ?_))
  have h : tDc wi g tt tk tv (own.map (·.2)) σ H (fun x H1 => gName i x σ H1 D.nx) := h
  refine wpAny_bind (thn (dc_core (Qf := fun _ s' => SP X pins D .next s') hc hN I hi ok hg ht hk he hs h fun L C s' m H' I' q hn f => ?_) fun _ s' hq => wpAny_pure (wpAny_pure hq))
  show wpAny _ _ (assign (.Name y py) X.env (.ref L)) _ _ _
  refine wpAny_assign_Name (store_ok2 (v := V.ref L) I' hN hy (.inl hyl) rfl (fun s2 I2 ⟨a, sb, ha⟩ => ?_) (.inr hyl))
  obtain ⟨f0, f1, f2, f3, f4, f5⟩ := f
  have ne : C ≠ a := by
    rcases ha with z | z
    · rw [z]
      exact f1
    · exact fun e => f4 y a z e.symm
  refine ⟨m, hn.sameBut sb ne, fun h3 sb3 => ?_⟩
  exact ⟨_, H', I2.turned (t' := s2.toks) (fun b o hb e => (sb3.2 b hb).trans e) f0 f1 f3 f4 f5, q⟩
theorem sw_trueD {kx vx : Expr} {gs : List Comprehension} {scope : Scope} {pos py : Pos} {y : Str} {l : Nat} {env : Env} (hk : env.scope.kind = .function) (hy : env.scope.names.lookup y = some .local) (hl : (py.line == pos.line) = true)
    (ha : (scope.names.any fun (n, k) => n == y && (k == .local || k == .cell)) = false) : swapsWith (.DictComp kx vx gs scope pos) (some (.Name y py)) l env = pure true := by
  have ky : env.kindOf y = some .local := hy
  have hb : env.blockKind = .function := by
    unfold Env.blockKind
    rw [hk]
    rfl
  unfold swapsWith
  simp only [hb, ky, ha, Expr.pos, hl]
  rfl
end SfW
namespace SfW
open PySem PySem.Spec PyProof.Rows L2
open Evl (Ex RetV)
/-! trees -/
variable {P : Program} {w : World} {K : PySem.W.Frag} {mg : Str → Option Value} {bs : Heap}
theorem lock_ex {H H' : Hp} {d : Addr} {u v : HO} (h : H d = some u) (e : Ex (upd H d v) H') : Ex H (upd H' d u) := fun b o hb => by
  by_cases c : b = d
  · rw [c] at hb ⊢
    rw [h] at hb
    rw [upd_same, hb]
  · rw [upd_ne c]
    exact e b o (by rw [upd_ne c]; exact hb)
theorem keys_put {kvs : List (Key × V)} {k : Key} {v : V} {R : Key → Prop} (h : ∀ p ∈ kvs, R p.1) (hk : R k) : ∀ p ∈ putK kvs k v, R p.1 := fun p hp => by
  unfold putK at hp
  split at hp
  · obtain ⟨q, hq, e⟩ := List.mem_map.mp hp
    rw [← e]
    by_cases c : q.1 = k
    · rw [if_pos c]
      exact h q hq
    · rw [if_neg c]
      exact h q hq
  · rcases List.mem_append.mp hp with hp | hp
    · exact h p hp
    · rw [List.mem_singleton.mp hp]
      exact hk
theorem valV_mem {kvs : List (Key × V)} {k : Key} {v : V} (h : (k, v) ∈ kvs) : ∃ u, valV kvs k = some u := by
  have a := valV_any k kvs
  rw [List.any_eq_true.mpr ⟨(k, v), h, decide_eq_true rfl⟩] at a
  exact Option.isSome_iff_exists.mp a.symm
/-- what is known of one cut: its sides, its hosts -/
structure CutD where
  x : List Str
  y : List Str
structure CutOk (al : List Str) (c : CutD) : Prop where
  xl : c.x.length ≤ 40
  yl : c.y.length ≤ 40
  xn : ∀ z ∈ c.x, z.length ≤ 8
  yn : ∀ z ∈ c.y, z.length ≤ 8
/-- the cuts cs stand at refs, pairwise not crossing -/
structure CutsAt (K : PySem.W.Frag) (H : Hp) (refs : List V) (cs : List CutD) (al : List Str) : Prop where
  at_ : Paired (fun v c => ∃ b, v = .ref b ∧ CutAt K H b c.x c.y al) refs cs
  ok : ∀ c ∈ cs, CutOk al c
  ap : cs.Pairwise fun c d => Apart c.x c.y d.x d.y
  few : cs.length ≤ 50
  al : ∀ x ∈ al, NameOk x
theorem CutsAt.mono {H H' : Hp} {refs : List V} {cs : List CutD} {al : List Str} (h : CutsAt K H refs cs al) (e : Ex H H') : CutsAt K H' refs cs al :=
  ⟨Paired.mapP h.at_ fun v c ⟨b, h1, h2⟩ => ⟨b, h1, h2.mono e⟩, h.ok, h.ap, h.few, h.al⟩
def spInOrder (K : PySem.W.Frag) : Sp := fun vs H Q _ => ∃ (l : Addr) (refs : List V) (cs : List CutD) (al : List Str), vs = [.ref l] ∧ H l = some (.lst refs) ∧ CutsAt K H refs cs al ∧ ∀ p H2 xs, H p = none → Ex H H2 → H2 p = some (.tup xs) → Q (.ref p) H2
theorem F_in_order (T : TX K mg) : FnR P w K mg bs CX0 3 (He.ga K "in_order") (spInOrder K) :=
  T.f_in_order.fn S_in_order (fun vs H Q E ⟨_, _, _, _, h, _⟩ => by rw [h] <;> rfl) (fun _ _ _ _ _ _ us hl => match us, hl with | [_], _ => rfl) (body0 fun cdv A outer s H vs Q E hr q => by
    obtain ⟨l, refs, cs, al, rfl, hl, C, k⟩ := q
    have hu := hu_of hr
    refine ⟨_, (pss_cons (ps_set (i := 1) S_in_order.nd rfl (Or.inr rfl) (pe_dc (own := [("cut", 2)]) rfl S_in_order.nd (pi_list (pv 0)) (blkOk_by (N := N_in_order) (sc := defScope s_in_order) (by decide +kernel)) (fun _ _ _ _ _ => (pg_name (i := 2) S_in_order.nd rfl (Or.inl rfl))) (fun _ _ _ _ _ => pts_nil) (fun _ _ _ _ _ => (pe_at (K := K) (R := fun k => tBM k "str" (fun xs vs H Q => ∃ a p, ∃ ys : List Str, xs = .str a ∧ vs = [.ref p] ∧ (SqL k H p (ys.map V.str) ∨ SqT k H p (ys.map V.str)) ∧ (ys.map (·.length)).sum + ys.length * a.length ≤ 16777216 ∧ Q (.str (Txt.join a ys)) H) _ _) (pe_bm PySem.F.plainAttrs_str PySem.F.slot_str_join PySem.F.type_str_join mt_join pe_str (pa_cons (pe_propR (pv 2) T.c_Cut T.p_Cut_far (F_Cut_far T) (hr.mono (by decide)) pass0) pa_nil)) rfl)) (fun _ _ _ _ _ => (pv 2)))) (pss_one (ps_ret (pe_callTy call_tuple_of (by rfl) T.b_tuple (by decide +kernel) (pa_cons (pe_lc (own := [("text", 3)]) rfl S_in_order.nd (pi_list (pe_callB (cr_sortedS) (by rfl) T.b_sorted (by decide +kernel) (pa_cons (pe_lock (pe_lc (own := [("key", 4)]) rfl S_in_order.nd (pi_keys (pv 1)) (blkOk_by (N := N_in_order) (sc := defScope s_in_order) (by decide +kernel)) (fun _ _ _ _ _ => (pg_name (i := 4) S_in_order.nd rfl (Or.inl rfl))) (fun _ _ _ _ _ => pts_nil) (fun _ _ _ _ _ => (pe_callTy SkE.call_str_str (by rfl) T.b_str (by decide +kernel) (pa_cons (pv 4) pa_nil))))) pa_nil))) (blkOk_by (N := N_in_order) (sc := defScope s_in_order) (by decide +kernel)) (fun _ _ _ _ _ => (pg_name (i := 3) S_in_order.nd rfl (Or.inl rfl))) (fun _ _ _ _ _ => pts_nil) (fun _ _ _ _ _ => (pe_dget hu (pv 1) (pv 3) (fun _ _ => rfl)))) pa_nil))))), ?_⟩
    have rl : refs.length = cs.length := Paired.length C.at_
    have few := C.few
    refine ⟨.ref l, rfl, l, rfl, ⟨_, .inl (.inl hl)⟩, fun D hD => dcW walk_list hD (fun i acc _ => ∀ p ∈ acc, ∃ x, p.1 = (.inr x : Key)) (by omega) (fun p hp => nomatch hp) (fun H' e => Evl.ex_l e (.inl (.inl hl))) ?_ ?_⟩
    · intro i acc Hi Ha hi r e1 e2 C1 C0 hC _ x Hb ⟨h1, hx⟩
      subst h1
      obtain ⟨c, hc1, b, rfl, dx, p, q, r', ns, fs, hb, hp, hq, hr', pm⟩ := paired_at C.at_ hx
      have O := C.ok c (List.mem_of_getElem? hc1)
      have e3 := e1.trans e2
      refine ⟨rfl, yes ?_⟩
      have fl : ∀ z ∈ fs, z.length ≤ 8 := fun z hz => by
        rcases pm with e | e
        · exact O.yn z (e.2.mem_iff.mp hz)
        · exact O.xn z (e.2.mem_iff.mp hz)
      have fn : fs.length ≤ 40 := by
        rcases pm with e | e
        · rw [e.2.length_eq]; exact O.yl
        · rw [e.2.length_eq]; exact O.xl
      have sm : ∀ (m : List Str), (∀ z ∈ m, z.length ≤ 8) → (m.map (·.length)).sum ≤ m.length * 8 := fun m => by
        induction m with
        | nil => intro _; simp
        | cons y m ih =>
          intro h
          have h1 := ih fun z hz => h z (List.mem_cons_of_mem _ hz)
          have h2 := h y List.mem_cons_self
          rw [List.map_cons, List.sum_cons, List.length_cons]
          omega
      refine ⟨rfl, .ref b, rfl, b, dx, _, rfl, e3 _ _ hb, b, dx, _, .ref q, rfl, e3 _ _ hb, rfl, _, q, fs, rfl, rfl, .inr (.inl (.inl (e3 _ _ hq))), ?_, .ref b, rfl, hC (.inr _) _ _ (Ex.refl _) fun H5 _ => keys_put (R := fun k => ∃ x, k = (.inr x : Key)) r ⟨_, rfl⟩⟩
      have := sm fs fl
      show _ + fs.length * 1 ≤ 16777216
      omega
    · intro acc H' la r e hD' H2 e2 h2
      have e3 : Ex H H2 := e.trans e2
      refine ⟨D, .dK acc, h2, True.intro, fun od => ⟨.ref D, rfl, D, od, rfl, .inl ⟨acc, upd_same, fun D3 hD3 => lcW walk_keys hD3 (fun i m _ => ∃ ys : List Str, m = txs ys ∧ ys.length ≤ i ∧ ∀ y ∈ ys, ∃ v, valV acc (.inr y) = some v) (by omega) ⟨[], rfl, Nat.le_refl _, fun y hy => nomatch hy⟩ (fun H' e => e _ _ upd_same) ?_ ?_⟩⟩⟩
      · intro i m Hi Ha hi ⟨ys, r1, r2, r3⟩ e4 e5 C1 C0 hC _ x Hb ⟨h1, kk, v, hk, hx⟩
        subst h1
        obtain ⟨y, hy⟩ := r (kk, v) (List.mem_of_getElem? hk)
        have hy : kk = .inr y := hy
        subst hy hx
        refine ⟨rfl, yes ⟨_, rfl, y, rfl, hC _ _ (Ex.refl _) fun H5 _ => ⟨ys ++ [y], by rw [r1]; simp [txs], by rw [List.length_append]; exact Nat.succ_le_succ r2, fun z hz => ?_⟩⟩⟩
        rcases List.mem_append.mp hz with hz | hz
        · exact r3 z hz
        · rw [List.mem_singleton.mp hz]
          exact valV_mem (List.mem_of_getElem? hk)
      · intro m H4 lm ⟨ys, r1, r2, r3⟩ e4 _ H5 e5 h5
        have ef : Ex (upd H2 D (.frz od (.dK acc))) H5 := e4.trans e5
        have eu : Ex H2 (upd H5 D (.dK acc)) := lock_ex h2 ef
        have nD : D3 ≠ D := fun z => by
          rw [z, upd_same] at hD3
          cases hD3
        refine ⟨ef _ _ upd_same, D3, ys, rfl, .inl (.inl (by rw [upd_ne nD, h5, r1])), by omega, fun zs p pm _ hp => ?_⟩
        have e6 : Ex H2 (upd (upd H5 D (.dK acc)) p (.lst (txs zs))) := eu.trans (Ex.new hp)
        have e7 : Ex H (upd (upd H5 D (.dK acc)) p (.lst (txs zs))) := e3.trans e6
        have zl : zs.length ≤ 50000 := by
          rw [pm.length_eq]
          omega
        refine ⟨p, rfl, ⟨_, .inl (.inl upd_same)⟩, fun D5 hD5 => lcM walk_list hD5 (fun v => match v with | .str z => (valV acc (.inr z)).getD .non | _ => .non) (by rw [txs_len]; exact zl) (fun H' e => .inl (.inl (e _ _ upd_same))) (fun i x Ha h e C1 hC => ?_) fun H6 e8 h6 => ?_⟩
        · obtain ⟨z, hz, rfl⟩ := lcTxs h
          obtain ⟨v, hv⟩ := r3 z (pm.mem_iff.mp hz)
          refine ⟨rfl, .ref D, rfl, .str z, rfl, D, v, rfl, ?_, ?_⟩
          · have g : DGet _ D (kV (.inr z)) (valV acc (.inr z)) := DGet.k (e _ _ (e6 _ _ h2))
            rw [hv] at g
            exact g
          · have g := hC _ (Ex.refl _)
            simp only [hv, Option.getD_some] at g
            exact g
        · exact ⟨D5, _, rfl, .inl ⟨.inl (.inl h6), fun t ht => k t _ _ (Evl.fresh_back (e7.trans e8) ht) ((e7.trans e8).trans (Ex.new ht)) upd_same⟩⟩)
def spFirst (K : PySem.W.Frag) : Sp := fun vs H Q _ => ∃ (l : Addr) (refs : List V) (cs : List CutD) (al : List Str), vs = [.ref l] ∧ H l = some (.lst refs) ∧ CutsAt K H refs cs al ∧ RetV .non H Q
theorem CutsAt.cross {H : Hp} {refs : List V} {cs : List CutD} {al : List Str} (C : CutsAt K H refs cs al) {i j : Nat} {x y : V} (hi : refs[i]? = some x) (hj : refs[j]? = some y) (h : i < j) {Q : VK} (k : RetV (.bl false) H Q) {E : XK} : spCrosses K [x, y] H Q E := by
  obtain ⟨c, hc, a, rfl, ha⟩ := paired_at C.at_ hi
  obtain ⟨d, hd, b, rfl, hb⟩ := paired_at C.at_ hj
  have O := C.ok c (List.mem_of_getElem? hc)
  have O' := C.ok d (List.mem_of_getElem? hd)
  obtain ⟨li, ei⟩ := List.getElem?_eq_some_iff.mp hc
  obtain ⟨lj, ej⟩ := List.getElem?_eq_some_iff.mp hd
  have ap := List.pairwise_iff_getElem.mp C.ap i j li lj h
  rw [ei, ej] at ap
  exact ⟨a, b, c.x, c.y, d.x, d.y, al, rfl, ha, hb, ap, O.xl, O.yl, O'.xl, O'.yl, C.al, k⟩
theorem F_first_crossing (T : TX K mg) : FnR P w K mg bs CX0 4 (He.ga K "first_crossing") (spFirst K) :=
  T.f_first_crossing.fn S_first_crossing (fun vs H Q E ⟨_, _, _, _, h, _⟩ => by rw [h] <;> rfl) (fun _ _ _ _ _ _ us hl => match us, hl with | [_], _ => rfl) (body0 fun cdv A outer s H vs Q E hr q => by
    obtain ⟨l, refs, cs, al, rfl, hl, C, k⟩ := q
    refine ⟨_, (pss_cons (ps_for PassesOwn.never rfl (pi_enum (by rfl) T.b_enumerate (pa_cons (pv 0) pa_nil)) (pg_tup (n := 2) (by rfl) (pgs_cons (pg_name (i := 1) S_first_crossing.nd rfl (Or.inl rfl)) (pgs_cons (pg_name (i := 2) S_first_crossing.nd rfl (Or.inl rfl)) pgs_nil))) (pss_one (ps_for PassesOwn.never rfl (pi_list (pe_slice sl_list (pv 0) (po_some (pe_op op_add (pv 1) pe_int)) po_none)) (pg_name (i := 3) S_first_crossing.nd rfl (Or.inl rfl)) (pss_one (ps_if (pt_val (pe_methR (pv 2) T.c_Cut T.m_Cut_crosses (F_crosses T) (hr.mono (by decide)) pass0 (pa_cons (pv 3) pa_nil))) (pss_one (ps_ret (pe_tup (pa_cons (pv 2) (pa_cons (pv 3) pa_nil))))) pss_nil))))) (pss_one (ps_ret pe_non))), ?_⟩
    have rl : refs.length = cs.length := Paired.length C.at_
    have few := C.few
    refine ⟨.ref l, rfl, l, refs, rfl, .inl (.inl hl), for_it (walk_enum (xs := refs)) (fun i σ' H' => Ex H H' ∧ ∃ u v x, σ' = [some (.ref l), u, v, x]) ⟨Ex.refl _, none, none, none, rfl⟩ (fun i σ' H' _ p => Evl.ex_l p.1 (.inl (.inl hl))) ?_ ?_⟩
    · intro i v σ' H' H'' hi ⟨e2, u1, u2, u3, hs⟩ ⟨tq, x1, x2, h1, h2, h3, h4, h5⟩
      subst hs h1 h3
      obtain rfl : V.int i = x1 := Option.some.inj h4
      have e3 : Ex H (upd H' tq (.tup [.int i, x2])) := e2.trans (Ex.new h2)
      refine ⟨tq, _, rfl, .inl (.inl upd_same), rfl, _, _, rfl, _, _, rfl, rfl, ?_⟩
      refine ⟨.ref l, rfl, .int i, rfl, i, 1, rfl, rfl, (i : Int) + 1, rfl, l, refs, rfl, .inl (.inl (e3 _ _ hl)), fun p hp => ⟨p, rfl, ⟨_, .inl (.inl upd_same)⟩, ?_⟩⟩
      have cutd : cutV refs (some ((i : Int) + 1)) none = refs.drop (i + 1) := by
        have e : ((i : Int) + 1) = ((i + 1 : Nat) : Int) := by omega
        unfold cutV
        rw [e, six_nat _ _ _ hi]
        show (refs.drop (i + 1)).take (refs.length - (i + 1)) = _
        rw [List.take_of_length_le (by rw [List.length_drop]; omega)]
      rw [cutd]
      have e4 : Ex H (upd (upd H' tq (.tup [.int i, x2])) p (.lst (refs.drop (i + 1)))) := e3.trans (Ex.new hp)
      refine for_list (xs := refs.drop (i + 1)) (fun j σ' Hx => Ex (upd (upd H' tq (.tup [.int i, x2])) p (.lst (refs.drop (i + 1)))) Hx ∧ ∃ x, σ' = [some (.ref l), some (.int i), some x2, x]) ⟨Ex.refl _, u3, rfl⟩ (fun j σ' H' _ p => .inl (.inl (p.1 _ _ upd_same))) ?_ ?_
      · intro j x σ' H6 hx ⟨e5, x0, hs⟩
        subst hs
        have e6 := e4.trans e5
        rw [List.getElem?_drop] at hx
        obtain ⟨c, hc, a, rfl, ha⟩ := paired_at C.at_ h5
        obtain ⟨dx, _, _, _, _, _, ha, _⟩ := ha.mono e6
        exact ⟨.ref a, rfl, a, dx, _, rfl, ha, rfl, x, rfl, (C.mono e6).cross (E := E0) h5 hx (by omega) fun H7 e7 => ⟨false, rfl, iteF ⟨e5.trans e7, x, rfl⟩⟩⟩
      · intro σ' H6 ⟨e5, x0, hs⟩
        subst hs
        exact ⟨e4.trans e5, _, _, _, rfl⟩
    · intro σ' H' ⟨e2, u1, u2, u3, hs⟩
      subst hs
      exact k _ e2)
/-- the cuts of a tree -/
def spNeedCuts (K : PySem.W.Frag) : Sp := fun vs H Q _ => ∃ (p l : Addr) (refs : List V) (cs : List CutD) (al : List Str), vs = [.ref p, .ref l] ∧ H p = some (.tup (txs al)) ∧ H l = some (.lst refs) ∧ CutsAt K H refs cs al ∧ RetV .non H Q
theorem F_need_cuts (T : TX K mg) : FnR P w K mg bs CX0 5 (He.ga K "need_cuts") (spNeedCuts K) :=
  T.f_need_cuts.fn S_need_cuts (fun vs H Q E ⟨_, _, _, _, _, h, _⟩ => by rw [h] <;> rfl) (fun _ _ _ _ _ _ us hl => match us, hl with | [_, _], _ => rfl) (body0 fun cdv A outer s H vs Q E hr q => by
    obtain ⟨p, l, refs, cs, al, rfl, hp, hl, C, k⟩ := q
    refine ⟨_, (pss_cons (ps_if (pt_not (pt_val (pe_callB call_isiT (by rfl) T.b_isinstance (by decide +kernel) (pa_cons (pv 1) (pa_cons (pe_tup (pa_cons (pe_bltn (v := .ty "list") (by rfl) T.b_list (by decide +kernel) rfl) (pa_cons (pe_bltn (v := .ty "tuple") (by rfl) T.b_tuple (by decide +kernel) rfl) pa_nil))) pa_nil))))) pss_never pss_nil) (pss_cons (ps_for PassesOwn.never rfl (pi_enum (by rfl) T.b_enumerate (pa_cons (pv 1) pa_nil)) (pg_tup (n := 2) (by rfl) (pgs_cons (pg_name (i := 2) S_need_cuts.nd rfl (Or.inl rfl)) (pgs_cons (pg_name (i := 3) S_need_cuts.nd rfl (Or.inl rfl)) pgs_nil))) (pss_one (ps_if (PW.pt (pw_or (pt_not (pt_val (pe_callB call_isi (by rfl) T.b_isinstance (by decide +kernel) (pa_cons (pv 3) (pa_cons (pe_glob (v := .ref (He.ga K "Cut")) (by rfl) T.g_Cut rfl) pa_nil))))) (pw_or1 (pt_cmpR (op_neD (hu64 hr)) (pe_propR (pv 3) T.c_Cut T.p_Cut_hosts (F_Cut_hosts T) (hr.mono (by decide)) pass0) (pv 0) (nomark _))))) pss_never pss_nil))) (pss_cons (ps_set (i := 4) S_need_cuts.nd rfl (Or.inl rfl) (pe_callR (F_first_crossing T) (hr.mono (by decide)) T.f_first_crossing.kp T.g_first_crossing pass0 (pa_cons (pv 1) pa_nil))) (pss_one (ps_if (pt_cmpR op_notN (pv 4) pe_non (nomark _)) pss_never pss_nil))))), ?_⟩
    have rl : refs.length = cs.length := Paired.length C.at_
    have few := C.few
    refine ⟨.ref l, rfl, Evl.sz_of (by decide), fun tp htp => ⟨.ref l, tp, _, .type "list", _, true, rfl, upd_same, ty2, .base (.lst (by rw [upd_ne (ne_of_none hl htp)]; exact hl)), kit_lst, true, rfl, iteF ?_⟩⟩
    have e1 : Ex H (upd H tp (.tup [.ty "list", .ty "tuple"])) := Ex.new htp
    refine ⟨.ref l, rfl, l, refs, rfl, .inl (.inl (e1 _ _ hl)), for_it (walk_enum (xs := refs)) (fun i σ' H' => Ex H H' ∧ ∃ u v, σ' = [some (.ref p), some (.ref l), u, v, none]) ⟨e1, none, none, rfl⟩ (fun i σ' H' _ p => Evl.ex_l p.1 (.inl (.inl hl))) ?_ ?_⟩
    · intro i v σ' H' H'' hi ⟨e2, u1, u2, hs⟩ ⟨tq, x1, x2, h1, h2, h3, h4, h5⟩
      subst hs h1 h3
      obtain rfl : V.int i = x1 := Option.some.inj h4
      have e3 : Ex H (upd H' tq (.tup [.int i, x2])) := e2.trans (Ex.new h2)
      obtain ⟨c, hc, a, rfl, ha⟩ := paired_at C.at_ h5
      obtain ⟨dx, _, _, r, _, _, ha, _, _, hr, _⟩ := ha.mono e3
      refine ⟨tq, _, rfl, .inl (.inl upd_same), rfl, _, _, rfl, _, _, rfl, rfl, ?_⟩
      refine ⟨.ref a, rfl, .ref a, .ref (He.ga K "Cut"), .ref (He.ga K "Cut"), .ref (He.ga K "Cut"), true, rfl, .own _, ty_ins ha T.c_Cut T.q_Cut, T.is_Cut_Cut, true, rfl, iteF ?_⟩
      refine ⟨.ref a, rfl, a, dx, _, rfl, ha, a, dx, _, .ref r, rfl, ha, rfl, .ref p, rfl, .tuple (al.map .str), .tuple (al.map .str), .tup (.inl (.inl hr)) (dp_txs al), .tup (.inl (.inl (e3 _ _ hp))) (dp_txs al), shaped_t C.al, shaped_t C.al, _, rfl, ?_⟩
      rw [eqv_t C.al]
      exact iteF ⟨e3, _, _, rfl⟩
    · intro σ' H' ⟨e2, u1, u2, hs⟩
      subst hs
      exact ⟨.ref l, rfl, l, refs, cs, al, rfl, e2 _ _ hl, C.mono e2, fun H2 e3 => ⟨.non, rfl, rfl, _, rfl, iteF (k _ (e2.trans e3))⟩⟩)
def spTreeInit (K : PySem.W.Frag) : Sp := fun vs H Q _ => ∃ (a dx p l : Addr) (hs : List Str) (refs : List V) (cs : List CutD), vs = [.ref a, .ref p, .ref l] ∧ H a = some (.ins (He.ga K "Tree") dx []) ∧ H p = some (.tup (txs hs)) ∧ H l = some (.lst refs) ∧ CutsAt K H refs cs hs ∧ hs ≠ [] ∧ hs.length ≤ 40 ∧ hs.Nodup ∧ sortedS hs = true ∧
  ∀ H2, Ex (del a H) H2 → Q .non H2
theorem F_Tree (T : TX K mg) : FnR P w K mg bs CX0 6 (He.ma K (He.ga K "Tree") "__init__") (spTreeInit K) :=
  fn_weak (T.f_Tree_init.fnD S_Tree_init (sp := spTreeInit K) (fun vs H Q E ⟨_, _, _, _, _, _, _, h, _⟩ => by rw [h] <;> rfl) 3 1 (by simp) (by simp)
    (fun _ _ _ _ _ _ _ us its h1 h2 => match us, its, h1, h2 with | [_, _, _], [_], _, _ => ⟨_, rfl, rfl⟩) (body0 fun cdv A outer s H vs Q E hr q => by
    obtain ⟨a, dx, p, l, hs, refs, cs, rfl, ha, hp, hl, C, hne, hn, nd, srt, k⟩ := q
    refine ⟨_, (pss_cons (ps_set (i := 3) S_Tree_init.nd rfl (Or.inl rfl) (pe_callR (F_hosts_of T) (hr.mono (by decide)) T.f_hosts_of.kp T.g_hosts_of pass0 (pa_cons (pv 1) pa_nil))) (pss_cons (ps_expr (pe_callR (F_need_cuts T) (hr.mono (by decide)) T.f_need_cuts.kp T.g_need_cuts pass0 (pa_cons (pv 3) (pa_cons (pv 2) pa_nil)))) (pss_cons (ps_fld (pv 0) (pv 3) rfl) (pss_one (ps_fld (pv 0) (pe_callR (F_in_order T) (hr.mono (by decide)) T.f_in_order.kp T.g_in_order pass0 (pa_cons (pv 2) pa_nil)) rfl))))), ?_⟩
    refine ⟨.ref p, rfl, p, hs, rfl, hp, hne, hn, C.al, nd, fun ys q H2 hq e2 h2 h3 h4 h5 => ?_⟩
    obtain rfl : ys = hs := SfM.asc_uniq h3 srt h4 nd h5
    refine ⟨.ref q, rfl, .ref l, rfl, q, l, refs, cs, ys, rfl, h2, e2 _ _ hl, C.mono e2, fun H3 e3 => ?_⟩
    have e13 := e2.trans e3
    refine ⟨.ref q, rfl, .ref a, rfl, a, _, dx, [], rfl, e13 _ _ ha, T.c_Tree, T.n_Tree_all_names, by decide, ?_⟩
    have nl : l ≠ a := ne_of hl ha (fun z => nomatch z)
    have e4 : Ex (del a H) (upd H3 a (.ins (He.ga K "Tree") dx [("all_names", .ref q)])) := fun b o h => by
      obtain ⟨nb, hb⟩ := of_del h
      rw [upd_ne nb]
      exact e13 _ _ hb
    have C4 : CutsAt K (upd H3 a (.ins (He.ga K "Tree") dx [("all_names", .ref q)])) refs cs ys := by
      refine ⟨Paired.mapP C.at_ fun v c ⟨b, h1, hb⟩ => ⟨b, h1, ?_⟩, C.ok, C.ap, C.few, C.al⟩
      obtain ⟨dx2, p2, q2, r2, ns, fs, g1, g2, g3, g4, g5⟩ := hb
      exact ⟨dx2, p2, q2, r2, ns, fs, e4 _ _ (by rw [del_ne (ne_of g1 ha (fun z => by injection z with _ _ h; cases h))]; exact g1), e4 _ _ (by rw [del_ne (ne_of g2 ha (fun z => nomatch z))]; exact g2), e4 _ _ (by rw [del_ne (ne_of g3 ha (fun z => nomatch z))]; exact g3), e4 _ _ (by rw [del_ne (ne_of g4 ha (fun z => nomatch z))]; exact g4), g5⟩
    refine ⟨.ref l, rfl, l, refs, cs, ys, rfl, by rw [upd_ne nl]; exact e13 _ _ hl, C4, fun t H5 xs ht e5 h5' => ?_⟩
    refine ⟨.ref a, rfl, a, _, dx, [("all_names", .ref q)], rfl, e5 _ _ upd_same, T.c_Tree, T.n_Tree_own_cuts, (by show 1 < 1000; decide), k _ fun b o h => ?_⟩
    obtain ⟨nb, hb⟩ := of_del h
    rw [upd_ne nb]
    exact (e4.trans e5) b o h)) (Nat.le_refl _) fun vs H Q E h => by
      show spTreeInit K (vs ++ []) H Q E
      rw [List.append_nil]
      exact h
end SfW
namespace SfW
open PySem PySem.Spec PyProof.Rows L2
open Evl (Ex RetV)
/-! webs: the defs around the class -/
variable {P : Program} {w : World} {K : PySem.W.Frag} {mg : Str → Option Value} {bs : Heap}
def SwOk (v : Int) : Prop := 0 ≤ v ∧ v < 100
def spSwitch : Sp := fun vs H Q _ => ∃ v : Int, vs = [.int v] ∧ SwOk v ∧ RetV (.bl true) H Q
theorem F_is_switch (T : TX K mg) : FnR P w K mg bs CX0 1 (He.ga K "is_switch") spSwitch :=
  T.f_is_switch.fn S_is_switch (fun vs H Q E ⟨_, h, _⟩ => by rw [h] <;> rfl) (fun _ _ _ _ _ _ us hl => match us, hl with | [_], _ => rfl) (body0 fun cdv A outer s H vs Q E hr q => by
    obtain ⟨v, rfl, ⟨h1, h2⟩, k⟩ := q
    obtain ⟨_, hi_SWITCHES⟩ := T.i_SWITCHES
    refine ⟨_, (pss_one (ps_ret (pe_and (pe_callB call_isi (by rfl) T.b_isinstance (by decide +kernel) (pa_cons (pv 0) (pa_cons (pe_bltn (v := .ty "int") (by rfl) T.b_int (by decide +kernel) rfl) pa_nil))) (pe_and (pe_not (pe_callB call_isi (by rfl) T.b_isinstance (by decide +kernel) (pa_cons (pv 0) (pa_cons (pe_bltn (v := .ty "bool") (by rfl) T.b_bool (by decide +kernel) rfl) pa_nil)))) (pe_one (pe_chain op_le op_lt pe_int (pv 0) (pe_glob (v := .int 100) (by rfl) hi_SWITCHES ⟨_, rfl⟩))))))), ?_⟩
    refine ⟨.int v, rfl, .int v, .ty "int", .type "int", .type "int", true, rfl, .ty _, .base (.int _), kit_ty (by decide +kernel), true, rfl, iteT ?_⟩
    refine ⟨.int v, rfl, .int v, .ty "bool", .type "int", .type "bool", false, rfl, .ty _, .base (.int _), kit_ty (by decide +kernel), false, rfl, true, rfl, iteT ?_⟩
    refine ⟨.int v, rfl, 0, v, rfl, rfl, _, rfl, iteY h1 ⟨v, 100, rfl, rfl, ?_⟩⟩
    show Q (.bl (decide (v < 100))) H
    rw [decide_eq_true h2]
    exact k _ (Ex.refl _))
abbrev Lk : Type := Int × Int
def PairAt (H : Hp) (v : V) (e : Lk) : Prop := ∃ p, v = .ref p ∧ H p = some (.tup [.int e.1, .int e.2])
/-- the links L stand at refs -/
def LinksAt (H : Hp) (refs : List V) (L : List Lk) : Prop := Paired (PairAt H) refs L
theorem LinksAt.mono {H H' : Hp} {refs : List V} {L : List Lk} (h : LinksAt H refs L) (e : Ex H H') : LinksAt H' refs L := Paired.mapP h fun v f ⟨b, h1, h2⟩ => ⟨b, h1, e _ _ h2⟩
def LinkOk (e : Lk) : Prop := SwOk e.1 ∧ SwOk e.2 ∧ e.1 ≠ e.2
def spLink : Sp := fun vs H Q _ => ∃ (v : V) (e : Lk), vs = [v] ∧ PairAt H v e ∧ LinkOk e ∧ RetV (.bl true) H Q
theorem F_is_link (T : TX K mg) : FnR P w K mg bs CX0 2 (He.ga K "is_link") spLink :=
  T.f_is_link.fn S_is_link (fun vs H Q E ⟨_, _, h, _⟩ => by rw [h] <;> rfl) (fun _ _ _ _ _ _ us hl => match us, hl with | [_], _ => rfl) (body0 fun cdv A outer s H vs Q E hr q => by
    obtain ⟨_, e, rfl, ⟨p, rfl, hp⟩, ⟨h1, h2, h3⟩, k⟩ := q
    refine ⟨_, (pss_cons (ps_if (PW.pt (pw_or (pt_not (pt_val (pe_callB call_isi (by rfl) T.b_isinstance (by decide +kernel) (pa_cons (pv 0) (pa_cons (pe_bltn (v := .ty "tuple") (by rfl) T.b_tuple (by decide +kernel) rfl) pa_nil))))) (pw_or1 (pt_cmpR op_ne (pe_callB call_len_seq (by rfl) T.b_len PySem.boot_len (pa_cons (pv 0) pa_nil)) pe_int (nomark _))))) (pss_one (ps_ret pe_bl)) pss_nil) (pss_one (ps_ret (pe_and (pe_callR (F_is_switch T) (hr.mono (by decide)) T.f_is_switch.kp T.g_is_switch pass0 (pa_cons (pe_ix ix_tup (pv 0) pe_int (fun _ _ => rfl)) pa_nil)) (pe_and (pe_callR (F_is_switch T) (hr.mono (by decide)) T.f_is_switch.kp T.g_is_switch pass0 (pa_cons (pe_ix ix_tup (pv 0) pe_int (fun _ _ => rfl)) pa_nil)) (pe_one (pe_cmpR op_ne (pe_ix ix_tup (pv 0) pe_int (fun _ _ => rfl)) (pe_ix ix_tup (pv 0) pe_int (fun _ _ => rfl)) (nomark _)))))))), ?_⟩
    refine ⟨.ref p, rfl, .ref p, .ty "tuple", .type "tuple", .type "tuple", true, rfl, .ty _, .base (.tup hp), kit_ty (by decide +kernel), true, rfl, iteF ?_⟩
    refine ⟨.ref p, rfl, p, _, rfl, .inr (.inl (.inl hp)), rfl, _, rfl, iteF ?_⟩
    refine ⟨.ref p, rfl, p, _, 0, .int e.1, rfl, rfl, .inl (.inl hp), atI_nat (j := 0) rfl, e.1, rfl, h1, fun H1 e1 => ⟨true, rfl, iteT ?_⟩⟩
    refine ⟨.ref p, rfl, p, _, 1, .int e.2, rfl, rfl, .inl (.inl (e1 _ _ hp)), atI_nat (j := 1) rfl, e.2, rfl, h2, fun H2 e2 => ⟨true, rfl, iteT ?_⟩⟩
    have hp2 := (e1.trans e2) _ _ hp
    refine ⟨.ref p, rfl, p, _, 0, .int e.1, rfl, rfl, .inl (.inl hp2), atI_nat (j := 0) rfl, .ref p, rfl, p, _, 1, .int e.2, rfl, rfl, .inl (.inl hp2), atI_nat (j := 1) rfl, rfl, ?_⟩
    rw [show (!decide (V.int e.1 = V.int e.2)) = true by rw [decide_eq_false (fun z => h3 (by injection z))]; rfl]
    exact k _ (e1.trans e2))
def spNeedLinks : Sp := fun vs H Q _ => ∃ (l : Addr) (refs : List V) (L : List Lk), vs = [.ref l] ∧ H l = some (.lst refs) ∧ LinksAt H refs L ∧ (∀ e ∈ L, LinkOk e) ∧ L.length ≤ 50 ∧ RetV .non H Q
theorem F_need_links (T : TX K mg) : FnR P w K mg bs CX0 3 (He.ga K "need_links") spNeedLinks :=
  T.f_need_links.fn S_need_links (fun vs H Q E ⟨_, _, _, h, _⟩ => by rw [h] <;> rfl) (fun _ _ _ _ _ _ us hl => match us, hl with | [_], _ => rfl) (body0 fun cdv A outer s H vs Q E hr q => by
    obtain ⟨l, refs, L, rfl, hl, hL, ok, few, k⟩ := q
    refine ⟨_, (pss_one (ps_if (PW.pt (pw_or (pt_not (pt_val (pe_callB call_isiT (by rfl) T.b_isinstance (by decide +kernel) (pa_cons (pv 0) (pa_cons (pe_tup (pa_cons (pe_bltn (v := .ty "list") (by rfl) T.b_list (by decide +kernel) rfl) (pa_cons (pe_bltn (v := .ty "tuple") (by rfl) T.b_tuple (by decide +kernel) rfl) pa_nil))) pa_nil))))) (pw_or1 (pt_not (pt_val (pe_callB (cr_all rfl) (by rfl) T.b_all (by decide +kernel) (pa_cons (pe_lc (own := [("link", 1)]) rfl S_need_links.nd (pi_list (pv 0)) (blkOk_by (N := N_need_links) (sc := defScope s_need_links) (by decide +kernel)) (fun _ _ _ _ _ => (pg_name (i := 1) S_need_links.nd rfl (Or.inl rfl))) (fun _ _ _ _ _ => pts_nil) (fun _ _ _ _ _ => (pe_callR (F_is_link T) (hr.mono (by decide)) T.f_is_link.kp T.g_is_link pass0 (pa_cons (pv 1) pa_nil)))) pa_nil))))))) pss_never pss_nil)), ?_⟩
    have rl : refs.length = L.length := Paired.length hL
    refine ⟨.ref l, rfl, Evl.sz_of (by decide), fun tp htp => ⟨.ref l, tp, _, .type "list", _, true, rfl, upd_same, ty2, .base (.lst (by rw [upd_ne (ne_of_none hl htp)]; exact hl)), kit_lst, true, rfl, iteF ?_⟩⟩
    have e1 : Ex H (upd H tp (.tup [.ty "list", .ty "tuple"])) := Ex.new htp
    refine ⟨.ref l, rfl, l, rfl, ⟨_, .inl (.inl (e1 _ _ hl))⟩, fun D hD => lcM walk_list hD (fun _ => .bl true) (by omega) (fun H' e => Evl.ex_l (e1.trans e) (.inl (.inl hl))) (fun i x Ha h e C hC => ?_) fun H2 e2 h2 => ?_⟩
    · obtain ⟨f, hf, hp⟩ := paired_at hL h
      obtain ⟨p, rfl, hp⟩ := hp
      exact ⟨rfl, .ref p, rfl, .ref p, f, rfl, ⟨p, rfl, (e1.trans e) _ _ hp⟩, ok f (List.mem_of_getElem? hf), fun H4 e4 => hC H4 e4⟩
    · refine ⟨D, refs.map fun _ => true, rfl, .inl (.inl (by rw [h2, List.map_map]; rfl)), _, rfl, ?_⟩
      rw [show (refs.map fun _ => true).all id = true by simp]
      exact iteF (k _ (e1.trans e2)))
/-- a dict from the names hs to the switches pl -/
def plK (hs : List Str) (pl : Str → Int) : List (Key × V) := hs.map fun h => (.inr h, .int (pl h))
theorem plK_val {hs : List Str} {pl : Str → Int} {h : Str} (m : h ∈ hs) : valV (plK hs pl) (.inr h) = some (.int (pl h)) := by
  induction hs with
  | nil => cases m
  | cons x r ih =>
    show valV ((Sum.inr x, V.int (pl x)) :: plK r pl) (.inr h) = _
    by_cases c : x = h
    · rw [valV_pos (p := ((.inr x : Key), V.int (pl x))) (by rw [c]), c]
    · rw [valV_neg (p := ((.inr x : Key), V.int (pl x))) (fun z => c (Sum.inr.inj z))]
      rcases List.mem_cons.mp m with m | m
      · exact absurd m.symm c
      · exact ih m
theorem plK_get {hs : List Str} {pl : Str → Int} {i : Nat} {k : Key} {v : V} (h : (plK hs pl)[i]? = some (k, v)) : ∃ x, hs[i]? = some x ∧ k = .inr x ∧ v = .int (pl x) := by
  unfold plK at h
  rw [List.getElem?_map] at h
  cases e : hs[i]? with
  | none =>
    rw [e] at h
    cases h
  | some x =>
    rw [e] at h
    have h2 := Option.some.inj h
    injection h2 with h3 h4
    exact ⟨x, rfl, h3.symm, h4.symm⟩
def spNeedPlaces : Sp := fun vs H Q _ => ∃ (d : Addr) (hs : List Str) (pl : Str → Int), vs = [.ref d] ∧ H d = some (.dK (plK hs pl)) ∧ hs ≠ [] ∧ hs.length ≤ 40 ∧ (∀ h ∈ hs, NameOk h ∧ SwOk (pl h)) ∧ RetV .non H Q
theorem F_need_places (T : TX K mg) : FnR P w K mg bs CX0 2 (He.ga K "need_places") spNeedPlaces :=
  T.f_need_places.fn S_need_places (fun vs H Q E ⟨_, _, _, h, _⟩ => by rw [h] <;> rfl) (fun _ _ _ _ _ _ us hl => match us, hl with | [_], _ => rfl) (body0 fun cdv A outer s H vs Q E hr q => by
    obtain ⟨d, hs, pl, rfl, hd, hne, hn, ok, k⟩ := q
    obtain ⟨_, hi_MOST_HOSTS_webs⟩ := T.i_MOST_HOSTS_webs
    have hu := hu_of hr
    refine ⟨_, (pss_cons (ps_if (PW.pt (pw_or (pt_not (pt_val (pe_callB call_isi (by rfl) T.b_isinstance (by decide +kernel) (pa_cons (pv 0) (pa_cons (pe_bltn (v := .ty "dict") (by rfl) T.b_dict (by decide +kernel) rfl) pa_nil))))) (pw_or1 (pt_cmpR op_eq (pe_callB call_lenD (by rfl) T.b_len PySem.boot_len (pa_cons (pv 0) pa_nil)) pe_int (nomark _))))) pss_never pss_nil) (pss_cons (ps_lock (ps_for PassesOwn.never rfl (pi_keys (pv 0)) (pg_name (i := 1) S_need_places.nd rfl (Or.inl rfl)) (pss_one (ps_if (PW.pt (pw_or (pt_not (pt_val (pe_callR (F_is_name T) (hr.mono (by decide)) T.f_is_name.kp T.g_is_name pass0 (pa_cons (pv 1) pa_nil)))) (pw_or1 (pt_not (pt_val (pe_callR (F_is_switch T) (hr.mono (by decide)) T.f_is_switch.kp T.g_is_switch pass0 (pa_cons (pe_dget hu (pv 0) (pv 1) (fun _ _ => rfl)) pa_nil))))))) pss_never pss_nil)))) (pss_one (ps_if (pt_cmpR op_gt (pe_callB call_lenD (by rfl) T.b_len PySem.boot_len (pa_cons (pv 0) pa_nil)) (pe_glob (v := .int 40) (by rfl) hi_MOST_HOSTS_webs ⟨_, rfl⟩) (nomark _)) pss_never pss_nil)))), ?_⟩
    have pl0 : (plK hs pl).length = hs.length := List.length_map _
    have l0 : hs.length ≠ 0 := fun z => hne (List.length_eq_zero_iff.mp z)
    refine ⟨.ref d, rfl, .ref d, .ty "dict", .type "dict", .type "dict", true, rfl, .ty _, .base (.dK hd), kit_ty (by decide +kernel), true, rfl, iteF ?_⟩
    refine ⟨.ref d, rfl, d, _, rfl, hd, rfl, _, rfl, iteZ (fun h => by injection h with h; rw [pl0] at h; omega) ?_⟩
    refine ⟨d, .dK (plK hs pl), hd, True.intro, fun od => ⟨.ref d, rfl, d, od, rfl, .inl ⟨plK hs pl, upd_same, for_it walk_keys (fun i σ' H' => Ex (upd H d (.frz od (.dK (plK hs pl)))) H' ∧ ∃ x, σ' = [some (.ref d), x]) ⟨Ex.refl _, none, rfl⟩ (fun i σ' H' _ p => p.1 _ _ upd_same) ?_ ?_⟩⟩⟩
    · intro i x σ' H' H'' hi ⟨e2, u, hs'⟩ ⟨h1, kk, v, hk, hx⟩
      subst hs' h1 hx
      obtain ⟨y, hy, rfl, rfl⟩ := plK_get hk
      have my := List.mem_of_getElem? hy
      obtain ⟨o1, o2⟩ := ok y my
      refine ⟨.str y, rfl, y, rfl, o1, fun H2 e3 => ⟨true, rfl, iteF ?_⟩⟩
      refine ⟨.ref d, rfl, .str y, rfl, d, .int (pl y), rfl, .inl ⟨plK hs pl, .inr y, .inr ⟨od, (e2.trans e3) _ _ upd_same⟩, rfl, (plK_val my).symm⟩, pl y, rfl, o2, fun H3 e4 => ⟨true, rfl, iteF ⟨(e2.trans e3).trans e4, _, rfl⟩⟩⟩
    · intro σ' H' ⟨e2, u, hs'⟩
      subst hs'
      have e3 := lock_ex hd e2
      refine ⟨e2 _ _ upd_same, .ref d, rfl, d, _, rfl, upd_same, _, _, rfl, rfl, _, rfl, iteZ (by rw [pl0]; omega) (k _ e3)⟩)
theorem paired_snoc {α β : Type} {G : α → β → Prop} : ∀ {xs : List α} {ys : List β} {x : α} {y : β}, Paired G xs ys → G x y → Paired G (xs ++ [x]) (ys ++ [y])
  | _, _, _, _, .nil, h => .cons h .nil
  | _, _, _, _, .cons r t, h => .cons r (paired_snoc t h)
def code (e : Lk) : Int := 100 * (SfM.norm e).1 + (SfM.norm e).2
def dec (n : Int) : Lk := (n / 100, n % 100)
theorem dec_code {e : Lk} (h : LinkOk e) : dec (code e) = SfM.norm e := by
  obtain ⟨h1, h2, _⟩ := h
  have h3 : SwOk (SfM.norm e).1 ∧ SwOk (SfM.norm e).2 := by
    rcases SfM.norm_or e with z | z
    · rw [z]
      exact ⟨h1, h2⟩
    · rw [z]
      exact ⟨h2, h1⟩
  obtain ⟨⟨a1, a2⟩, b1, b2⟩ := h3
  unfold dec code
  refine Prod.ext ?_ ?_
  · show (100 * (SfM.norm e).1 + (SfM.norm e).2) / 100 = _
    omega
  · show (100 * (SfM.norm e).1 + (SfM.norm e).2) % 100 = _
    omega
def spLinks : Sp := fun vs H Q _ => ∃ (l : Addr) (refs : List V) (L : List Lk), vs = [.ref l] ∧ H l = some (.lst refs) ∧ LinksAt H refs L ∧ (∀ e ∈ L, LinkOk e) ∧ L.length ≤ 50 ∧
  ∀ p H2 rs L', H p = none → Ex H H2 → H2 p = some (.tup rs) → LinksAt H2 rs L' → L'.Perm (L.map SfM.norm) → Q (.ref p) H2
theorem F_links_in_order (T : TX K mg) : FnR P w K mg bs CX0 1 (He.ga K "links_in_order") spLinks :=
  T.f_links_in_order.fn S_links_in_order (fun vs H Q E ⟨_, _, _, h, _⟩ => by rw [h] <;> rfl) (fun _ _ _ _ _ _ us hl => match us, hl with | [_], _ => rfl) (body0 fun cdv A outer s H vs Q E hr q => by
    obtain ⟨l, refs, L, rfl, hl, hL, ok, few, k⟩ := q
    obtain ⟨_, hi_SWITCHES⟩ := T.i_SWITCHES
    refine ⟨_, (pss_cons (ps_set (i := 1) S_links_in_order.nd rfl (Or.inl rfl) (pe_callB cr_sorted (by rfl) T.b_sorted (by decide +kernel) (pa_cons (pe_lc (own := [("one", 2), ("other", 3)]) rfl S_links_in_order.nd (pi_list (pv 0)) (blkOk_by (N := N_links_in_order) (sc := defScope s_links_in_order) (by decide +kernel)) (fun _ _ _ _ _ => (pg_at (K := K) (R := fun k => gTup k 2 _) (pg_tup (n := 2) (by rfl) (pgs_cons (pg_name (i := 2) S_links_in_order.nd rfl (Or.inl rfl)) (pgs_cons (pg_name (i := 3) S_links_in_order.nd rfl (Or.inl rfl)) pgs_nil))) rfl)) (fun _ _ _ _ _ => pts_nil) (fun _ _ _ _ _ => (pe_callTy call_int1 (by rfl) T.b_int (by decide +kernel) (pa_cons (pe_op op_add (pe_op op_mul (pe_glob (v := .int 100) (by rfl) hi_SWITCHES ⟨_, rfl⟩) (pe_callB (call_min2 rfl) (by rfl) T.b_min (by decide +kernel) (pa_cons (pe_callTy call_int1 (by rfl) T.b_int (by decide +kernel) (pa_cons (pv 2) pa_nil)) (pa_cons (pe_callTy call_int1 (by rfl) T.b_int (by decide +kernel) (pa_cons (pv 3) pa_nil)) pa_nil)))) (pe_callB (call_max2 rfl) (by rfl) T.b_max (by decide +kernel) (pa_cons (pe_callTy call_int1 (by rfl) T.b_int (by decide +kernel) (pa_cons (pv 2) pa_nil)) (pa_cons (pe_callTy call_int1 (by rfl) T.b_int (by decide +kernel) (pa_cons (pv 3) pa_nil)) pa_nil)))) pa_nil)))) pa_nil))) (pss_one (ps_ret (pe_callTy call_tuple_of (by rfl) T.b_tuple (by decide +kernel) (pa_cons (pe_lc (own := [("number", 4)]) rfl S_links_in_order.nd (pi_list (pv 1)) (blkOk_by (N := N_links_in_order) (sc := defScope s_links_in_order) (by decide +kernel)) (fun _ _ _ _ _ => (pg_name (i := 4) S_links_in_order.nd rfl (Or.inl rfl))) (fun _ _ _ _ _ => pts_nil) (fun _ _ _ _ _ => (pe_tup (pa_cons (pe_op op_fdiv (pv 4) (pe_glob (v := .int 100) (by rfl) hi_SWITCHES ⟨_, rfl⟩)) (pa_cons (pe_op op_mod (pv 4) (pe_glob (v := .int 100) (by rfl) hi_SWITCHES ⟨_, rfl⟩)) pa_nil))))) pa_nil))))), ?_⟩
    have rl : refs.length = L.length := Paired.length hL
    refine ⟨.ref l, rfl, l, rfl, ⟨_, .inl (.inl hl)⟩, fun D hD => lcW walk_list hD (fun i acc _ => acc = ((L.take i).map code).map V.int) (by omega) rfl (fun H' e => Evl.ex_l e (.inl (.inl hl))) ?_ ?_⟩
    · intro i acc Hi Ha hi r e1 e2 C C0 hC _ x Hb ⟨h1, hx⟩
      subst h1
      obtain ⟨⟨e1', e2'⟩, hf, p, rfl, hp⟩ := paired_at hL hx
      have hp := (e1.trans e2) _ _ hp
      have o := ok _ (List.mem_of_getElem? hf)
      obtain ⟨⟨o1, o2⟩, ⟨o3, o4⟩, _⟩ := o
      refine ⟨p, _, rfl, .inl (.inl hp), rfl, _, _, rfl, _, _, rfl, rfl, rfl, yes ?_⟩
      refine ⟨.int e1', rfl, .inl ⟨e1', rfl, .int e2', rfl, .inl ⟨e2', rfl, e1', e2', rfl, 100, _, rfl, rfl, .inl ⟨by decide, by decide⟩, .int e1', rfl, .inl ⟨e1', rfl, .int e2', rfl, .inl ⟨e2', rfl, e1', e2', rfl, _, _, rfl, rfl, .inl ⟨_, rfl, hC _ _ (Ex.refl _) fun H5 _ => ?_⟩⟩⟩⟩⟩⟩
      rw [r, List.take_add_one, hf]
      simp [code, SfM.norm]
    · intro acc H' la r e _ H2 e2 h2
      have e3 := e.trans e2
      rw [r, rl, List.take_length] at h2
      refine ⟨D, L.map code, rfl, .inl (.inl h2), by rw [List.length_map]; omega, fun ms p pm _ hp => ?_⟩
      have e4 : Ex H (upd H2 p (.lst (ms.map V.int))) := e3.trans (Ex.new hp)
      have ml : ms.length = L.length := by rw [pm.length_eq, List.length_map]
      refine ⟨.ref p, rfl, p, rfl, ⟨_, .inl (.inl upd_same)⟩, fun D2 hD2 => lcW walk_list hD2 (fun i acc H' => LinksAt H' acc ((ms.take i).map dec)) (by rw [List.length_map]; omega) .nil (fun H' e => .inl (.inl (e _ _ upd_same))) ?_ ?_⟩
      · intro i acc Hi Ha hi r5 e5 e6 C C0 hC _ x Hb ⟨h1, hx⟩
        subst h1
        rw [List.getElem?_map] at hx
        obtain ⟨n, hn, rfl⟩ := Option.map_eq_some_iff.mp hx
        refine ⟨rfl, yes ?_⟩
        refine ⟨.int n, rfl, n, 100, rfl, rfl, ⟨by decide, by decide⟩, .int n, rfl, n, 100, rfl, rfl, (show (0 : Int) < 100 by decide), Evl.sz_of (by show 2 ≤ 100000; decide), fun z hz => hC _ _ (Ex.new hz) fun H5 kp => ?_⟩
        rw [List.take_add_one, hn, List.map_append]
        exact paired_snoc (LinksAt.mono r5 (kp.ex e6 (Ex.new hz))) ⟨z, rfl, kp.new upd_same hz⟩
      · intro acc H5 la r5 e5 _ H6 e6 h6
        rw [List.length_map, List.take_length] at r5
        refine ⟨D2, acc, rfl, .inl ⟨.inl (.inl h6), fun z hz => ?_⟩⟩
        have e7 : Ex H (upd H6 z (.tup acc)) := e4.trans (e5.trans (e6.trans (Ex.new hz)))
        refine k z _ acc (ms.map dec) (Evl.fresh_back (e4.trans (e5.trans e6)) hz) e7 upd_same (LinksAt.mono r5 (e6.trans (Ex.new hz))) ?_
        have q := pm.map dec
        rw [List.map_map] at q
        have q2 : L.map (dec ∘ code) = L.map SfM.norm := List.map_congr_left fun e he => dec_code (ok e he)
        rw [q2] at q
        exact q)
def spNext (K : PySem.W.Frag) : Sp := fun vs H Q _ => ∃ (p : Addr) (refs : List V) (L : List Lk) (s : Int), vs = [.ref p, .int s] ∧ H p = some (.tup refs) ∧ LinksAt H refs L ∧ L.length ≤ 50 ∧
  ∀ l H2, H l = none → Ex H H2 → H2 l = some (.lst ((SfM.nextTo L s).map V.int)) → Q (.ref l) H2
theorem F_next_to (T : TX K mg) : FnR P w K mg bs CX0 1 (He.ga K "next_to") (spNext K) :=
  T.f_next_to.fn S_next_to (fun vs H Q E ⟨_, _, _, _, h, _⟩ => by rw [h] <;> rfl) (fun _ _ _ _ _ _ us hl => match us, hl with | [_, _], _ => rfl) (body0 fun cdv A outer s H vs Q E hr q => by
    obtain ⟨p, refs, L, sw, rfl, hp, hL, few, k⟩ := q
    refine ⟨_, (pss_one (ps_ret (pe_lc (own := [("one", 2), ("other", 3)]) rfl S_next_to.nd (pi_tup (pv 0)) (blkOk_by (N := N_next_to) (sc := defScope s_next_to) (by decide +kernel)) (fun _ _ _ _ _ => (pg_at (K := K) (R := fun k => gTup k 2 _) (pg_tup (n := 2) (by rfl) (pgs_cons (pg_name (i := 2) S_next_to.nd rfl (Or.inl rfl)) (pgs_cons (pg_name (i := 3) S_next_to.nd rfl (Or.inl rfl)) pgs_nil))) rfl)) (fun _ _ _ _ _ => pts_one (pt_at (K := K) (R := fun k => tTest (tOp (rIn k false) _ _)) (pt_cmpR op_in_seq (pv 1) (pe_tup (pa_cons (pv 2) (pa_cons (pv 3) pa_nil))) (by rfl)) rfl)) (fun _ _ _ _ _ => (pe_ifExp (pt_cmpR op_eq (pv 2) (pv 1) (nomark _)) (pv 3) (pv 2)))))), ?_⟩
    have rl : refs.length = L.length := Paired.length hL
    refine ⟨.ref p, rfl, p, rfl, ⟨_, .inl (.inl hp)⟩, fun D hD => lcW walk_tup hD (fun i acc _ => acc = (SfM.nextTo (L.take i) sw).map V.int) (by omega) rfl (fun H' e => Evl.ex_t e (.inl (.inl hp))) ?_ ?_⟩
    · intro i acc Hi Ha hi r e1 e2 C C0 hC hC0 x Hb ⟨h1, hx⟩
      subst h1
      obtain ⟨⟨a, b⟩, hf, q, rfl, hq⟩ := paired_at hL hx
      have hq := (e1.trans e2) _ _ hq
      have et : SfM.nextTo (L.take (i + 1)) sw = SfM.nextTo (L.take i) sw ++ SfM.nextTo [(a, b)] sw := by rw [List.take_add_one, hf, SfM.nextTo_append] <;> rfl
      refine ⟨q, _, rfl, .inl (.inl hq), rfl, _, _, rfl, _, _, rfl, rfl, rfl, ?_⟩
      refine ⟨.int sw, rfl, .int a, rfl, .int b, rfl, Evl.sz_of (by show 2 ≤ 100000; decide), fun t ht => ⟨t, _, rfl, .inr (.inl (.inl upd_same)), rfl, rfl, _, rfl, ?_⟩⟩
      have ex := Ex.new (o := HO.tup [V.int a, V.int b]) ht
      have ev : inV (.int sw) [V.int a, V.int b] = decide (sw = a ∨ sw = b) := by
        show ((a == sw) || ((b == sw) || false)) = _
        rw [Bool.or_false]
        by_cases c1 : sw = a
        · subst c1
          simp
        · by_cases c2 : sw = b
          · subst c2
            simp
          · rw [decide_eq_false (by simp [c1, c2]), beq_eq_false_iff_ne.mpr (Ne.symm c1), beq_eq_false_iff_ne.mpr (Ne.symm c2)]
            rfl
      show if inV (.int sw) [V.int a, V.int b] = true then _ else _
      rw [ev]
      by_cases c : sw = a ∨ sw = b
      · refine iteY c ?_
        have one : SfM.nextTo [(a, b)] sw = [if a = sw then b else a] := by
          unfold SfM.nextTo
          rw [List.filter_cons, if_pos (decide_eq_true c)] <;> rfl
        refine ⟨.int a, rfl, .int sw, rfl, rfl, _, rfl, ite2 (fun h => ?_) fun h => ?_⟩
        · have h : a = sw := by
            have := of_decide_eq_true h
            injection this
          refine ⟨.int b, rfl, hC _ _ ex fun H5 _ => ?_⟩
          rw [r, et, one, if_pos h]
          simp
        · have h : ¬ a = sw := fun z => h (decide_eq_true (by rw [z]))
          refine ⟨.int a, rfl, hC _ _ ex fun H5 _ => ?_⟩
          rw [r, et, one, if_neg h]
          simp
      · refine iteZ c (hC0 _ ex fun H5 _ => ?_)
        have none' : SfM.nextTo [(a, b)] sw = [] := by
          unfold SfM.nextTo
          rw [List.filter_cons, if_neg (show ¬ decide (sw = a ∨ sw = b) = true by rw [decide_eq_false c]; exact Bool.false_ne_true)] <;> rfl
        rw [r, et, none', List.append_nil]
    · intro acc H' la r e _ H2 e2 h2
      rw [r, rl, List.take_length] at h2
      exact k D H2 hD (e.trans e2) h2)
def spGuests : Sp := fun vs H Q _ => ∃ (d : Addr) (hs : List Str) (pl : Str → Int) (s : Int), vs = [.ref d, .int s] ∧ H d = some (.dK (plK hs pl)) ∧ hs.length ≤ 40 ∧
  ∀ l H2, H l = none → Ex H H2 → H2 l = some (.lst (txs (hs.filter fun h => decide (pl h = s)))) → Q (.ref l) H2
theorem F_guests_of (T : TX K mg) : FnR P w K mg bs CX0 1 (He.ga K "guests_of") spGuests :=
  T.f_guests_of.fn S_guests_of (fun vs H Q E ⟨_, _, _, _, h, _⟩ => by rw [h] <;> rfl) (fun _ _ _ _ _ _ us hl => match us, hl with | [_, _], _ => rfl) (body0 fun cdv A outer s H vs Q E hr q => by
    obtain ⟨d, hs, pl, sw, rfl, hd, few, k⟩ := q
    have hu := hu_of hr
    refine ⟨_, (pss_one (ps_ret (pe_lock (pe_lc (own := [("host", 2)]) rfl S_guests_of.nd (pi_keys (pv 0)) (blkOk_by (N := N_guests_of) (sc := defScope s_guests_of) (by decide +kernel)) (fun _ _ _ _ _ => (pg_name (i := 2) S_guests_of.nd rfl (Or.inl rfl))) (fun _ _ _ _ _ => pts_one (pt_cmpR op_eq (pe_dget hu (pv 0) (pv 2) (fun _ _ => rfl)) (pv 1) (nomark _))) (fun _ _ _ _ _ => (pv 2)))))), ?_⟩
    have pl0 : (plK hs pl).length = hs.length := List.length_map _
    refine ⟨d, .dK (plK hs pl), hd, True.intro, fun od => ⟨.ref d, rfl, d, od, rfl, .inl ⟨plK hs pl, upd_same, fun D hD => lcW walk_keys hD (fun i acc _ => acc = txs ((hs.take i).filter fun h => decide (pl h = sw))) (by omega) rfl (fun H' e => e _ _ upd_same) ?_ ?_⟩⟩⟩
    · intro i acc Hi Ha hi r e1 e2 C C0 hC hC0 x Hb ⟨h1, kk, v, hk, hx⟩
      subst h1 hx
      obtain ⟨y, hy, rfl, rfl⟩ := plK_get hk
      have my := List.mem_of_getElem? hy
      have et : (hs.take (i + 1)).filter (fun h => decide (pl h = sw)) = (hs.take i).filter (fun h => decide (pl h = sw)) ++ [y].filter (fun h => decide (pl h = sw)) := by rw [List.take_add_one, hy, List.filter_append] <;> rfl
      refine ⟨rfl, .ref d, rfl, .str y, rfl, d, .int (pl y), rfl, .inl ⟨plK hs pl, .inr y, .inr ⟨od, (e1.trans e2) _ _ upd_same⟩, rfl, (plK_val my).symm⟩, .int sw, rfl, rfl, _, rfl, ?_⟩
      by_cases c : pl y = sw
      · have ec : V.int (pl y) = V.int sw := by rw [c]
        refine iteY ec ⟨.str y, rfl, hC _ _ (Ex.refl _) fun H5 _ => ?_⟩
        rw [r, et, List.filter_cons, if_pos (decide_eq_true c)]
        simp [txs]
      · have ec : ¬ V.int (pl y) = V.int sw := fun z => c (by injection z)
        refine iteZ ec (hC0 _ (Ex.refl _) fun H5 _ => ?_)
        rw [r, et, List.filter_cons, if_neg (show ¬ decide (pl y = sw) = true by rw [decide_eq_false c]; exact Bool.false_ne_true)]
        simp [txs]
    · intro acc H' la r e _ H2 e2 h2
      have ef := e.trans e2
      have nD : D ≠ d := fun z => by
        rw [z, upd_same] at hD
        cases hD
      rw [r, pl0, List.take_length] at h2
      have nH : H D = none := by
        rw [upd_ne nD] at hD
        exact hD
      exact ⟨ef _ _ upd_same, k D _ nH (lock_ex hd ef) (by rw [upd_ne nD]; exact h2)⟩)
/-- a dict from switches to labels -/
def labK (S : List Int) (lab : Int → Int) : List (Key × V) := S.map fun s => (.inl s, .int (lab s))
theorem labK_val {S : List Int} {lab : Int → Int} {s : Int} (m : s ∈ S) : valV (labK S lab) (.inl s) = some (.int (lab s)) := by
  induction S with
  | nil => cases m
  | cons x r ih =>
    show valV ((Sum.inl x, V.int (lab x)) :: labK r lab) (.inl s) = _
    by_cases c : x = s
    · rw [valV_pos (p := ((.inl x : Key), V.int (lab x))) (by rw [c]), c]
    · rw [valV_neg (p := ((.inl x : Key), V.int (lab x))) (fun z => c (Sum.inl.inj z))]
      rcases List.mem_cons.mp m with m | m
      · exact absurd m.symm c
      · exact ih m
theorem labK_none {S : List Int} {lab : Int → Int} {s : Int} (m : s ∉ S) : valV (labK S lab) (.inl s) = none := by
  induction S with
  | nil => rfl
  | cons x r ih =>
    show valV ((Sum.inl x, V.int (lab x)) :: labK r lab) (.inl s) = _
    rw [valV_neg (p := ((.inl x : Key), V.int (lab x))) (fun z => m (by rw [Sum.inl.inj z]; exact List.mem_cons_self))]
    exact ih fun h => m (List.mem_cons_of_mem _ h)
theorem labK_get {S : List Int} {lab : Int → Int} {i : Nat} {x : Key × V} (h : (labK S lab)[i]? = some x) : ∃ s, S[i]? = some s ∧ x = (.inl s, .int (lab s)) := by
  unfold labK at h
  rw [List.getElem?_map] at h
  obtain ⟨s, h1, h2⟩ := Option.map_eq_some_iff.mp h
  exact ⟨s, h1, h2.symm⟩
theorem labK_put {S : List Int} {lab : Int → Int} {s : Int} (m : s ∉ S) : putK (labK S lab) (.inl s) (.int (lab s)) = labK (S ++ [s]) lab := by
  rw [putK_new _ (labK_none m)]
  unfold labK
  rw [List.map_append] <;> rfl
theorem take_nodup {α : Type} {S : List α} (h : S.Nodup) {i : Nat} {s : α} (hs : S[i]? = some s) : s ∉ S.take i ∧ S.take (i + 1) = S.take i ++ [s] := by
  have et : S.take (i + 1) = S.take i ++ [s] := by rw [List.take_add_one, hs] <;> rfl
  refine ⟨fun m => ?_, et⟩
  have n : (S.take (i + 1)).Nodup := List.Nodup.sublist (List.take_sublist _ _) h
  rw [et, List.nodup_append] at n
  exact n.2.2 s m s (by simp) rfl
def spGrouped (K : PySem.W.Frag) : Sp := fun vs H Q _ => ∃ (p q : Addr) (S : List Int) (refs : List V) (L : List Lk) (D : Int → Int → Nat), vs = [.ref p, .ref q] ∧ H p = some (.tup (S.map V.int)) ∧ H q = some (.tup refs) ∧ LinksAt H refs L ∧ SfM.TreeL S L D ∧ L.length ≤ 50 ∧ S.length ≤ 100 ∧
  ∀ d H2 lab, H d = none → Ex H H2 → H2 d = some (.dK (labK S lab)) → (∀ x ∈ S, ∀ y ∈ S, lab x = lab y) → Q (.ref d) H2
theorem F_grouped (T : TX K mg) : FnR P w K mg bs CX0 1 (He.ga K "grouped") (spGrouped K) :=
  T.f_grouped.fn S_grouped (fun vs H Q E ⟨_, _, _, _, _, _, h, _⟩ => by rw [h] <;> rfl) (fun _ _ _ _ _ _ us hl => match us, hl with | [_, _], _ => rfl) (body0 fun cdv A outer s H vs Q E hr qq => by
    obtain ⟨p, q, S, refs, L, D, rfl, hp, hq, hL, Tr, few, fewS, k⟩ := qq
    have hu := hu_of hr
    refine ⟨_, (pss_cons (ps_setDc (i := 2) (own := [("switch", 7)]) rfl S_grouped.nd rfl rfl (sw_trueD rfl rfl rfl (by decide +kernel)) (pi_tup (pv 0)) (blkOk_by (N := N_grouped) (sc := defScope s_grouped) (by decide +kernel)) (fun _ _ _ _ _ => (pg_name (i := 7) S_grouped.nd rfl (Or.inl rfl))) (fun _ _ _ _ _ => pts_nil) (fun _ _ _ _ _ => (pv 7)) (fun _ _ _ _ _ => (pv 7))) (pss_cons (ps_for PassesOwn.never rfl (pi_tup (pv 1)) (pg_tup (n := 2) (by rfl) (pgs_cons (pg_name (i := 3) S_grouped.nd rfl (Or.inl rfl)) (pgs_cons (pg_name (i := 4) S_grouped.nd rfl (Or.inl rfl)) pgs_nil))) (pss_cons (ps_asg (pe_tup (pa_cons (pe_dget hu (pv 2) (pv 3) (fun _ _ => rfl)) (pa_cons (pe_dget hu (pv 2) (pv 4) (fun _ _ => rfl)) pa_nil))) (pg_tup (n := 2) (by rfl) (pgs_cons (pg_name (i := 5) S_grouped.nd rfl (Or.inr rfl)) (pgs_cons (pg_name (i := 6) S_grouped.nd rfl (Or.inr rfl)) pgs_nil)))) (pss_cons (ps_if (pt_cmpR op_eq (pv 5) (pv 6) (nomark _)) pss_never pss_nil) (pss_one (ps_lock (ps_setDc (i := 2) (own := [("switch", 7), ("group", 8)]) rfl S_grouped.nd rfl rfl (sw_trueD rfl rfl rfl (by decide +kernel)) (pi_items (pv 2)) (blkOk_by (N := N_grouped) (sc := defScope s_grouped) (by decide +kernel)) (fun _ _ _ _ _ => (pg_at (K := K) (R := fun k => gTup k 2 _) (pg_tup (n := 2) (by rfl) (pgs_cons (pg_name (i := 7) S_grouped.nd rfl (Or.inl rfl)) (pgs_cons (pg_name (i := 8) S_grouped.nd rfl (Or.inl rfl)) pgs_nil))) rfl)) (fun _ _ _ _ _ => pts_nil) (fun _ _ _ _ _ => (pv 7)) (fun _ _ _ _ _ => (pe_ifExp (pt_cmpR op_eq (pv 8) (pv 6) (nomark _)) (pv 5) (pv 8))))))))) (pss_one (ps_ret (pv 2))))), ?_⟩
    have rl : refs.length = L.length := Paired.length hL
    have sl : (S.map V.int).length = S.length := List.length_map _
    refine ⟨.ref p, rfl, p, rfl, ⟨_, .inl (.inl hp)⟩, fun D0 hD => dcW walk_tup hD (fun i acc _ => acc = labK (S.take i) id) (by omega) rfl (fun H' e => Evl.ex_t e (.inl (.inl hp))) ?_ ?_⟩
    · intro i acc Hi Ha hi r e1 e2 C C0 hC _ x Hb ⟨h1, hx⟩
      subst h1
      rw [List.getElem?_map] at hx
      obtain ⟨sw, hs, rfl⟩ := Option.map_eq_some_iff.mp hx
      obtain ⟨nm, et⟩ := take_nodup Tr.nd hs
      exact ⟨rfl, yes ⟨.int sw, rfl, .int sw, rfl, hC (.inl sw) _ _ (Ex.refl _) fun H5 _ => by rw [r, et]; exact labK_put (lab := id) nm⟩⟩
    · intro acc H' la r e hD' H2 e2 h2
      rw [r, sl, List.take_length] at h2
      have e3 : Ex H H2 := e.trans e2
      refine ⟨.ref q, rfl, q, rfl, ⟨_, .inl (.inl (e3 _ _ hq))⟩, for_tup (xs := refs) (fun i σ' H' => ∃ d lab, H d = none ∧ Ex H H' ∧ H' d = some (.dK (labK S lab)) ∧ SfM.Lab S D lab (L.take i) (L.drop i) ∧ ∃ a b c f g h, σ' = [some (.ref p), some (.ref q), some (.ref d), a, b, c, f, g, h])
        ⟨D0, id, hD, e3, h2, SfM.Lab.start S D L, none, none, none, none, none, none, rfl⟩ (fun i σ' H' _ ⟨d, lab, _, e4, _⟩ => Evl.ex_t e4 (.inl (.inl hq))) ?_ ?_⟩
      · intro i x σ' H4 hx ⟨d, lab, nd, e4, hd, lb, c1, c2, c3, c4, c5, c6, hs⟩
        subst hs
        obtain ⟨⟨a, b⟩, hf, t, rfl, ht⟩ := paired_at hL hx
        have ht := e4 _ _ ht
        obtain ⟨li, ei⟩ := List.getElem?_eq_some_iff.mp hf
        have dr : L.drop i = (a, b) :: L.drop (i + 1) := by rw [List.drop_eq_getElem_cons li, ei]
        have tk : L.take (i + 1) = L.take i ++ [(a, b)] := by rw [List.take_add_one, hf] <;> rfl
        rw [dr] at lb
        have Tr2 : SfM.TreeL S (L.take i ++ (a, b) :: L.drop (i + 1)) D := by
          rw [← dr, List.take_append_drop]
          exact Tr
        obtain ⟨mA, mB, _⟩ := Tr.ends (a, b) (List.mem_of_getElem? hf)
        have ne : lab a ≠ lab b := lb.ne Tr2
        refine ⟨t, _, rfl, .inl (.inl ht), rfl, _, _, rfl, _, _, rfl, rfl, ?_⟩
        refine ⟨.ref d, rfl, .int a, rfl, d, .int (lab a), rfl, .inl ⟨labK S lab, .inl a, .inl hd, rfl, (labK_val mA).symm⟩, .ref d, rfl, .int b, rfl, d, .int (lab b), rfl, .inl ⟨labK S lab, .inl b, .inl hd, rfl, (labK_val mB).symm⟩, Evl.sz_of (by show 2 ≤ 100000; decide), fun z hz => ⟨z, _, rfl, .inl (.inl upd_same), rfl, _, _, rfl, _, _, rfl, rfl, ?_⟩⟩
        have e5 : Ex H4 (upd H4 z (.tup [.int (lab a), .int (lab b)])) := Ex.new hz
        refine ⟨.int (lab a), rfl, .int (lab b), rfl, rfl, _, rfl, iteZ (fun h => ne (by injection h)) ?_⟩
        have hd5 := e5 _ _ hd
        have kl : (labK S lab).length = S.length := List.length_map _
        refine ⟨d, .dK (labK S lab), hd5, True.intro, fun od => ⟨.ref d, rfl, d, od, labK S lab, rfl, upd_same, fun D5 hD5 => dcW walk_items hD5 (fun j acc _ => acc = labK (S.take j) (SfM.relab lab (lab a) (lab b))) (by omega) rfl (fun H' e => e _ _ upd_same) ?_ ?_⟩⟩
        · intro j acc Hi Ha hj r6 e6 e7 C C0 hC _ v Hb ⟨T2, x1, y1, h1, h2', h3, h4, h5⟩
          subst h1 h3
          obtain ⟨kx, hk, rfl⟩ := Option.map_eq_some_iff.mp h4
          obtain ⟨ky, hk2, rfl⟩ := Option.map_eq_some_iff.mp h5
          rw [hk] at hk2
          obtain rfl := Option.some.inj hk2
          obtain ⟨sw, hs, rfl⟩ := labK_get hk
          obtain ⟨nm, et⟩ := take_nodup Tr.nd hs
          have ex := Ex.new (o := HO.tup [V.int sw, V.int (lab sw)]) h2'
          have put : ∀ v, v = SfM.relab lab (lab a) (lab b) sw → putK acc (.inl sw) (.int v) = labK (S.take (j + 1)) (SfM.relab lab (lab a) (lab b)) := fun v hv => by
            rw [r6, et, hv]
            exact labK_put nm
          refine ⟨T2, _, rfl, .inl (.inl upd_same), rfl, _, _, rfl, _, _, rfl, rfl, rfl, yes ⟨.int sw, rfl, .int (lab sw), rfl, .int (lab b), rfl, rfl, _, rfl, ite2 (fun h => ?_) fun h => ?_⟩⟩
          · have h : lab sw = lab b := by
              have := of_decide_eq_true h
              injection this
            exact ⟨.int (lab a), rfl, hC (.inl sw) _ _ ex fun H5 _ => put _ (by unfold SfM.relab; rw [if_pos h])⟩
          · have h : ¬ lab sw = lab b := fun z => h (decide_eq_true (by rw [z]))
            exact ⟨.int (lab sw), rfl, hC (.inl sw) _ _ ex fun H5 _ => put _ (by unfold SfM.relab; rw [if_neg h])⟩
        · intro acc H6 la6 r6 e6 _ H7 e7 h7
          rw [r6, kl, List.take_length] at h7
          have ef := e6.trans e7
          have nD : D5 ≠ d := fun z => by
            rw [z, upd_same] at hD5
            cases hD5
          have eu := lock_ex hd5 ef
          have eH : Ex H (upd H7 d (.dK (labK S lab))) := e4.trans (e5.trans eu)
          have n5 : H D5 = none := by
            rw [upd_ne nD] at hD5
            exact Evl.fresh_back (e4.trans e5) hD5
          refine ⟨ef _ _ upd_same, D5, SfM.relab lab (lab a) (lab b), n5, eH, by rw [upd_ne nD]; exact h7, ?_, _, _, _, _, _, _, rfl⟩
          rw [tk]
          exact lb.next Tr2
      · intro σ' H4 ⟨d, lab, nd, e4, hd, lb, c1, c2, c3, c4, c5, c6, hs⟩
        subst hs
        rw [rl, List.take_length, List.drop_length] at lb
        exact ⟨.ref d, rfl, k d H4 lab nd e4 hd fun x hx y hy => lb.all Tr hx _ y (Nat.le_refl _) hy⟩)
end SfW
namespace SfW
open PySem PySem.Spec PyProof.Rows L2
open Evl (Ex RetV)
/-! webs: the methods -/
variable {P : Program} {w : World} {K : PySem.W.Frag} {mg : Str → Option Value} {bs : Heap}
/-- what a web is made of -/
structure WD where
  S : List Int
  L : List Lk
  D : Int → Int → Nat
  hs : List Str
  pl : Str → Int
structure WOk (W : WD) : Prop where
  tree : SfM.TreeL W.S W.L W.D
  fewL : W.L.length ≤ 50
  fewS : W.S.length ≤ 50
  nm : ∀ h ∈ W.hs, NameOk h
  nd : W.hs.Nodup
  srt : sortedS W.hs = true
  few : W.hs.length ≤ 31
  two : 2 ≤ W.hs.length
  home : ∀ h ∈ W.hs, W.pl h ∈ W.S
  sw : ∀ s ∈ W.S, SwOk s
  lnk : ∀ e ∈ W.L, LinkOk e
def webFs (pL pH dP pS dS dG : Addr) : List (Str × V) := [("own_links", .ref pL), ("own_hosts", .ref pH), ("own_places", .ref dP), ("own_switches", .ref pS), ("sides", .ref dS), ("guests", .ref dG)]
def SidesAt (H : Hp) (W : WD) (kvs : List (Key × V)) : Prop := ∀ s ∈ W.S, ∃ l, valV kvs (.inl s) = some (.ref l) ∧ H l = some (.lst ((SfM.nextTo W.L s).map V.int))
def GuestsAt (H : Hp) (W : WD) (kvs : List (Key × V)) : Prop := ∀ s ∈ W.S, ∃ l, valV kvs (.inl s) = some (.ref l) ∧ H l = some (.lst (txs (SfM.guestsAt W.hs W.pl s)))
/-- the web W at a (x: the tree, where it is told) -/
def WebAt (K : PySem.W.Frag) (H : Hp) (a : Addr) (W : WD) : Prop := ∃ dx x pL pH dP pS dS dG refs sd gd, H a = some (.ins (He.ga K "Web") dx (webFs pL pH dP pS dS dG ++ x)) ∧ (x = [] ∨ ∃ v, x = [(("own_tree" : Str), v)]) ∧
  H pL = some (.tup refs) ∧ LinksAt H refs W.L ∧ H pH = some (.tup (txs W.hs)) ∧ H dP = some (.dK (plK W.hs W.pl)) ∧ H pS = some (.tup (W.S.map V.int)) ∧ H dS = some (.dK sd) ∧ SidesAt H W sd ∧ H dG = some (.dK gd) ∧ GuestsAt H W gd
theorem WebAt.mono {H H' : Hp} {a : Addr} {W : WD} (h : WebAt K H a W) (e : Ex H H') : WebAt K H' a W := by
  obtain ⟨dx, x, pL, pH, dP, pS, dS, dG, refs, sd, gd, h1, h2, h3, h4, h5, h6, h7, h8, h9, h10, h11⟩ := h
  exact ⟨dx, x, pL, pH, dP, pS, dS, dG, refs, sd, gd, e _ _ h1, h2, e _ _ h3, h4.mono e, e _ _ h5, e _ _ h6, e _ _ h7, e _ _ h8, fun s hs => let ⟨l, a, b⟩ := h9 s hs; ⟨l, a, e _ _ b⟩, e _ _ h10, fun s hs => let ⟨l, a, b⟩ := h11 s hs; ⟨l, a, e _ _ b⟩⟩
theorem webFs_no {pL pH dP pS dS dG : Addr} {x : List (Str × V)} (hx : x = [] ∨ ∃ v, x = [(("own_tree" : Str), v)]) {m : Str} (h : ("own_links" : Str) ≠ m ∧ ("own_hosts" : Str) ≠ m ∧ ("own_places" : Str) ≠ m ∧ ("own_switches" : Str) ≠ m ∧ ("sides" : Str) ≠ m ∧ ("guests" : Str) ≠ m ∧ ("own_tree" : Str) ≠ m) : (webFs pL pH dP pS dS dG ++ x).lookup m = none := by
  obtain ⟨h1, h2, h3, h4, h5, h6, h7⟩ := h
  have no : ∀ (k : Str) (v : V) (r : List (Str × V)), k ≠ m → List.lookup m ((k, v) :: r) = List.lookup m r := fun k v r hk => by
    rw [List.lookup_cons]
    rw [show (m == k) = false from beq_eq_false_iff_ne.mpr (Ne.symm hk)]
  unfold webFs
  simp only [List.cons_append, List.nil_append]
  rw [no _ _ _ h1, no _ _ _ h2, no _ _ _ h3, no _ _ _ h4, no _ _ _ h5, no _ _ _ h6]
  rcases hx with rfl | ⟨v, rfl⟩
  · rfl
  · rw [no _ _ _ h7]
    rfl
theorem F_Web_hosts (T : TX K mg) : FnR P w K mg bs CX0 1 (pgA K (He.ga K "Web") "hosts") (getR (He.ga K "Web") "own_hosts") :=
  T.f_Web_hosts.fn S_Web_hosts (fun vs H Q E ⟨_, _, _, _, h, _⟩ => by rw [h] <;> rfl) (fun _ _ _ _ _ _ us hl => match us, hl with | [_], _ => rfl) (body0 fun cdv A outer s H vs Q E hr q => by
    obtain ⟨a, dx, fs, v, rfl, ha, hv, k⟩ := q
    exact ⟨_, (pss_one (ps_ret (pe_fld (pv 0) rfl))), .ref a, rfl, a, _, dx, fs, v, rfl, ha, T.c_Web, T.n_Web_own_hosts, hv, k⟩)
theorem F_Web_switches (T : TX K mg) : FnR P w K mg bs CX0 1 (pgA K (He.ga K "Web") "switches") (getR (He.ga K "Web") "own_switches") :=
  T.f_Web_switches.fn S_Web_switches (fun vs H Q E ⟨_, _, _, _, h, _⟩ => by rw [h] <;> rfl) (fun _ _ _ _ _ _ us hl => match us, hl with | [_], _ => rfl) (body0 fun cdv A outer s H vs Q E hr q => by
    obtain ⟨a, dx, fs, v, rfl, ha, hv, k⟩ := q
    exact ⟨_, (pss_one (ps_ret (pe_fld (pv 0) rfl))), .ref a, rfl, a, _, dx, fs, v, rfl, ha, T.c_Web, T.n_Web_own_switches, hv, k⟩)
def spHome (K : PySem.W.Frag) : Sp := fun vs H Q _ => ∃ (a : Addr) (W : WD) (h : Str), vs = [.ref a, .str h] ∧ WebAt K H a W ∧ h ∈ W.hs ∧ RetV (.int (W.pl h)) H Q
theorem F_home (T : TX K mg) : FnR P w K mg bs CX0 1 (He.ma K (He.ga K "Web") "home") (spHome K) :=
  T.f_home.fn S_home (fun vs H Q E ⟨_, _, _, h, _⟩ => by rw [h] <;> rfl) (fun _ _ _ _ _ _ us hl => match us, hl with | [_, _], _ => rfl) (body0 fun cdv A outer s H vs Q E hr q => by
    obtain ⟨a, W, h, rfl, ⟨dx, x, pL, pH, dP, pS, dS, dG, refs, sd, gd, h1, hx, h3, h4, h5, h6, h7, h8, h9, h10, h11⟩, hm, k⟩ := q
    have hu := hu_of hr
    refine ⟨_, (pss_cons (ps_if (PW.pt (pw_or (pt_not (pt_val (pe_callB call_isi (by rfl) T.b_isinstance (by decide +kernel) (pa_cons (pv 1) (pa_cons (pe_bltn (v := .ty "str") (by rfl) T.b_str (by decide +kernel) rfl) pa_nil))))) (pw_or1 (pt_cmpR op_notIn_seq (pv 1) (pe_fld (pv 0) rfl) (by rfl))))) pss_never pss_nil) (pss_one (ps_ret (pe_dget hu (pe_fld (pv 0) rfl) (pv 1) (fun _ _ => rfl))))), ?_⟩
    refine ⟨.str h, rfl, .str h, .ty "str", .type "str", .type "str", true, rfl, .ty _, .base (.str _), kit_ty (by decide +kernel), true, rfl, iteF ?_⟩
    refine ⟨.str h, rfl, .ref a, rfl, a, _, dx, _, .ref pH, rfl, h1, T.c_Web, T.n_Web_own_hosts, rfl, pH, _, rfl, .inr (.inl (.inl h5)), rfl, flat_txs _, _, rfl, ?_⟩
    show if (!inV (.str h) (txs W.hs)) = true then _ else _
    rw [inV_txs, decide_eq_true hm]
    refine iteF ⟨.ref a, rfl, a, _, dx, _, .ref dP, rfl, h1, T.c_Web, T.n_Web_own_places, rfl, .str h, rfl, dP, .int (W.pl h), rfl, .inl ⟨plK W.hs W.pl, .inr h, .inl h6, rfl, (plK_val hm).symm⟩, k _ (Ex.refl _)⟩)
abbrev inner (e : Lk) : Int × Option Int := (e.1, some e.2)
/-- data of pairs -/
theorem dp_links {H : Hp} : ∀ {refs : List V} {L : List Lk}, LinksAt H refs L → DpAll K H refs (L.map fun e => .tuple [.int e.1, .int e.2])
  | _, _, .nil => .nil
  | _, _, .cons h t => by
    obtain ⟨p, rfl, hp⟩ := h
    exact .cons (.tup (.inl (.inl hp)) (.cons (.int _) (.cons (.int _) .nil))) (dp_links t)
theorem lay_links : ∀ L : List Lk, PyData.canLayAll0 (L.map fun e => .tuple [.int e.1, .int e.2]) = true ∧ PyData.depthAll (L.map fun e => PyData.tuple [.int e.1, .int e.2]) ≤ 1
  | [] => ⟨rfl, Nat.zero_le _⟩
  | e :: L => by
    obtain ⟨h1, h2⟩ := lay_links L
    refine ⟨?_, ?_⟩
    · show (true && PyData.canLayAll0 (L.map fun e => .tuple [.int e.1, .int e.2])) = true
      rw [h1]
      rfl
    · show max 1 (PyData.depthAll (L.map fun e => PyData.tuple [.int e.1, .int e.2])) ≤ 1
      omega
theorem shaped_links (L : List Lk) : SeqAt.shaped (.list (L.map fun e => .tuple [.int e.1, .int e.2])) = true := by
  obtain ⟨h1, h2⟩ := lay_links L
  show (PyData.canLayAll0 (L.map fun e => .tuple [.int e.1, .int e.2]) && decide (PyData.depthAll (L.map fun e => PyData.tuple [.int e.1, .int e.2]) + 1 ≤ 64)) = true
  rw [h1, decide_eq_true (by omega)]
  rfl
theorem LinksAt.put {H : Hp} {refs : List V} {L : List Lk} {l : Addr} {xs : List V} {o : HO} (h : LinksAt H refs L) (hl : H l = some (.lst xs)) : LinksAt (upd H l o) refs L := Paired.mapP h fun v f ⟨b, h1, h2⟩ => ⟨b, h1, by
  rw [upd_ne (ne_of h2 hl (fun z => nomatch z))]
  exact h2⟩
theorem paired_last {α β : Type} {G : α → β → Prop} : ∀ {xs : List α} {ys : List β} {y : β}, Paired G xs (ys ++ [y]) → ∃ zs x, xs = zs ++ [x] ∧ Paired G zs ys ∧ G x y
  | _, [], _, .cons h .nil => ⟨[], _, rfl, .nil, h⟩
  | _, y0 :: ys, _, .cons h t => by
    obtain ⟨zs, x, e, h1, h2⟩ := paired_last t
    exact ⟨_ :: zs, x, by rw [e] <;> rfl, .cons h h1, h2⟩
theorem paired_app {α β : Type} {G : α → β → Prop} : ∀ {xs : List α} {ys : List β} {xs' : List α} {ys' : List β}, Paired G xs ys → Paired G xs' ys' → Paired G (xs ++ xs') (ys ++ ys')
  | _, _, _, _, .nil, h => h
  | _, _, _, _, .cons r t, h => .cons r (paired_app t h)
/-- a new list of the hosts beyond the link from other to one -/
def spBeyond (K : PySem.W.Frag) : Sp := fun vs H Q _ => ∃ (a : Addr) (W : WD) (one other : Int), vs = [.ref a, .int one, .int other] ∧ WebAt K H a W ∧ WOk W ∧ other ∈ SfM.nextTo W.L one ∧
  ∀ l H2 xs, H l = none → Ex H H2 → H2 l = some (.lst (txs xs)) → xs.Nodup → (∀ h, h ∈ xs ↔ h ∈ W.hs ∧ SfM.reg W.D one other (W.pl h) = true) → Q (.ref l) H2
theorem F_hosts_beyond (T : TX K mg) : FnR P w K mg bs CX0 1 (He.ma K (He.ga K "Web") "hosts_beyond") (spBeyond K) :=
  T.f_hosts_beyond.fn S_hosts_beyond (fun vs H Q E ⟨_, _, _, _, h, _⟩ => by rw [h] <;> rfl) (fun _ _ _ _ _ _ us hl => match us, hl with | [_, _, _], _ => rfl) (body0 fun cdv A outer s H vs Q E hr q => by
    obtain ⟨a, W, one, other, rfl, hW, ok, hn, k⟩ := q
    have hu := hu_of hr
    refine ⟨_, (pss_cons (ps_par (i := 3) (j := 4) (by rfl) S_hosts_beyond.nd rfl rfl (by decide) rfl rfl (pa_cons (pe_lst (pa_cons (pe_tup (pa_cons (pv 1) (pa_cons (pv 2) pa_nil))) pa_nil)) (pa_cons (pe_lst pa_nil) pa_nil)) (by rfl)) (pss_cons (ps_while PassesOwn.never (pt_cmpR (op_neD (hu64 hr)) (pv 3) (pe_lst pa_nil) (nomark _)) (pss_cons (ps_asg (pe_bm0 PySem.F.plainAttrs_list PySem.F.slot_list_pop PySem.F.type_list_pop mt_pop (pv 3)) (pg_tup (n := 2) (by rfl) (pgs_cons (pg_name (i := 5) S_hosts_beyond.nd rfl (Or.inr rfl)) (pgs_cons (pg_name (i := 6) S_hosts_beyond.nd rfl (Or.inr rfl)) pgs_nil)))) (pss_cons (ps_expr (pe_bm PySem.F.plainAttrs_list PySem.F.slot_list_extend PySem.F.type_list_extend mt_extend (pv 4) (pa_cons (pe_dget hu (pe_fld (pv 0) rfl) (pv 5) (fun _ _ => rfl)) pa_nil))) (pss_one (ps_expr (pe_bm PySem.F.plainAttrs_list PySem.F.slot_list_extend PySem.F.type_list_extend mt_extend (pv 3) (pa_cons (pe_lc (own := [("further", 7)]) rfl S_hosts_beyond.nd (pi_list (pe_dget hu (pe_fld (pv 0) rfl) (pv 5) (fun _ _ => rfl))) (blkOk_by (N := N_hosts_beyond) (sc := defScope s_hosts_beyond) (by decide +kernel)) (fun _ _ _ _ _ => (pg_name (i := 7) S_hosts_beyond.nd rfl (Or.inl rfl))) (fun _ _ _ _ _ => pts_one (pt_cmpR op_ne (pv 7) (pv 6) (nomark _))) (fun _ _ _ _ _ => (pe_tup (pa_cons (pv 7) (pa_cons (pv 5) pa_nil))))) pa_nil))))))) (pss_one (ps_ret (pv 4))))), ?_⟩
    refine ⟨.int one, rfl, .int other, rfl, Evl.sz_of (by show 2 ≤ 100000; decide), fun t0 ht0 => ⟨Evl.sz_of (by show 1 ≤ 100000; decide), fun lw hlw => ⟨Evl.sz_of (by show 0 ≤ 100000; decide), fun lf hlf => ⟨_, _, rfl, ?_⟩⟩⟩⟩
    have e1 : Ex H (upd H t0 (.tup [.int one, .int other])) := Ex.new ht0
    have nw : H lw = none := Evl.fresh_back e1 hlw
    have nlf : lf ≠ lw := fun z => by
      rw [z, upd_same] at hlf
      cases hlf
    have nf : H lf = none := Evl.fresh_back e1 (by rw [upd_ne nlf] at hlf; exact hlf)
    have e3 : Ex H (upd (upd (upd H t0 (.tup [.int one, .int other])) lw (.lst [.ref t0])) lf (.lst [])) := e1.trans ((Ex.new hlw).trans (Ex.new hlf))
    have nt : t0 ≠ lw := fun z => by
      rw [← z, upd_same] at hlw
      cases hlw
    have nt2 : t0 ≠ lf := fun z => by
      rw [← z, upd_ne nt, upd_same] at hlf
      cases hlf
    obtain ⟨mu0, hmu0⟩ : ∃ m, m = SfM.mu W.S W.D ([(one, other)].map inner) := ⟨_, rfl⟩
    have few0 : mu0 ≤ 50 := by
      have h1 : mu0 ≤ (W.S.map fun _ => 1).sum := by
        rw [hmu0]
        exact SfM.sum_le fun v _ => List.countP_le_length
      have h2 : ∀ l : List Int, (l.map fun _ => 1).sum = l.length := fun l => by
        induction l with
        | nil => rfl
        | cons x r ih => rw [List.map_cons, List.sum_cons, ih, List.length_cons]; omega
      rw [h2] at h1
      exact Nat.le_trans h1 ok.fewS
    refine ⟨fun m σ' H' => ∃ ps vis refs, m = SfM.mu W.S W.D (ps.map inner) ∧ Ex H H' ∧ H' lw = some (.lst refs) ∧ LinksAt H' refs ps ∧ H' lf = some (.lst (txs (vis.flatMap (SfM.guestsAt W.hs W.pl)))) ∧ SfM.Beyond W.S W.L W.D one other (ps.map inner) vis ∧
      ps.length + 50 * m ≤ 1 + 50 * mu0 ∧ (vis.flatMap (SfM.guestsAt W.hs W.pl)).length + 40 * m ≤ 40 * mu0 ∧ ∃ x y z, σ' = [some (.ref a), some (.int one), some (.int other), some (.ref lw), some (.ref lf), x, y, z], ⟨mu0, ?_⟩, ?_⟩
    · refine ⟨[(one, other)], [], [.ref t0], hmu0, e3, by rw [upd_ne (Ne.symm nlf)]; exact upd_same, .cons ⟨t0, rfl, by rw [upd_ne nt2, upd_ne nt]; exact upd_same⟩ .nil, upd_same, SfM.Beyond.start ok.tree hn, by show 1 + _ ≤ _; omega, by show 0 + _ ≤ _; omega, none, none, none, rfl⟩
    · intro m σ' H' ⟨ps, vis, refs, hm, e4, hw, hL, hf, hB, b1, b2, x, y, z, hs⟩
      subst hs
      obtain ⟨dx, x0, pL, pH, dP, pS, dS, dG, rs, sd, gd, h1, hx, h3, h4, h5, h6, h7, h8, h9, h10, h11⟩ := hW
      refine ⟨.ref lw, rfl, Evl.sz_of (by show 0 ≤ 100000; decide), fun ln hln => ?_⟩
      have eG : Ex H' (upd H' ln (.lst [])) := Ex.new hln
      have hw' := eG _ _ hw
      have hf' := eG _ _ hf
      have hL' : LinksAt (upd H' ln (.lst [])) refs ps := hL.mono eG
      have e5 : Ex H (upd H' ln (.lst [])) := e4.trans eG
      refine ⟨_, .list [], .lst (.inl (.inl hw')) (dp_links hL'), .lst (.inl (.inl upd_same)) .nil, shaped_links ps, rfl, _, rfl, ?_⟩
      rcases (show ps = [] ∨ ∃ ps' e, ps = ps' ++ [e] from (List.eq_nil_or_concat ps).imp id fun ⟨l, b, h⟩ => ⟨l, b, by rw [h, List.concat_eq_append]⟩) with rfl | ⟨ps', ⟨here, past⟩, rfl⟩
      · show if (!true) = true then _ else _
        refine iteF ?_
        obtain ⟨d1, d2⟩ := hB.done
        refine ⟨.ref lf, rfl, k lf _ _ nf e5 hf' (SfM.nodup_beyond ok.nd d1) fun h => ?_⟩
        rw [SfM.mem_beyond]
        exact ⟨fun ⟨u, v⟩ => ⟨u, (d2 _ (ok.home h u)).mp v⟩, fun ⟨u, v⟩ => ⟨u, (d2 _ (ok.home h u)).mpr v⟩⟩
      · have ev : PyData.eqv (.list ((ps' ++ [(here, past)]).map fun e : Lk => .tuple [.int e.1, .int e.2])) (.list []) = false := by
          cases ps' with
          | nil => rfl
          | cons u r => rfl
        rw [ev]
        refine iteT ⟨_, fun _ _ z => z, ?_⟩
        obtain ⟨refs', v, rfl, hL2, p, rfl, hp⟩ := paired_last hL'
        obtain ⟨nB, lt⟩ := SfM.Beyond.pop ok.tree (i := inner (here, past)) (w := ps'.map inner) (by rw [List.map_append] at hB; exact hB)
        have itm := (hB.ok (inner (here, past)) (by simp)).1
        have hS : here ∈ W.S := itm.at_
        obtain ⟨g, hg1, hg2⟩ := h11 here hS
        obtain ⟨l2, hl1, hl2⟩ := h9 here hS
        have np : p ≠ lw := ne_of hp hw' (fun z => nomatch z)
        refine ⟨.ref lw, rfl, .inl ⟨rfl, _, .inl (.inl hw')⟩, lw, refs' ++ [.ref p], .ref p, rfl, rfl, hw', by simp, ?_⟩
        rw [List.dropLast_concat]
        have e6 : Ex H (upd (upd H' ln (.lst [])) lw (.lst refs')) := Evl.Ex.mut e5 nw
        have hf6 : upd (upd H' ln (.lst [])) lw (.lst refs') lf = some (.lst (txs (vis.flatMap (SfM.guestsAt W.hs W.pl)))) := by
          rw [upd_ne nlf]
          exact hf'
        refine ⟨p, _, rfl, .inl (.inl (by rw [upd_ne np]; exact hp)), rfl, _, _, rfl, _, _, rfl, rfl, ?_⟩
        have gl : (SfM.guestsAt W.hs W.pl here).length ≤ 31 := Nat.le_trans (List.length_filter_le _ _) ok.few
        refine ⟨.ref lf, rfl, .inl ⟨rfl, _, .inl (.inl hf6)⟩, .ref a, rfl, a, _, dx, _, .ref dG, rfl, e6 _ _ h1, T.c_Web, T.n_Web_guests, rfl, .int here, rfl, dG, .ref g, rfl, .inl ⟨gd, .inl here, .inl (e6 _ _ h10), rfl, hg1.symm⟩,
          lf, g, _, _, rfl, rfl, hf6, e6 _ _ hg2, Evl.sz_of (by rw [txs_len, txs_len]; omega), ?_⟩
        have fl : txs (vis.flatMap (SfM.guestsAt W.hs W.pl)) ++ txs (SfM.guestsAt W.hs W.pl here) = txs ((vis ++ [here]).flatMap (SfM.guestsAt W.hs W.pl)) := by
          rw [List.flatMap_append]
          simp [txs]
        rw [fl]
        have e7 : Ex H (upd (upd (upd H' ln (.lst [])) lw (.lst refs')) lf (.lst (txs ((vis ++ [here]).flatMap (SfM.guestsAt W.hs W.pl))))) := Evl.Ex.mut e6 nf
        have hw7 : upd (upd (upd H' ln (.lst [])) lw (.lst refs')) lf (.lst (txs ((vis ++ [here]).flatMap (SfM.guestsAt W.hs W.pl)))) lw = some (.lst refs') := by
          rw [upd_ne (Ne.symm nlf)]
          exact upd_same
        have hL7 : LinksAt (upd (upd (upd H' ln (.lst [])) lw (.lst refs')) lf (.lst (txs ((vis ++ [here]).flatMap (SfM.guestsAt W.hs W.pl))))) refs' ps' := (LinksAt.put hL2 hw').put hf6
        have lz : ((SfM.nextTo W.L here).map V.int).length ≤ W.L.length := by
          rw [List.length_map]
          unfold SfM.nextTo
          rw [List.length_map]
          exact List.length_filter_le _ _
        have fewL := ok.fewL
        refine ⟨.ref lw, rfl, .inl ⟨rfl, _, .inl (.inl hw7)⟩, .ref a, rfl, a, _, dx, _, .ref dS, rfl, e7 _ _ h1, T.c_Web, T.n_Web_sides, rfl, .int here, rfl, dS, .ref l2, rfl, .inl ⟨sd, .inl here, .inl (e7 _ _ h8), rfl, hl1.symm⟩,
          l2, rfl, ⟨_, .inl (.inl (e7 _ _ hl2))⟩, fun D hD => lcW walk_list hD (fun j acc H' => LinksAt H' acc ((((SfM.nextTo W.L here).take j).filter fun t => decide (some t ≠ some past)).map fun t => (t, here))) (by omega) .nil (fun H' e => .inl (.inl (e _ _ (e7 _ _ hl2)))) ?_ ?_⟩
        · intro j acc Hi Ha hj r e8 e9 C C0 hC hC0 xv Hb ⟨q1, q2⟩
          subst q1
          rw [List.getElem?_map] at q2
          obtain ⟨t, ht, rfl⟩ := Option.map_eq_some_iff.mp q2
          refine ⟨rfl, .int t, rfl, .int past, rfl, rfl, _, rfl, ?_⟩
          by_cases c : t = past
          · refine iteNY (by rw [c]) (hC0 _ (Ex.refl _) fun H5 kp => ?_)
            rw [List.take_add_one, ht, List.filter_append, Option.toList, List.filter_cons, if_neg (by simp [c]), List.filter_nil, List.append_nil]
            exact LinksAt.mono r (kp.ex e9 (Ex.refl _))
          · refine iteNZ (fun z => c (by injection z)) ⟨.int t, rfl, .int here, rfl, Evl.sz_of (by show 2 ≤ 100000; decide), fun z hz => hC _ _ (Ex.new hz) fun H5 kp => ?_⟩
            rw [List.take_add_one, ht, List.filter_append, Option.toList, List.filter_cons, if_pos (by simp [c]), List.filter_nil, List.map_append]
            exact paired_snoc (LinksAt.mono r (kp.ex e9 (Ex.new hz))) ⟨z, rfl, kp.new upd_same hz⟩
        · intro acc H8 la r e8 _ H9 e9 h9'
          rw [List.length_map, List.take_length] at r
          have e10 := e8.trans e9
          have hw9 := e10 _ _ hw7
          have nD : D ≠ lw := fun z => by
            rw [z, hw7] at hD
            cases hD
          have al : acc.length ≤ 50 := by omega
          have rl : refs'.length = ps'.length := Paired.length hL2
          have plen : (ps' ++ [(here, past)]).length = ps'.length + 1 := by simp
          refine ⟨lw, D, refs', acc, rfl, rfl, hw9, h9', Evl.sz_of (by omega), ?_⟩
          obtain ⟨nx, hnx⟩ : ∃ nx : List Lk, nx = ((SfM.nextTo W.L here).filter fun t => decide (some t ≠ some past)).map fun t => (t, here) := ⟨_, rfl⟩
          rw [← hnx] at r
          have enx : (ps' ++ nx).map inner = ps'.map inner ++ SfM.nextI W.L (inner (here, past)) := by
            rw [List.map_append, hnx, List.map_map]
            rfl
          have nxl : nx.length = acc.length := (Paired.length r).symm
          refine ⟨SfM.mu W.S W.D ((ps' ++ nx).map inner), ?_, ps' ++ nx, vis ++ [here], refs' ++ acc, rfl, Evl.Ex.mut (e7.trans e10) nw, upd_same, ?_, ?_, by rw [enx]; exact nB, ?_, ?_, _, _, _, rfl⟩
          · rw [hm, enx, List.map_append]
            exact lt
          · exact paired_app (LinksAt.put (LinksAt.mono hL7 e10) hw9) (LinksAt.put (LinksAt.mono r e9) hw9)
          · rw [upd_ne nlf]
            exact e10 _ _ upd_same
          · rw [List.map_append] at hm
            rw [List.length_append, nxl, enx]
            have lt' : SfM.mu W.S W.D (ps'.map inner ++ SfM.nextI W.L (inner (here, past))) < m := by
              rw [hm]
              exact lt
            omega
          · rw [List.map_append] at hm
            rw [enx, List.flatMap_append, List.length_append]
            have lt' : SfM.mu W.S W.D (ps'.map inner ++ SfM.nextI W.L (inner (here, past))) < m := by
              rw [hm]
              exact lt
            have e1 : ([here].flatMap (SfM.guestsAt W.hs W.pl)).length = (SfM.guestsAt W.hs W.pl here).length := by simp
            omega)
theorem flat_ints (xs : List Int) : (xs.map V.int).all flatV = true := by
  rw [List.all_map]
  exact List.all_eq_true.mpr fun _ _ => rfl
theorem inV_ints (x : Int) (xs : List Int) : inV (.int x) (xs.map V.int) = decide (x ∈ xs) := by
  induction xs with
  | nil => rfl
  | cons y ys ih =>
    have e : inV (.int x) ((y :: ys).map V.int) = (eqV (.int y) (.int x) || inV (.int x) (ys.map V.int)) := rfl
    rw [e, ih]
    have e2 : eqV (.int y) (.int x) = decide (x = y) := by
      show (y == x) = decide (x = y)
      by_cases h : x = y
      · rw [h, decide_eq_true rfl]
        exact beq_self_eq_true y
      · rw [decide_eq_false h]
        exact beq_eq_false_iff_ne.mpr fun z => h z.symm
    rw [e2, ← Bool.decide_or]
    exact decide_eq_decide.mpr List.mem_cons.symm
def spJoined (K : PySem.W.Frag) : Sp := fun vs H Q _ => ∃ (a : Addr) (W : WD) (one other : Int), vs = [.ref a, .int one, .int other] ∧ WebAt K H a W ∧ WOk W ∧ other ∈ SfM.nextTo W.L one ∧ RetV (.bl true) H Q
theorem F_is_joined (T : TX K mg) : FnR P w K mg bs CX0 2 (He.ma K (He.ga K "Web") "is_joined") (spJoined K) :=
  T.f_is_joined.fn S_is_joined (fun vs H Q E ⟨_, _, _, _, h, _⟩ => by rw [h] <;> rfl) (fun _ _ _ _ _ _ us hl => match us, hl with | [_, _, _], _ => rfl) (body0 fun cdv A outer s H vs Q E hr q => by
    obtain ⟨a, W, one, other, rfl, hW, ok, hn, k⟩ := q
    have hu := hu_of hr
    obtain ⟨m1, m2, _⟩ := ok.tree.next_in hn
    refine ⟨_, (pss_one (ps_ret (pe_and (pe_callR (F_is_switch T) (hr.mono (by decide)) T.f_is_switch.kp T.g_is_switch pass0 (pa_cons (pv 1) pa_nil)) (pe_and (pe_callR (F_is_switch T) (hr.mono (by decide)) T.f_is_switch.kp T.g_is_switch pass0 (pa_cons (pv 2) pa_nil)) (pe_and (pe_cmpR op_in_seq (pv 1) (pe_fld (pv 0) rfl) (by rfl)) (pe_one (pe_cmpR op_in_seq (pv 2) (pe_dget hu (pe_fld (pv 0) rfl) (pv 1) (fun _ _ => rfl)) (by rfl)))))))), ?_⟩
    refine ⟨.int one, rfl, one, rfl, ok.sw _ m1, fun H1 e1 => ⟨true, rfl, iteT ?_⟩⟩
    refine ⟨.int other, rfl, other, rfl, ok.sw _ m2, fun H2 e2 => ⟨true, rfl, iteT ?_⟩⟩
    have e := e1.trans e2
    obtain ⟨dx, x0, pL, pH, dP, pS, dS, dG, rs, sd, gd, h1, hx, h3, h4, h5, h6, h7, h8, h9, h10, h11⟩ := hW.mono e
    obtain ⟨l, hl1, hl2⟩ := h9 one m1
    refine ⟨.int one, rfl, .ref a, rfl, a, _, dx, _, .ref pS, rfl, h1, T.c_Web, T.n_Web_own_switches, rfl, pS, _, rfl, .inr (.inl (.inl h7)), rfl, flat_ints _, _, rfl, ?_⟩
    show if inV (.int one) (W.S.map V.int) = true then _ else _
    rw [inV_ints, decide_eq_true m1]
    refine iteT ⟨.int other, rfl, .ref a, rfl, a, _, dx, _, .ref dS, rfl, h1, T.c_Web, T.n_Web_sides, rfl, .int one, rfl, dS, .ref l, rfl, .inl ⟨sd, .inl one, .inl h8, rfl, hl1.symm⟩, l, _, rfl, .inl (.inl (.inl hl2)), rfl, flat_ints _, ?_⟩
    show Q (.bl (inV (.int other) ((SfM.nextTo W.L one).map V.int))) H2
    rw [inV_ints, decide_eq_true hn]
    exact k _ e)
/-- the two sides of a link -/
structure Sides (W : WD) (one other : Int) (c : CutD) : Prop where
  x : ∀ h, h ∈ c.x ↔ h ∈ W.hs ∧ SfM.reg W.D one other (W.pl h) = true
  y : ∀ h, h ∈ c.y ↔ h ∈ W.hs ∧ SfM.reg W.D other one (W.pl h) = true
def spCutOf (K : PySem.W.Frag) : Sp := fun vs H Q _ => ∃ (a : Addr) (W : WD) (one other : Int), vs = [.ref a, .int one, .int other] ∧ WebAt K H a W ∧ WOk W ∧ other ∈ SfM.nextTo W.L one ∧
  (∀ H2, Ex H H2 → Q .non H2) ∧ ∀ b H2 c, H b = none → Ex H H2 → CutAt K H2 b c.x c.y W.hs → CutOk W.hs c → Sides W one other c → Q (.ref b) H2
theorem nodup_len {α : Type} [DecidableEq α] : ∀ {l m : List α}, l.Nodup → (∀ x ∈ l, x ∈ m) → l.length ≤ m.length
  | [], _, _, _ => Nat.zero_le _
  | x :: r, m, n, h => by
    obtain ⟨n1, n2⟩ := List.nodup_cons.mp n
    have hx := h x List.mem_cons_self
    have q := nodup_len (m := m.erase x) n2 fun y hy => (List.mem_erase_of_ne (fun e => n1 (by rw [← e]; exact hy))).mpr (h y (List.mem_cons_of_mem _ hy))
    rw [List.length_erase_of_mem hx] at q
    have := List.length_pos_of_mem hx
    rw [List.length_cons]
    omega
theorem F_cut_of (T : TX K mg) : FnR P w K mg bs CX0 5 (He.ma K (He.ga K "Web") "cut_of") (spCutOf K) :=
  T.f_cut_of.fn S_cut_of (fun vs H Q E ⟨_, _, _, _, h, _⟩ => by rw [h] <;> rfl) (fun _ _ _ _ _ _ us hl => match us, hl with | [_, _, _], _ => rfl) (body0 fun cdv A outer s H vs Q E hr q => by
    obtain ⟨a, W, one, other, rfl, hW, ok, hn, k0, k⟩ := q
    have hn2 := SfM.nextTo_symm hn
    obtain ⟨m1, m2, _⟩ := ok.tree.next_in hn
    refine ⟨_, (pss_cons (ps_if (pt_not (pt_val (pe_methR (pv 0) T.c_Web T.m_Web_is_joined (F_is_joined T) (hr.mono (by decide)) pass0 (pa_cons (pv 1) (pa_cons (pv 2) pa_nil))))) pss_never pss_nil) (pss_cons (ps_par (i := 3) (j := 4) (by rfl) S_cut_of.nd rfl rfl (by decide) rfl rfl (pa_cons (pe_methR (pv 0) T.c_Web T.m_Web_hosts_beyond (F_hosts_beyond T) (hr.mono (by decide)) pass0 (pa_cons (pv 1) (pa_cons (pv 2) pa_nil))) (pa_cons (pe_methR (pv 0) T.c_Web T.m_Web_hosts_beyond (F_hosts_beyond T) (hr.mono (by decide)) pass0 (pa_cons (pv 2) (pa_cons (pv 1) pa_nil))) pa_nil)) (by rfl)) (pss_one (ps_ret (pe_ifExp (PW.pt (pw_and (pt_cmpR op_gt (pe_callB call_len_seq (by rfl) T.b_len PySem.boot_len (pa_cons (pv 3) pa_nil)) pe_int (nomark _)) (pw_and1 (pt_cmpR op_gt (pe_callB call_len_seq (by rfl) T.b_len PySem.boot_len (pa_cons (pv 4) pa_nil)) pe_int (nomark _))))) (StX.pe_makeR T.k_Cut (F_Cut T) (hr.mono (by decide)) (by rfl) T.g_Cut pass0 (pa_cons (pv 3) (pa_cons (pv 4) pa_nil))) pe_non))))), ?_⟩
    obtain ⟨dx, x0, pL, pH, dP, pS, dS, dG, rs, sd, gd, h1, hx, h3, h4, h5, h6, h7, h8, h9, h10, h11⟩ := id hW
    refine ⟨.ref a, rfl, a, dx, _, rfl, h1, webFs_no hx (by decide +kernel), .int one, rfl, .int other, rfl, a, W, one, other, rfl, hW, ok, hn, fun H1 e1 => ⟨true, rfl, iteF ?_⟩⟩
    refine ⟨.ref a, rfl, a, dx, _, rfl, e1 _ _ h1, webFs_no hx (by decide +kernel), .int one, rfl, .int other, rfl, a, W, one, other, rfl, hW.mono e1, ok, hn, fun l1 H2 xs n1 e2 g1 nd1 in1 => ?_⟩
    have e12 := e1.trans e2
    refine ⟨.ref a, rfl, a, dx, _, rfl, e12 _ _ h1, webFs_no hx (by decide +kernel), .int other, rfl, .int one, rfl, a, W, other, one, rfl, hW.mono e12, ok, hn2, fun l2 H3 ys n2 e3 g2 nd2 in2 => ⟨_, _, rfl, ?_⟩⟩
    have e13 := e12.trans e3
    have xlen : xs.length ≤ W.hs.length := nodup_len nd1 fun x hx => ((in1 x).mp hx).1
    have ylen : ys.length ≤ W.hs.length := nodup_len nd2 fun x hx => ((in2 x).mp hx).1
    have few := ok.few
    refine ⟨.ref l1, rfl, l1, _, rfl, .inl (.inl (.inl (e3 _ _ g1))), _, _, rfl, rfl, _, rfl, ?_⟩
    rw [txs_len]
    by_cases c1 : (1 : Int) < xs.length
    · refine iteY c1 ⟨.ref l2, rfl, l2, _, rfl, .inl (.inl (.inl g2)), _, _, rfl, rfl, _, rfl, ?_⟩
      rw [txs_len]
      by_cases c2 : (1 : Int) < ys.length
      · refine iteY c2 ⟨.ref l1, rfl, .ref l2, rfl, fun x dy hx hd hne => ?_⟩
        have S1 : Side xs := ⟨by omega, by omega, fun z hz => ok.nm z ((in1 z).mp hz).1, nd1⟩
        have S2 : Side ys := ⟨by omega, by omega, fun z hz => ok.nm z ((in2 z).mp hz).1, nd2⟩
        have dj : ∀ z ∈ ys, z ∉ xs := fun z hy hx => by
          have r1 := ((in1 z).mp hx).2
          have r2 := ((in2 z).mp hy).2
          unfold SfM.reg at r1 r2
          have := of_decide_eq_true r1
          have := of_decide_eq_true r2
          omega
        have eM : Ex H3 (upd (upd H3 dy (.own x)) x (.ins (He.ga K "Cut") dy [])) := (Ex.new hd).trans (Ex.new (by rw [upd_ne (Ne.symm hne)]; exact hx))
        refine ⟨x, dy, l1, l2, xs, ys, rfl, upd_same, eM _ _ (e3 _ _ g1), eM _ _ g2, S1, S2, dj, by omega, fun H4 al e4 hC pm srt => ⟨rfl, ?_⟩⟩
        have e34 : Ex H3 H4 := mk_ex hx hd e4
        have e14 := e13.trans e34
        have all : (xs ++ ys).Perm W.hs := by
          refine (List.perm_ext_iff_of_nodup (List.nodup_append.mpr ⟨nd1, nd2, fun p hp q hq e => dj q hq (e ▸ hp)⟩) ok.nd).mpr fun z => ?_
          rw [List.mem_append, in1, in2]
          refine ⟨fun h => h.elim (·.1) (·.1), fun h => ?_⟩
          have st := ok.tree.step' (ok.home z h) hn
          unfold SfM.reg
          rcases st with st | st
          · exact .inr ⟨h, decide_eq_true (by omega)⟩
          · exact .inl ⟨h, decide_eq_true (by omega)⟩
        obtain rfl : al = W.hs := SfM.asc_eq (pm.trans all) srt ok.srt
        exact k x H4 ⟨xs, ys⟩ (Evl.fresh_back e13 hx) e14 hC ⟨by show xs.length ≤ 40; omega, by show ys.length ≤ 40; omega, fun z hz => (S1.ok z hz).2.1, fun z hz => (S2.ok z hz).2.1⟩ ⟨in1, in2⟩
      · exact iteZ c2 (k0 _ e13)
    · exact iteZ c1 (iteF (k0 _ e13)))
/-- a web is equal to itself -/
theorem F_Web_eq (T : TX K mg) : FnR P w K mg bs CX0 2 (He.ma K (He.ga K "Web") "__eq__") (spEq fun a b H => a = b ∧ ∃ W, WebAt K H a W) :=
  T.f_Web_eq.fn S_Web_eq (fun vs H Q E ⟨_, _, h, _⟩ => by rw [h] <;> rfl) (fun _ _ _ _ _ _ us hl => match us, hl with | [_, _], _ => rfl) (body0 fun cdv A outer s H vs Q E hr q => by
    obtain ⟨a, b, rfl, ⟨rfl, W, dx, x0, pL, pH, dP, pS, dS, dG, rs, sd, gd, h1, hx, h3, h4, h5, h6, h7, h8, h9, h10, h11⟩, k⟩ := q
    refine ⟨_, (pss_cons (ps_if (pt_not (pt_val (pe_callB call_isi (by rfl) T.b_isinstance (by decide +kernel) (pa_cons (pv 1) (pa_cons (pe_glob (v := .ref (He.ga K "Web")) (by rfl) T.g_Web rfl) pa_nil))))) (pss_one (ps_ret pe_bl)) pss_nil) (pss_one (ps_ret (pe_and (pe_cmpR (op_eqD (hu64 hr)) (pe_fld (pv 0) rfl) (pe_fld (pv 1) rfl) (nomark _)) (pe_one (pe_cmpR (op_eq_dictA hr.units0) (pe_fld (pv 0) rfl) (pe_fld (pv 1) rfl) (nomark _))))))), ?_⟩
    obtain ⟨ly1, ly2⟩ := lay_links W.L
    have sh : SeqAt.shaped (.tuple (W.L.map fun e => .tuple [.int e.1, .int e.2])) = true := shaped_links W.L
    refine ⟨.ref a, rfl, .ref a, .ref (He.ga K "Web"), .ref (He.ga K "Web"), .ref (He.ga K "Web"), true, rfl, .own _, ty_ins h1 T.c_Web T.q_Web, T.is_Web_Web, true, rfl, iteF ?_⟩
    refine ⟨.ref a, rfl, a, _, dx, _, .ref pL, rfl, h1, T.c_Web, T.n_Web_own_links, rfl, .ref a, rfl, a, _, dx, _, .ref pL, rfl, h1, T.c_Web, T.n_Web_own_links, rfl, _, _, .tup (.inl (.inl h3)) (dp_links h4), .tup (.inl (.inl h3)) (dp_links h4), sh, sh, _, rfl, ?_⟩
    have er : PyData.eqv (.tuple (W.L.map fun e : Lk => .tuple [.int e.1, .int e.2])) (.tuple (W.L.map fun e : Lk => .tuple [.int e.1, .int e.2])) = true := SeqAt.eqv_refl _ ly1
    rw [er]
    refine iteT ⟨.ref a, rfl, a, _, dx, _, .ref dP, rfl, h1, T.c_Web, T.n_Web_own_places, rfl, .ref a, rfl, a, _, dx, _, .ref dP, rfl, h1, T.c_Web, T.n_Web_own_places, rfl, dP, dP, _, _, rfl, rfl, h6, h6, rfl, fun p hp => ?_, k _ (Ex.refl _)⟩
    obtain ⟨h, hm, rfl⟩ := List.mem_map.mp hp
    exact ⟨plK_val hm, rfl⟩)
end SfW
/-! *d.values(); a dict that is kept as it is from here on -/
namespace SfW
open PySem PySem.Spec PyProof.Rows L2
section
variable {X : Cx} {e : Expr} {es : List Expr} {td : TE} {t : TA} {p apos cpos : Pos}
/-- the dict that e gives stays as it is -/
theorem pe_freeze (he : PE X e td) : PE X e (fun σ H Q => td σ H fun x H1 => ∃ d kvs, x = .ref d ∧ H1 d = some (.dK kvs) ∧ ∀ od, Q x (upd H1 d (.frz od (.dK kvs)))) := by
  refine ⟨fun pins s σ H Q I h => ?_⟩
  refine thn (he.run pins s σ H _ I h) fun u s1 ⟨x, H1, I1, rx, d, kvs, ex, hd, q⟩ => ?_
  obtain ⟨od, I2⟩ := I1.lock hd True.intro
  exact ⟨x, _, I2, rx, q od⟩
theorem items_vals {n : Nat} {kvs : List (Key × V)} {vs : List (Key × Value)} (r : KV kvs vs) {acc : Array Value} (h : ItemsOf (fun i v => ∃ k, vs[i]? = some (k, v)) acc n) (hn : n = vs.length) : Vals (kvs.map (·.2)) acc.toList := by
  have e : acc.toList = vs.map (·.2) := by
    refine List.ext_getElem? fun i => ?_
    rw [List.getElem?_map, Array.getElem?_toList]
    cases ha : acc[i]? with
    | none =>
      have q : vs.length ≤ i := by
        rw [← hn, ← h.1]
        exact Array.getElem?_eq_none_iff.mp ha
      rw [List.getElem?_eq_none q]
      rfl
    | some v =>
      obtain ⟨k, hk⟩ := h.2 i v ha
      rw [hk]
      rfl
  rw [e]
  have g : ∀ {ks : List (Key × V)} {us : List (Key × Value)}, KV ks us → Vals (ks.map (·.2)) (us.map (·.2)) := fun {ks us} r => by
    induction r with
    | nil => exact .nil
    | cons r t ih => exact .cons r.2 ih
  exact g r
/-- *d.values() in an argument list -/
def tStarVals (te : TE) (t : TA) : TA := fun σ H Q => te σ H fun x H1 => ∃ d kvs, x = .ref d ∧ H1 d = some (.dK kvs) ∧ t σ H1 fun ys H2 => Q (kvs.map (·.2) ++ ys) H2
theorem pa_starVals (hc : X.calm = true) (he : PE X e td) (hr : PA X es t) (hbase : attributeBase e "values" X.env (eval e X.env) = eval e X.env := by rfl) (hline : (apos.endLine == cpos.line) = true := by rfl)
    (hs : starEach (.Starred (.Call (.Attribute e "values" apos) [] [] cpos) p :: es) X.env = (true, eval (.Call (.Attribute e "values" apos) [] [] cpos) X.env) :: starEach es X.env := by rfl) :
    PA X (.Starred (.Call (.Attribute e "values" apos) [] [] cpos) p :: es) (tStarVals td t) := by
  refine ⟨fun pos pins s σ H Q I h => ?_⟩
  refine PySem.W.items_star ?_ hs
  refine wpAny_Call_method (T := "dict") (id := "dict.values") hbase rfl hline F.plainAttrs_dict F.slot_dict_values F.type_dict_values (thn (he.run pins s σ H _ I h) fun u s1 ⟨x, H1, I1, rx, d, kvs, ex, hd, q⟩ => ?_)
  subst ex
  obtain rfl : u = Value.ref d := rx
  obtain ⟨hz, hs0, vs, kv, hdo⟩ := dk_of I1.hok hd
  obtain ⟨ep, hat⟩ := hdo.dictAt
  have lk : kvs.length = vs.length := Paired.length kv
  have I2 : Inv X pins σ H1 { s1 with heap := s1.heap.push { cls := .type "dict_values", data := .fields #[.ref d] } } := I1.kept (t' := s1.toks) fun b ob q => Heap.get?_push_of_some _ q
  refine ⟨hdo.typeIs, hdo.mapOf.noDict, ?_⟩
  show wpAny _ _ (callWith cpos (.builtin "dict.values") [.ref d] [] []) _ X.xe s1
  refine method_meetsIn F.slot_dict_values F.entry_dict_values rfl (PySem.evalArgs_none ⟨rfl, hdo.typeIs, F.args_dict_values_1 _, _, meets_dict_values (mixKind X.prog X.w) d hs0, ⟨vs, hdo⟩, ?_⟩)
  have view : (s1.heap.push { cls := .type "dict_values", data := .fields #[.ref d] }).IsValuesView s1.heap.objs.size d := ⟨_, Heap.get?_push_size _ rfl, rfl, rfl⟩
  have tys : Shared.TypeIs { s1 with heap := s1.heap.push { cls := .type "dict_values", data := .fields #[.ref d] } } (.ref s1.heap.objs.size) "dict_values" := ⟨_, Heap.get?_push_size _ rfl, rfl⟩
  unfold PySem.W.StarOf notIterableAtAll
  refine wpAny_bind (wpAny_specialOf tys PySem.F.slot_dict_values_iter.lookup (wpAny_pure ⟨rfl, ?_⟩))
  refine PySem.W.kdu_collect (PySem.W.kdl_values (knd := mixKind X.prog X.w) (r := s1.heap.objs.size) (d := d) (kvs := vs) (ep := ep)) (I1.ok.hd hc) ⟨view, hat.push _⟩ (by omega) fun g' tk acc hk hacc => ?_
  have I3 : Inv X pins σ H1 { s1 with heap := g', toks := tk } := I2.kept (t' := tk) fun b o q => hk b o q
  exact thn (hr.run pos pins _ σ H1 _ I3 q) fun ws s3 ⟨ys, H3, I4, r3, q3⟩ => ⟨_, H3, I4, (items_vals kv hacc rfl).append r3, q3⟩
end
end SfW
namespace SfW
open PySem PySem.Spec PyProof.Rows L2
open Evl (Ex RetV)
def endsOf (L : List Lk) : List Int := L.flatMap fun e => [e.1, e.2]
/-- [x for e in links for x in e] -/
theorem lc2_ends {K : PySem.W.Frag} {l : Addr} {refs : List V} {L : List Lk} {i j : Nat} {vs vs1 : List Nat} {σ : L2.St} {H1 : Hp} {D : Addr} {Qd : Hp → Prop} (hD : H1 D = none) (hl : H1 l = some (.lst refs)) (hL : LinksAt H1 refs L) (few : L.length ≤ 1000)
    (w1 : ∀ x, wipe ((wipe σ vs).set i (some x)) vs = wipe σ vs) (w2 : ∀ x, ((wipe σ vs).set i (some x))[i]? = some (some x)) (w3 : ∀ x y, wipe ((wipe ((wipe σ vs).set i (some x)) vs1).set j (some y)) vs1 = wipe ((wipe σ vs).set i (some x)) vs1)
    (w4 : ∀ x y, ((wipe ((wipe σ vs).set i (some x)) vs1).set j (some y))[j]? = some (some y)) (k : ∀ H2, Ex H1 H2 → H2 D = some (.lst ((endsOf L).map V.int)) → Qd H2) :
    ∃ W : Nat → Nat → Hp → Prop, (∃ m, W 0 m (upd H1 D (.lst []))) ∧ ∀ n m H, W n m H →
      ((Itl K l).stop n H ∧ Qd H) ∨ ((Itl K l).go n H ∧ ∃ Nx : Hp → Prop, (∀ H', Nx H' → ∃ m', m' < m ∧ W (n + 1) m' H') ∧ ∀ x H', (Itl K l).yld n H x H' → gName i x (wipe σ vs) H' fun σ2 H2 => wipe σ2 vs = wipe σ vs ∧ tYes σ2 H2 fun b H3 =>
        if b = true then iTup K (tVar i) σ2 H3 fun J1 H4 => ∃ W1 : Nat → Nat → Hp → Prop, (∃ m, W1 0 m H4) ∧ ∀ c q H, W1 c q H →
          (J1.stop c H ∧ Nx H) ∨ (J1.go c H ∧ ∃ Nx1 : Hp → Prop, (∀ H', Nx1 H' → ∃ q', q' < q ∧ W1 (c + 1) q' H') ∧ ∀ x H', J1.yld c H x H' → gName j x (wipe σ2 vs1) H' fun σ3 H5 => wipe σ3 vs1 = wipe σ2 vs1 ∧ tYes σ3 H5 fun b H6 =>
            if b = true then tVar j σ3 H6 fun y H7 => ∃ acc, H7 D = some (.lst acc) ∧ acc.length < sizeLine ∧ Nx1 (upd H7 D (.lst (acc ++ [y]))) else Nx1 H6)
        else Nx H3) := by
  have rl : refs.length = L.length := Paired.length hL
  have el : ∀ M : List Lk, (endsOf M).length = 2 * M.length := fun M => by
    induction M with
    | nil => rfl
    | cons e r ih =>
      show (e.1 :: e.2 :: endsOf r).length = _
      rw [List.length_cons, List.length_cons, ih, List.length_cons]
      omega
  have nl : D ≠ l := fun z => by
    rw [z, hl] at hD
    cases hD
  -- what stands aside from the list
  have side : ∀ acc b o, H1 b = some o → upd H1 D (.lst acc) b = some o := fun acc b o h => by
    rw [upd_ne (ne_of_none h hD)]
    exact h
  refine ⟨fun n m H => m = refs.length - n ∧ n ≤ refs.length ∧ H = upd H1 D (.lst ((endsOf (L.take n)).map V.int)), ⟨refs.length, by simp, Nat.zero_le _, rfl⟩, ?_⟩
  rintro n m H ⟨rfl, hn, rfl⟩
  have sq : ∀ acc, SqL K (upd H1 D (.lst acc)) l refs := fun acc => .inl (.inl (side acc _ _ hl))
  rcases Nat.lt_or_ge n refs.length with lt | ge
  · refine .inr ⟨⟨refs, refs[n], sq _, by simp [lt]⟩, fun H' => refs.length - (n + 1) = refs.length - (n + 1) ∧ n + 1 ≤ refs.length ∧ H' = upd H1 D (.lst ((endsOf (L.take (n + 1))).map V.int)), fun H' p => ⟨refs.length - (n + 1), by omega, p⟩, fun x H' y => ?_⟩
    obtain ⟨rfl, hx⟩ := y
    obtain ⟨⟨a, b⟩, hf, p, rfl, hp⟩ := paired_at hL (hx refs (sq _))
    have tk : endsOf (L.take (n + 1)) = endsOf (L.take n) ++ [a, b] := by
      rw [List.take_add_one, hf]
      unfold endsOf
      rw [List.flatMap_append]
      rfl
    refine ⟨w1 _, yes ⟨.ref p, w2 _, p, rfl, ⟨_, .inl (.inl (side _ _ _ hp))⟩, ?_⟩⟩
    refine ⟨fun c q H => q = 2 - c ∧ c ≤ 2 ∧ H = upd H1 D (.lst ((endsOf (L.take n) ++ [a, b].take c).map V.int)), ⟨2, rfl, by omega, by simp⟩, ?_⟩
    rintro c q H ⟨rfl, hc, rfl⟩
    have st : ∀ acc, SqT K (upd H1 D (.lst acc)) p [.int a, .int b] := fun acc => .inl (.inl (side acc _ _ hp))
    have ln : (endsOf (L.take n)).length ≤ 2000 := by
      rw [el, List.length_take]
      omega
    have go : ∀ c v, c < 2 → ([.int a, .int b] : List V)[c]? = some v → ∃ u, v = .int u ∧ [a, b].take (c + 1) = [a, b].take c ++ [u] := fun c v hc hv => by
      match c, hc, hv with
      | 0, _, hv => exact ⟨a, (Option.some.inj hv).symm, rfl⟩
      | 1, _, hv => exact ⟨b, (Option.some.inj hv).symm, rfl⟩
    rcases Nat.lt_or_ge c 2 with lt2 | ge2
    · obtain ⟨v, hv⟩ : ∃ v, ([.int a, .int b] : List V)[c]? = some v := ⟨_, List.getElem?_eq_getElem (by exact lt2)⟩
      refine .inr ⟨⟨_, v, st _, hv⟩, fun H' => H' = upd H1 D (.lst ((endsOf (L.take n) ++ [a, b].take (c + 1)).map V.int)), fun H' p => ⟨2 - (c + 1), by omega, rfl, lt2, p⟩, fun x H' y => ?_⟩
      obtain ⟨rfl, hx2⟩ := y
      obtain ⟨u, rfl, tk2⟩ := go c _ lt2 (hx2 _ (st _))
      refine ⟨w3 _ _, yes ⟨_, w4 _ _, _, upd_same, Evl.sz_lt (by rw [List.length_map, List.length_append, List.length_take]; simp; omega), ?_⟩⟩
      rw [upd_upd, tk2]
      simp
    · obtain rfl : c = 2 := by omega
      exact .inl ⟨⟨_, st _, by simp⟩, rfl, lt, by rw [tk] <;> rfl⟩
  · obtain rfl : n = refs.length := by omega
    refine .inl ⟨⟨refs, sq _, Nat.le_refl _⟩, k _ (fun b o h => side _ b o h) ?_⟩
    rw [upd_same, rl, List.take_length]
end SfW
namespace SfW
open PySem PySem.Spec PyProof.Rows L2
open Evl (Ex RetV)
/-! webs: made -/
variable {P : Program} {w : World} {K : PySem.W.Frag} {mg : Str → Option Value} {bs : Heap}
theorem del_mono {a : Addr} {H H' : Hp} (e : Ex H H') : Ex (del a H) (del a H') := fun b o h => by
  obtain ⟨n, hb⟩ := of_del h
  rw [del_ne n]
  exact e b o hb
theorem del_put {a : Addr} {H : Hp} {o : HO} : del a (upd H a o) = del a H := by
  funext b
  unfold del
  by_cases h : b = a
  · rw [if_pos h, if_pos h]
  · rw [if_neg h, if_neg h, upd_ne h]
/-- H2 without what was a list or an instance in H0 -/
def hide (a : Addr) (H0 H2 : Hp) : Hp := fun b => if b = a then H2 b else match H0 b with
  | some (.lst _) => none
  | some (.ins _ _ _) => none
  | _ => H2 b
theorem hide_new {a b : Addr} {H0 H2 : Hp} (h : H0 b = none) : hide a H0 H2 b = H2 b := by
  unfold hide
  split
  · rfl
  · rw [h]
theorem hide_other {a b : Addr} {H0 H2 : Hp} {o : HO} (e : Ex (del a H0) H2) (h : H2 b = some o) (h1 : ∀ xs, o ≠ .lst xs) (h2 : ∀ C dx fs, o ≠ .ins C dx fs) : hide a H0 H2 b = some o := by
  unfold hide
  split
  · exact h
  · rename_i n
    split
    · rename_i xs h0
      rw [e b _ (by rw [del_ne n]; exact h0)] at h
      exact absurd (Option.some.inj h).symm (h1 _)
    · rename_i C dx fs h0
      rw [e b _ (by rw [del_ne n]; exact h0)] at h
      exact absurd (Option.some.inj h).symm (h2 _ _ _)
    · exact h
theorem fresh_del {a l : Addr} {H G Ha : Hp} {o : HO} (x : Ex (del a H) (del a G)) (e : Ex G Ha) (ga : G a = some o) (nl : Ha l = none) : H l = none := by
  cases h : H l with
  | none => rfl
  | some u =>
    have nla : l ≠ a := fun z => by
      rw [z, e _ _ ga] at nl
      cases nl
    have := e _ _ (of_del (x l u (by rw [del_ne nla]; exact h))).2
    rw [this] at nl
    cases nl
def spWebInit (K : PySem.W.Frag) : Sp := fun vs H Q _ => ∃ (a dx l d : Addr) (refs : List V) (L : List Lk) (S : List Int) (D : Int → Int → Nat) (ws : List Str) (pl : Str → Int), vs = [.ref a, .ref l, .ref d] ∧ H a = some (.ins (He.ga K "Web") dx []) ∧ H l = some (.lst refs) ∧ LinksAt H refs L ∧ H d = some (.dK (plK ws pl)) ∧
  SfM.TreeL S (L.map SfM.norm) D ∧ (∀ e ∈ L, LinkOk e) ∧ L.length ≤ 50 ∧ S.length ≤ 50 ∧ (∀ s ∈ S, SwOk s) ∧ ws.Nodup ∧ (∀ h ∈ ws, NameOk h) ∧ (∀ h ∈ ws, pl h ∈ S) ∧ 2 ≤ ws.length ∧ ws.length ≤ 31 ∧
  ∀ H2 W, Ex (del a H) H2 → WebAt K (hide a H H2) a W → WOk W → W.hs.Perm ws → W.pl = pl → Q .non H2
theorem del_of {H : Hp} {a b : Addr} {o u : HO} (h : H b = some o) (ha : H a = some u) (n : o ≠ u) : del a H b = some o := by
  rw [del_ne (ne_of h ha n)]
  exact h
theorem LinksAt.del {H : Hp} {a : Addr} {refs : List V} {L : List Lk} {C dx : Addr} {fs : List (Str × V)} (h : LinksAt H refs L) (ha : H a = some (.ins C dx fs)) : LinksAt (SfW.del a H) refs L :=
  Paired.mapP h fun v f ⟨b, h1, h2⟩ => ⟨b, h1, del_of h2 ha (fun z => nomatch z)⟩
theorem plK_none {hs : List Str} {pl : Str → Int} {h : Str} (m : h ∉ hs) : valV (plK hs pl) (.inr h) = none := by
  induction hs with
  | nil => rfl
  | cons x r ih =>
    show valV ((Sum.inr x, V.int (pl x)) :: plK r pl) (.inr h) = _
    rw [valV_neg (p := ((.inr x : Key), V.int (pl x))) (fun z => m (by rw [Sum.inr.inj z]; exact List.mem_cons_self))]
    exact ih fun q => m (List.mem_cons_of_mem _ q)
theorem plK_put {hs : List Str} {pl : Str → Int} {h : Str} (m : h ∉ hs) : putK (plK hs pl) (.inr h) (.int (pl h)) = plK (hs ++ [h]) pl := by
  rw [putK_new _ (plK_none m)]
  unfold plK
  rw [List.map_append] <;> rfl
theorem nodup_map {α β : Type} {f : α → β} {l : List α} (inj : ∀ a b, f a = f b → a = b) (h : l.Nodup) : (l.map f).Nodup := List.Pairwise.map f (fun a b n e => n (inj a b e)) h
theorem CutAt.keep {Hi Ha H4 H5 : Hp} {b : Addr} {xs ys al : List Str} (kp : Kp Hi Ha H4 H5) (h : CutAt K H4 b xs ys al) : CutAt K H5 b xs ys al := by
  obtain ⟨dx, p, q, r, ns, fs, h1, h2, h3, h4, h5⟩ := h
  have t : ∀ {o : HO}, (∀ xs, o ≠ .lst xs) → (∀ kvs, o ≠ .dK kvs) → Tame o := fun h1 h2 => ⟨h1, h2⟩
  exact ⟨dx, p, q, r, ns, fs, kp.tame h1 (t (fun _ z => nomatch z) fun _ z => nomatch z), kp.tame h2 (t (fun _ z => nomatch z) fun _ z => nomatch z), kp.tame h3 (t (fun _ z => nomatch z) fun _ z => nomatch z), kp.tame h4 (t (fun _ z => nomatch z) fun _ z => nomatch z), h5⟩
theorem pw_all {α : Type} {R : α → α → Prop} {l : List α} (h : ∀ a ∈ l, ∀ b ∈ l, R a b) : l.Pairwise R := by
  induction l with
  | nil => exact .nil
  | cons x r ih => exact .cons (fun b hb => h x List.mem_cons_self b (List.mem_cons_of_mem _ hb)) (ih fun a ha b hb => h a (List.mem_cons_of_mem _ ha) b (List.mem_cons_of_mem _ hb))
theorem linkOk_norm {e : Lk} (h : LinkOk e) : LinkOk (SfM.norm e) := by
  rcases SfM.norm_or e with z | z
  · rw [z]
    exact h
  · rw [z]
    exact ⟨h.2.1, h.1, h.2.2.symm⟩
def CutOr (K : PySem.W.Frag) (W : WD) (H : Hp) (v : V) (e : Lk) : Prop := v = .non ∨ ∃ b c, v = .ref b ∧ CutAt K H b c.x c.y W.hs ∧ CutOk W.hs c ∧ Sides W e.1 e.2 c
theorem CutOr.mono {W : WD} {H H' : Hp} (e : Ex H H') {vs : List V} {es : List Lk} (h : Paired (CutOr K W H) vs es) : Paired (CutOr K W H') vs es :=
  Paired.mapP h fun v f q => q.imp id fun ⟨b, c, h1, h2, h3⟩ => ⟨b, c, h1, h2.mono e, h3⟩
def CutsOf (K : PySem.W.Frag) (W : WD) (H : Hp) (vs : List V) : Prop := ∃ cs : List CutD, Paired (fun v c => ∃ b, v = .ref b ∧ CutAt K H b c.x c.y W.hs) vs cs ∧ ∀ c ∈ cs, CutOk W.hs c ∧ ∃ e ∈ W.L, Sides W e.1 e.2 c
theorem CutsOf.mono {W : WD} {H H' : Hp} {vs : List V} (e : Ex H H') (h : CutsOf K W H vs) : CutsOf K W H' vs := by
  obtain ⟨cs, h1, h2⟩ := h
  exact ⟨cs, Paired.mapP h1 fun v c ⟨b, q1, q2⟩ => ⟨b, q1, q2.mono e⟩, h2⟩
theorem apart_of {W : WD} (tr : SfM.TreeL W.S W.L W.D) (hm : ∀ h ∈ W.hs, W.pl h ∈ W.S) {e f : Lk} (he : e ∈ W.L) (hf : f ∈ W.L) {c d : CutD} (s1 : Sides W e.1 e.2 c) (s2 : Sides W f.1 f.2 d) : Apart c.x c.y d.x d.y := by
  rcases tr.nc e he f hf with q | q | q | q
  · exact ⟨_, _, .inl rfl, .inl rfl, fun x h1 h2 => q _ (hm x ((s1.x x).mp h1).1) ⟨((s1.x x).mp h1).2, ((s2.x x).mp h2).2⟩⟩
  · exact ⟨_, _, .inl rfl, .inr rfl, fun x h1 h2 => q _ (hm x ((s1.x x).mp h1).1) ⟨((s1.x x).mp h1).2, ((s2.y x).mp h2).2⟩⟩
  · exact ⟨_, _, .inr rfl, .inl rfl, fun x h1 h2 => q _ (hm x ((s1.y x).mp h1).1) ⟨((s1.y x).mp h1).2, ((s2.x x).mp h2).2⟩⟩
  · exact ⟨_, _, .inr rfl, .inr rfl, fun x h1 h2 => q _ (hm x ((s1.y x).mp h1).1) ⟨((s1.y x).mp h1).2, ((s2.y x).mp h2).2⟩⟩
theorem F_Web (T : TX K mg) : FnR P w K mg bs CX0 8 (He.ma K (He.ga K "Web") "__init__") (spWebInit K) :=
  T.f_Web_init.fn S_Web_init (fun vs H Q E ⟨_, _, _, _, _, _, _, _, _, _, h, _⟩ => by rw [h] <;> rfl) (fun _ _ _ _ _ _ us hl => match us, hl with | [_, _, _], _ => rfl) (body0 fun cdv A outer s H vs Q E hr q => by
    obtain ⟨a, dx, l, d, refs, L, S, Di, ws, pl, rfl, ha, hl, hL, hd, Tr, lok, fewL, fewS, sok, nd, nm, hom, two, few, k⟩ := q
    have hu := hu_of hr
    refine ⟨_, (pss_cons (ps_expr (pe_callR (F_need_links T) (hr.mono (by decide)) T.f_need_links.kp T.g_need_links pass0 (pa_cons (pv 1) pa_nil))) (pss_cons (ps_expr (pe_callR (F_need_places T) (hr.mono (by decide)) T.f_need_places.kp T.g_need_places pass0 (pa_cons (pv 2) pa_nil))) (pss_cons (ps_fld (pv 0) (pe_callR (F_links_in_order T) (hr.mono (by decide)) T.f_links_in_order.kp T.g_links_in_order pass0 (pa_cons (pv 1) pa_nil)) rfl) (pss_cons (ps_fld (pv 0) (pe_callTy call_tuple_of (by rfl) T.b_tuple (by decide +kernel) (pa_cons (pe_callB (cr_sortedS) (by rfl) T.b_sorted (by decide +kernel) (pa_cons (pe_lock (pe_lc (own := [("host", 5)]) rfl S_Web_init.nd (pi_keys (pv 2)) (blkOk_by (N := N_Web_init) (sc := defScope s_Web_init) (by decide +kernel)) (fun _ _ _ _ _ => (pg_name (i := 5) S_Web_init.nd rfl (Or.inl rfl))) (fun _ _ _ _ _ => pts_nil) (fun _ _ _ _ _ => (pe_callTy SkE.call_str_str (by rfl) T.b_str (by decide +kernel) (pa_cons (pv 5) pa_nil))))) pa_nil)) pa_nil)) rfl) (pss_cons (ps_fld (pv 0) (pe_dc (own := [("host", 5)]) rfl S_Web_init.nd (pi_tup (pe_fld (pv 0) rfl)) (blkOk_by (N := N_Web_init) (sc := defScope s_Web_init) (by decide +kernel)) (fun _ _ _ _ _ => (pg_name (i := 5) S_Web_init.nd rfl (Or.inl rfl))) (fun _ _ _ _ _ => pts_nil) (fun _ _ _ _ _ => (pv 5)) (fun _ _ _ _ _ => (pe_dget hu (pv 2) (pv 5) (fun _ _ => rfl)))) rfl) (pss_cons (ps_setLc2 (i := 3) (own := [("link", 6), ("switch", 7)]) (vs1 := [7]) rfl S_Web_init.nd rfl rfl (sw_true rfl rfl rfl (by decide +kernel)) (pi_list (pv 1)) (blkOk_by (N := N_Web_init) (sc := defScope s_Web_init) (by decide +kernel)) (by decide) (fun _ _ _ _ _ => (pg_name (i := 6) S_Web_init.nd rfl (Or.inl rfl))) (fun _ _ _ _ _ => pts_nil) (fun _ _ _ _ _ => (pi_at (K := K) (R := fun k => iTup k _) (pi_tup (pv 6)) rfl)) (fun _ _ _ _ _ => (pg_name (i := 7) S_Web_init.nd rfl (Or.inl rfl))) (fun _ _ _ _ _ => pts_nil) (fun _ _ _ _ _ => (pv 7))) (pss_cons (ps_fld (pv 0) (pe_callTy call_tuple_of (by rfl) T.b_tuple (by decide +kernel) (pa_cons (pe_callB (cr_sortMI rfl) (by rfl) T.b_sorted (by decide +kernel) (pa_cons (pe_callTy (cr_setM rfl) (by rfl) T.b_set (by decide +kernel) (pa_cons (pe_lc (own := [("switch", 7)]) rfl S_Web_init.nd (pi_list (pe_lst (StX.pa_star (pv 3) (pa_starVals rfl (pe_fld (pv 0) rfl) pa_nil)))) (blkOk_by (N := N_Web_init) (sc := defScope s_Web_init) (by decide +kernel)) (fun _ _ _ _ _ => (pg_name (i := 7) S_Web_init.nd rfl (Or.inl rfl))) (fun _ _ _ _ _ => pts_nil) (fun _ _ _ _ _ => (pe_callTy call_int1 (by rfl) T.b_int (by decide +kernel) (pa_cons (pv 7) pa_nil)))) pa_nil)) pa_nil)) pa_nil)) rfl) (pss_cons (ps_if (pt_cmpR op_gt (pe_callB cr_lenM (by rfl) T.b_len PySem.boot_len (pa_cons (pe_callTy (cr_setM rfl) (by rfl) T.b_set (by decide +kernel) (pa_cons (pe_lc (own := [("group", 8)]) rfl S_Web_init.nd (pi_values (pe_freeze (pe_callR (F_grouped T) (hr.mono (by decide)) T.f_grouped.kp T.g_grouped pass0 (pa_cons (pe_fld (pv 0) rfl) (pa_cons (pe_fld (pv 0) rfl) pa_nil))))) (blkOk_by (N := N_Web_init) (sc := defScope s_Web_init) (by decide +kernel)) (fun _ _ _ _ _ => (pg_name (i := 8) S_Web_init.nd rfl (Or.inl rfl))) (fun _ _ _ _ _ => pts_nil) (fun _ _ _ _ _ => (pe_callTy call_int1 (by rfl) T.b_int (by decide +kernel) (pa_cons (pv 8) pa_nil)))) pa_nil)) pa_nil)) pe_int (nomark _)) pss_never pss_nil) (pss_cons (ps_fld (pv 0) (pe_dc (own := [("switch", 7)]) rfl S_Web_init.nd (pi_tup (pe_fld (pv 0) rfl)) (blkOk_by (N := N_Web_init) (sc := defScope s_Web_init) (by decide +kernel)) (fun _ _ _ _ _ => (pg_name (i := 7) S_Web_init.nd rfl (Or.inl rfl))) (fun _ _ _ _ _ => pts_nil) (fun _ _ _ _ _ => (pv 7)) (fun _ _ _ _ _ => (pe_callR (F_next_to T) (hr.mono (by decide)) T.f_next_to.kp T.g_next_to pass0 (pa_cons (pe_at (K := K) (R := fun k => tFld k _ _) (pe_fld (pv 0) rfl) rfl) (pa_cons (pv 7) pa_nil))))) rfl) (pss_cons (ps_fld (pv 0) (pe_dc (own := [("switch", 7)]) rfl S_Web_init.nd (pi_tup (pe_fld (pv 0) rfl)) (blkOk_by (N := N_Web_init) (sc := defScope s_Web_init) (by decide +kernel)) (fun _ _ _ _ _ => (pg_name (i := 7) S_Web_init.nd rfl (Or.inl rfl))) (fun _ _ _ _ _ => pts_nil) (fun _ _ _ _ _ => (pv 7)) (fun _ _ _ _ _ => (pe_callR (F_guests_of T) (hr.mono (by decide)) T.f_guests_of.kp T.g_guests_of pass0 (pa_cons (pe_at (K := K) (R := fun k => tFld k _ _) (pe_fld (pv 0) rfl) rfl) (pa_cons (pv 7) pa_nil))))) rfl) (pss_cons (ps_setLc (i := 4) (own := [("one", 9), ("other", 10)]) rfl S_Web_init.nd rfl rfl (sw_true rfl rfl rfl (by decide +kernel)) (pi_tup (pe_fld (pv 0) rfl)) (blkOk_by (N := N_Web_init) (sc := defScope s_Web_init) (by decide +kernel)) (fun _ _ _ _ _ => (pg_at (K := K) (R := fun k => gTup k 2 _) (pg_tup (n := 2) (by rfl) (pgs_cons (pg_name (i := 9) S_Web_init.nd rfl (Or.inl rfl)) (pgs_cons (pg_name (i := 10) S_Web_init.nd rfl (Or.inl rfl)) pgs_nil))) rfl)) (fun _ _ _ _ _ => pts_nil) (fun _ _ _ _ _ => (pe_methR (pv 0) T.c_Web T.m_Web_cut_of (F_cut_of T) (hr.mono (by decide)) pass0 (pa_cons (pv 9) (pa_cons (pv 10) pa_nil))))) (pss_one (ps_fld (pv 0) (StX.pe_makeR T.k_Tree (F_Tree T) (hr.mono (by decide)) (by rfl) T.g_Tree pass0 (pa_cons (pe_fld (pv 0) rfl) (pa_cons (pe_lc (own := [("cut", 11)]) rfl S_Web_init.nd (pi_list (pv 4)) (blkOk_by (N := N_Web_init) (sc := defScope s_Web_init) (by decide +kernel)) (fun _ _ _ _ _ => (pg_name (i := 11) S_Web_init.nd rfl (Or.inl rfl))) (fun _ _ _ _ _ => pts_one (pt_cmpR op_notN (pv 11) pe_non (nomark _))) (fun _ _ _ _ _ => (pv 11))) pa_nil))) rfl))))))))))))), ?_⟩
    have hne : ws ≠ [] := fun z => by rw [z] at two; exact absurd two (by decide)
    refine ⟨.ref l, rfl, l, refs, L, rfl, hl, hL, lok, fewL, fun H1 e1 => ?_⟩
    refine ⟨.ref d, rfl, d, ws, pl, rfl, e1 _ _ hd, hne, by omega, fun h hh => ⟨nm h hh, sok _ (hom h hh)⟩, fun H2 e2 => ?_⟩
    have e12 := e1.trans e2
    refine ⟨.ref l, rfl, l, refs, L, rfl, e12 _ _ hl, hL.mono e12, lok, fewL, fun pL H3 rs L' np e3 hpL hL' pm => ?_⟩
    have e13 := e12.trans e3
    refine ⟨.ref a, rfl, a, _, dx, [], rfl, e13 _ _ ha, T.c_Web, T.n_Web_own_links, by decide, ?_⟩
    generalize hG : upd H3 a _ = G1
    have a1 : G1 a = some (.ins (He.ga K "Web") dx [("own_links", .ref pL)]) := by rw [← hG] <;> exact upd_same
    have x1 : Ex (del a H) (del a G1) := by rw [← hG, del_put] <;> exact del_mono e13
    have g1 : Ex (del a H3) (del a G1) := by rw [← hG, del_put] <;> exact Ex.refl _
    have ha3 := e13 _ _ ha
    have hpL1 : del a G1 pL = some (.tup rs) := g1 _ _ (del_of hpL ha3 (fun z => nomatch z))
    have hL1 : LinksAt (del a G1) rs L' := (hL'.del ha3).mono g1
    have hl1 : del a G1 l = some (.lst refs) := x1 _ _ (del_of hl ha (fun z => nomatch z))
    have hLl1 : LinksAt (del a G1) refs L := (hL.del ha).mono x1
    have hd1 : del a G1 d = some (.dK (plK ws pl)) := x1 _ _ (del_of hd ha (fun z => nomatch z))
    clear hG
    have pl0 : (plK ws pl).length = ws.length := List.length_map _
    refine ⟨d, .dK (plK ws pl), (of_del hd1).2, True.intro, fun od => ⟨.ref d, rfl, d, od, rfl, .inl ⟨plK ws pl, upd_same, fun D hD => lcW walk_keys hD (fun i acc _ => acc = txs (ws.take i)) (by omega) rfl (fun H' e => e _ _ upd_same) ?_ ?_⟩⟩⟩
    · intro i acc Hi Ha hi r e1 e2 C C0 hC hC0 x Hb ⟨h1, kk, v, hk, hx⟩
      subst h1 hx
      obtain ⟨y, hy, rfl, rfl⟩ := plK_get hk
      refine ⟨rfl, yes ⟨.str y, rfl, y, rfl, hC _ _ (Ex.refl _) fun H5 _ => ?_⟩⟩
      rw [r, List.take_add_one, hy]
      simp [txs]
    intro acc H4 la r e4 _ H5 e5 h5
    rw [pl0, List.take_length] at r
    have e45 := e4.trans e5
    refine ⟨e45 _ _ upd_same, ?_⟩
    have nDd : D ≠ d := fun z => by
      rw [z, upd_same] at hD
      cases hD
    have eA : Ex G1 (upd H5 d (.dK (plK ws pl))) := lock_ex (of_del hd1).2 e45
    have hD5 : upd H5 d (.dK (plK ws pl)) D = some (.lst (txs ws)) := by
      rw [upd_ne nDd, h5, r]
    generalize upd H5 d (.dK (plK ws pl)) = H6 at eA hD5 ⊢
    refine ⟨D, ws, rfl, .inl (.inl hD5), by omega, fun hs p4 pmH srt hp4 => ⟨p4, txs hs, rfl, .inl ⟨.inl (.inl upd_same), fun pH hpH => ?_⟩⟩⟩
    have e7 : Ex G1 (upd (upd H6 p4 (.lst (txs hs))) pH (.tup (txs hs))) := eA.trans ((Ex.new hp4).trans (Ex.new hpH))
    refine ⟨.ref a, rfl, a, _, dx, _, rfl, e7 _ _ a1, T.c_Web, T.n_Web_own_hosts, (by show 1 < 1000; decide), ?_⟩
    generalize hG : upd (upd (upd H6 p4 (.lst (txs hs))) pH (.tup (txs hs))) a _ = G2
    have a2 : G2 a = some (.ins (He.ga K "Web") dx [("own_links", .ref pL), ("own_hosts", .ref pH)]) := by rw [← hG] <;> exact upd_same
    have x12 : Ex (del a G1) (del a G2) := by rw [← hG, del_put] <;> exact del_mono e7
    have hH2 : del a G2 pH = some (.tup (txs hs)) := by
      rw [← hG, del_put]
      exact del_of upd_same (e7 _ _ a1) (fun z => nomatch z)
    clear hG
    have ndH : hs.Nodup := pmH.nodup_iff.mpr nd
    have hsl : hs.length = ws.length := pmH.length_eq
    have mH : ∀ h, h ∈ hs ↔ h ∈ ws := fun h => pmH.mem_iff
    have x2 : Ex (del a H) (del a G2) := x1.trans x12
    refine ⟨.ref a, rfl, a, _, dx, _, .ref pH, rfl, a2, T.c_Web, T.n_Web_own_hosts, rfl, pH, rfl, ⟨_, .inl (.inl (of_del hH2).2)⟩, fun dP hdP => dcW walk_tup hdP (fun i acc _ => acc = plK (hs.take i) pl) (by rw [txs_len]; omega) rfl (fun H' e => Evl.ex_t e (.inl (.inl (of_del hH2).2))) ?_ ?_⟩
    · intro i acc Hi Ha hi r e1 e2 C C0 hC _ x Hb ⟨h1, hx⟩
      subst h1
      obtain ⟨y, hy, rfl⟩ := txs_get hx
      obtain ⟨nm2, et⟩ := take_nodup ndH hy
      have my := (mH y).mp (List.mem_of_getElem? hy)
      exact ⟨rfl, yes ⟨.str y, rfl, .ref d, rfl, .str y, rfl, d, .int (pl y), rfl, .inl ⟨plK ws pl, .inr y, .inl ((e1.trans e2) _ _ (of_del (x12 _ _ hd1)).2), rfl, (plK_val my).symm⟩, hC (.inr y) _ _ (Ex.refl _) fun H5 _ => by rw [r, et]; exact plK_put nm2⟩⟩
    intro acc H8 la r e8 _ H9 e9 h9
    rw [txs_len, List.take_length] at r
    subst r
    have e89 := e8.trans e9
    refine ⟨.ref a, rfl, a, _, dx, _, rfl, e89 _ _ a2, T.c_Web, T.n_Web_own_places, (by show 2 < 1000; decide), ?_⟩
    generalize hG : upd H9 a _ = G3
    have a3 : G3 a = some (.ins (He.ga K "Web") dx [("own_links", .ref pL), ("own_hosts", .ref pH), ("own_places", .ref dP)]) := by rw [← hG] <;> exact upd_same
    have x23 : Ex (del a G2) (del a G3) := by rw [← hG, del_put] <;> exact del_mono e89
    have hP3 : del a G3 dP = some (.dK (plK hs pl)) := by
      rw [← hG, del_put]
      exact del_of h9 (e89 _ _ a2) (fun z => nomatch z)
    clear hG
    have x3 : Ex (del a H) (del a G3) := x2.trans x23
    have x13 : Ex (del a G1) (del a G3) := x12.trans x23
    refine ⟨.ref l, rfl, l, rfl, ⟨_, .inl (.inl (of_del (x13 _ _ hl1)).2)⟩, fun dE hdE => lc2_ends hdE (of_del (x13 _ _ hl1)).2 ((hLl1.mono x13).mono (del_ex a G3)) (by omega) (fun x => rfl) (fun x => rfl) (fun x y => rfl) (fun x y => rfl) fun H10 e10 h10 => ?_⟩
    obtain ⟨xs0, hxs0⟩ : ∃ xs : List Int, xs = endsOf L ++ hs.map pl := ⟨_, rfl⟩
    have ev : (endsOf L).map V.int ++ ((plK hs pl).map (·.2) ++ []) = xs0.map V.int := by
      rw [hxs0, List.append_nil, List.map_append]
      unfold plK
      rw [List.map_map, List.map_map] <;> rfl
    have el : ∀ M : List Lk, (endsOf M).length = 2 * M.length := fun M => by
      induction M with
      | nil => rfl
      | cons e r ih =>
        show (e.1 :: e.2 :: endsOf r).length = _
        rw [List.length_cons, List.length_cons, ih, List.length_cons]
        omega
    have xl : xs0.length ≤ 131 := by
      rw [hxs0, List.length_append, List.length_map, el]
      omega
    have SS : ∀ x, x ∈ xs0 ↔ x ∈ S := fun x => by
      rw [hxs0, List.mem_append, List.mem_map]
      have me : x ∈ endsOf L ↔ ∃ e ∈ L, e.1 = x ∨ e.2 = x := by
        unfold endsOf
        rw [List.mem_flatMap]
        refine ⟨fun ⟨e, h1, h2⟩ => ⟨e, h1, ?_⟩, fun ⟨e, h1, h2⟩ => ⟨e, h1, ?_⟩⟩
        · rcases List.mem_cons.mp h2 with h | h
          · exact .inl h.symm
          · exact .inr (List.mem_singleton.mp h).symm
        · rcases h2 with h | h <;> simp [h]
      rw [me]
      constructor
      · rintro (⟨e, h1, h2⟩ | ⟨h, h1, rfl⟩)
        · obtain ⟨q1, q2, _⟩ := Tr.ends _ (List.mem_map_of_mem h1)
          rcases SfM.norm_or e with z | z
          · rw [z] at q1 q2
            rcases h2 with rfl | rfl
            · exact q1
            · exact q2
          · rw [z] at q1 q2
            rcases h2 with rfl | rfl
            · exact q2
            · exact q1
        · exact hom h ((mH h).mp h1)
      · intro hx
        obtain ⟨h0, m0⟩ := List.exists_mem_of_ne_nil ws hne
        by_cases c : x = pl h0
        · exact .inr ⟨h0, (mH h0).mpr m0, c.symm⟩
        · obtain ⟨e, h1, h2⟩ := Tr.has_link (hom h0 m0) hx (fun z => c z.symm)
          obtain ⟨f, hf, rfl⟩ := List.mem_map.mp h1
          refine .inl ⟨f, hf, ?_⟩
          rcases SfM.norm_or f with z | z
          · rw [z] at h2
            exact h2
          · rw [z] at h2
            exact h2.symm
    refine ⟨.ref dE, rfl, dE, _, rfl, .inr (.inl (.inl h10)), .ref a, rfl, a, _, dx, _, .ref dP, rfl, e10 _ _ a3, T.c_Web, T.n_Web_own_places, rfl, dP, _, rfl, e10 _ _ (of_del hP3).2, ?_⟩
    refine ⟨Evl.sz_of (by show ((endsOf L).map V.int ++ ((plK hs pl).map (fun z : Key × V => z.2) ++ [])).length ≤ _; rw [ev, List.length_map]; omega), fun q hq => ⟨q, rfl, ⟨_, .inl (.inl upd_same)⟩, fun D5 hD5 => lcM (walk_list (xs := xs0.map V.int)) hD5 id (by rw [List.length_map]; omega) (fun H' e => Evl.ex_l e (.inl (.inl (upd_same.trans (congrArg (fun z => some (HO.lst z)) ev))))) (fun i x Ha h e C hC => ?_) fun H11 e11 h11 => ?_⟩⟩
    · rw [List.getElem?_map] at h
      obtain ⟨n, _, rfl⟩ := Option.map_eq_some_iff.mp h
      exact ⟨rfl, .int n, rfl, .inl ⟨n, rfl, hC _ (Ex.refl _)⟩⟩
    rw [List.map_id, ← ints_kV] at h11
    refine ⟨D5, xs0.map .inl, rfl, .inl (.inl h11), by rw [List.length_map]; omega, fun pM c hpM _ cnt => ?_⟩
    have cS := cnt (S.map .inl) (nodup_map (fun _ _ z => Sum.inl.inj z) Tr.nd) fun k => by
      rw [List.mem_map, List.mem_map]
      exact ⟨fun ⟨x, h1, h2⟩ => ⟨x, (SS x).mpr h1, h2⟩, fun ⟨x, h1, h2⟩ => ⟨x, (SS x).mp h1, h2⟩⟩
    rw [List.length_map] at cS
    refine ⟨pM, xs0, c, rfl, upd_same, by omega, fun ys p6 srtY mY0 hp6 => ⟨p6, _, rfl, .inl ⟨.inl (.inl upd_same), fun pW hpW => ?_⟩⟩⟩
    have mY : ∀ x, x ∈ ys ↔ x ∈ S := fun x => (mY0 x).trans (SS x)
    have e14 : Ex G3 (upd (upd (upd H11 pM (SetMO w pM (inK (xs0.map .inl)) c)) p6 (.lst (ys.map V.int))) pW (.tup (ys.map V.int))) := e10.trans ((Ex.new hq).trans (e11.trans ((Ex.new hpM).trans ((Ex.new hp6).trans (Ex.new hpW)))))
    have a14 := e14 _ _ a3
    refine ⟨.ref a, rfl, a, _, dx, _, rfl, a14, T.c_Web, T.n_Web_own_switches, (by show 3 < 1000; decide), ?_⟩
    generalize hG : upd _ a _ = G4
    have a4 : G4 a = some (.ins (He.ga K "Web") dx [("own_links", .ref pL), ("own_hosts", .ref pH), ("own_places", .ref dP), ("own_switches", .ref pW)]) := by rw [← hG] <;> exact upd_same
    have x34 : Ex (del a G3) (del a G4) := by rw [← hG, del_put] <;> exact del_mono e14
    have hW4 : del a G4 pW = some (.tup (ys.map V.int)) := by
      rw [← hG, del_put]
      exact del_of upd_same a14 (fun z => nomatch z)
    clear hG
    have ndY : ys.Nodup := srtY.imp fun h z => by rw [z] at h; exact Int.lt_irrefl _ h
    have pmY : ys.Perm S := (List.perm_ext_iff_of_nodup ndY Tr.nd).mpr mY
    have TrY : SfM.TreeL ys L' Di := (Tr.perm pm.symm).permS pmY
    have yl : ys.length = S.length := pmY.length_eq
    have Ll : L'.length = L.length := by rw [pm.length_eq, List.length_map]
    have x4 : Ex (del a H) (del a G4) := x3.trans x34
    have x14 : Ex (del a G1) (del a G4) := x13.trans x34
    refine ⟨.ref a, rfl, a, _, dx, _, .ref pW, rfl, a4, T.c_Web, T.n_Web_own_switches, rfl, .ref a, rfl, a, _, dx, _, .ref pL, rfl, a4, T.c_Web, T.n_Web_own_links, rfl, pW, pL, ys, rs, L', Di, rfl, (of_del hW4).2, (of_del (x14 _ _ hpL1)).2, (hL1.mono x14).mono (del_ex a G4), TrY, by omega, by omega, fun dG H15 lab ndG e15 h15 same => ?_⟩
    refine ⟨dG, _, rfl, h15, fun od => ⟨dG, od, labK ys lab, rfl, upd_same, fun D7 hD7 => lcW walk_values hD7 (fun i acc _ => acc = ((ys.take i).map lab).map V.int) (by rw [show (labK ys lab).length = ys.length from List.length_map _]; omega) rfl (fun H' e => e _ _ upd_same) ?_ ?_⟩⟩
    · intro i acc Hi Ha hi r e1 e2 C C0 hC hC0 x Hb ⟨h1, kk, hk⟩
      subst h1
      obtain ⟨sw, hs, hx⟩ := labK_get hk
      injection hx with _ hx
      subst hx
      refine ⟨rfl, yes ⟨.int (lab sw), rfl, .inl ⟨lab sw, rfl, hC _ _ (Ex.refl _) fun H5 _ => ?_⟩⟩⟩
      rw [r, List.take_add_one, hs]
      simp
    intro acc H16 la r e16 _ H17 e17 h17
    rw [show (labK ys lab).length = ys.length from List.length_map _, List.take_length] at r
    have e1617 := e16.trans e17
    obtain ⟨h0, m0⟩ := List.exists_mem_of_ne_nil ws hne
    have y0 := (mY _).mpr (hom h0 m0)
    rw [r, ← ints_kV] at h17
    refine ⟨D7, (ys.map lab).map .inl, rfl, .inl (.inl h17), by rw [List.length_map, List.length_map]; omega, fun pM2 c2 hpM2 _ _ => ?_⟩
    refine ⟨pM2, (ys.map lab).map .inl, [.inl (lab (pl h0))], c2, rfl, upd_same, List.pairwise_cons.mpr ⟨fun _ h => (nomatch h), .nil⟩, fun k => ?_, by show 1 < 1000; decide, 1, 1, rfl, rfl, _, rfl, iteZ (by decide) ?_⟩
    · rw [List.mem_singleton]
      constructor
      · rintro rfl
        exact List.mem_map_of_mem (List.mem_map_of_mem y0)
      · intro hk
        obtain ⟨z, hz, rfl⟩ := List.mem_map.mp hk
        obtain ⟨y, hy, rfl⟩ := List.mem_map.mp hz
        rw [same y hy _ y0]
    have ndG4 : G4 dG = none := ndG
    have e18 : Ex G4 (upd H17 pM2 (SetMO w pM2 (inK ((ys.map lab).map .inl)) c2)) := ((Evl.Ex.mut e15 ndG4).trans e1617).trans (Ex.new hpM2)
    have hW18 := e18 _ _ (of_del hW4).2
    have hpL18 := e18 _ _ (of_del (x14 _ _ hpL1)).2
    have hL18 := ((hL1.mono x14).mono (del_ex a G4)).mono e18
    refine ⟨.ref a, rfl, a, _, dx, _, .ref pW, rfl, e18 _ _ a4, T.c_Web, T.n_Web_own_switches, rfl, pW, rfl, ⟨_, .inl (.inl hW18)⟩, fun dS hdS => dcW walk_tup hdS (fun i acc H' => ∀ s ∈ ys.take i, ∃ l, valV acc (.inl s) = some (.ref l) ∧ H' l = some (.lst ((SfM.nextTo L' s).map V.int)) ∧ H l = none) (by rw [List.length_map]; omega) (fun s hs => nomatch hs) (fun H' e => Evl.ex_t e (.inl (.inl hW18))) ?_ ?_⟩
    · intro i acc Hi Ha hi r e1 e2 C C0 hC _ x Hb ⟨h1, hx⟩
      subst h1
      rw [List.getElem?_map] at hx
      obtain ⟨sw, hs, rfl⟩ := Option.map_eq_some_iff.mp hx
      obtain ⟨nm2, et⟩ := take_nodup ndY hs
      have e12 := e1.trans e2
      refine ⟨rfl, yes ⟨.int sw, rfl, .ref a, rfl, a, _, dx, _, .ref pL, rfl, e12 _ _ (e18 _ _ a4), T.c_Web, T.n_Web_own_links, rfl, .int sw, rfl, pL, rs, L', sw, rfl, e12 _ _ hpL18, hL18.mono e12, by omega, fun l H5 nl e5 h5 => hC (.inl sw) _ _ e5 fun H6 kp s hs6 => ?_⟩⟩
      rw [et] at hs6
      by_cases c : sw = s
      · subst c
        exact ⟨l, by rw [valV_put, if_pos rfl], kp.new h5 nl, fresh_del x4 (e18.trans e12) a4 nl⟩
      · have hm : s ∈ ys.take i := by
          rcases List.mem_append.mp hs6 with h | h
          · exact h
          · exact absurd (List.mem_singleton.mp h).symm c
        obtain ⟨l2, v2, g2, n2⟩ := r s hm
        exact ⟨l2, by rw [valV_put, if_neg (fun z => c (Sum.inl.inj z).symm)]; exact v2, kp.ex e2 e5 _ _ g2, n2⟩
    intro acc5 H19 _ r19 e19 _ H20 e20 h20
    rw [List.length_map, List.take_of_length_le (Nat.le_refl _)] at r19
    have e21 := e18.trans (e19.trans e20)
    have a20 := e21 _ _ a4
    refine ⟨.ref a, rfl, a, _, dx, _, rfl, a20, T.c_Web, T.n_Web_sides, (by show 4 < 1000; decide), ?_⟩
    generalize hG : upd H20 a _ = G5
    have a5 : G5 a = some (.ins (He.ga K "Web") dx [("own_links", .ref pL), ("own_hosts", .ref pH), ("own_places", .ref dP), ("own_switches", .ref pW), ("sides", .ref dS)]) := by rw [← hG] <;> exact upd_same
    have x45 : Ex (del a G4) (del a G5) := by rw [← hG, del_put] <;> exact del_mono e21
    have hS5 : del a G5 dS = some (.dK acc5) := by
      rw [← hG, del_put]
      exact del_of h20 a20 (fun z => nomatch z)
    have sd5 : ∀ s ∈ ys, ∃ l, valV acc5 (.inl s) = some (.ref l) ∧ del a G5 l = some (.lst ((SfM.nextTo L' s).map V.int)) ∧ H l = none := fun s hs => by
      obtain ⟨l, h1, h2, h3⟩ := r19 s hs
      exact ⟨l, h1, by rw [← hG, del_put]; exact del_of (e20 _ _ h2) a20 (fun z => nomatch z), h3⟩
    clear hG r19
    have hP5 := x45 _ _ (x34 _ _ hP3)
    have hW5 := x45 _ _ hW4
    refine ⟨.ref a, rfl, a, _, dx, _, .ref pW, rfl, a5, T.c_Web, T.n_Web_own_switches, rfl, pW, rfl, ⟨_, .inl (.inl (of_del hW5).2)⟩, fun dU hdU => dcW walk_tup hdU (fun i acc H' => ∀ s ∈ ys.take i, ∃ l, valV acc (.inl s) = some (.ref l) ∧ H' l = some (.lst (txs (SfM.guestsAt hs pl s))) ∧ H l = none) (by rw [List.length_map]; omega) (fun s hs => nomatch hs) (fun H' e => Evl.ex_t e (.inl (.inl (of_del hW5).2))) ?_ ?_⟩
    · intro i acc Hi Ha hi r e1 e2 C C0 hC _ x Hb ⟨h1, hx⟩
      subst h1
      rw [List.getElem?_map] at hx
      obtain ⟨sw, hs', rfl⟩ := Option.map_eq_some_iff.mp hx
      obtain ⟨nm2, et⟩ := take_nodup ndY hs'
      have e12 := e1.trans e2
      refine ⟨rfl, yes ⟨.int sw, rfl, .ref a, rfl, a, _, dx, _, .ref dP, rfl, e12 _ _ a5, T.c_Web, T.n_Web_own_places, rfl, .int sw, rfl, dP, hs, pl, sw, rfl, e12 _ _ (of_del hP5).2, by omega, fun l H5 nl e5 h5 => hC (.inl sw) _ _ e5 fun H6 kp s hs6 => ?_⟩⟩
      rw [et] at hs6
      by_cases c : sw = s
      · subst c
        exact ⟨l, by rw [valV_put, if_pos rfl], kp.new h5 nl, fresh_del (x4.trans x45) e12 a5 nl⟩
      · have hm : s ∈ ys.take i := by
          rcases List.mem_append.mp hs6 with h | h
          · exact h
          · exact absurd (List.mem_singleton.mp h).symm c
        obtain ⟨l2, v2, g2, n2⟩ := r s hm
        exact ⟨l2, by rw [valV_put, if_neg (fun z => c (Sum.inl.inj z).symm)]; exact v2, kp.ex e2 e5 _ _ g2, n2⟩
    intro acc6 H22 _ r22 e22 _ H23 e23 h23
    rw [List.length_map, List.take_of_length_le (Nat.le_refl _)] at r22
    have e24 := e22.trans e23
    have a23 := e24 _ _ a5
    refine ⟨.ref a, rfl, a, _, dx, _, rfl, a23, T.c_Web, T.n_Web_guests, (by show 5 < 1000; decide), ?_⟩
    generalize hG : upd H23 a _ = G6
    have a6 : G6 a = some (.ins (He.ga K "Web") dx (webFs pL pH dP pW dS dU ++ [])) := by rw [← hG] <;> exact upd_same
    have x56 : Ex (del a G5) (del a G6) := by rw [← hG, del_put] <;> exact del_mono e24
    have hU6 : del a G6 dU = some (.dK acc6) := by
      rw [← hG, del_put]
      exact del_of h23 a23 (fun z => nomatch z)
    have gd6 : ∀ s ∈ ys, ∃ l, valV acc6 (.inl s) = some (.ref l) ∧ del a G6 l = some (.lst (txs (SfM.guestsAt hs pl s))) ∧ H l = none := fun s hs' => by
      obtain ⟨l, h1, h2, h3⟩ := r22 s hs'
      exact ⟨l, h1, by rw [← hG, del_put]; exact del_of (e23 _ _ h2) a23 (fun z => nomatch z), h3⟩
    clear hG r22
    have x46 := x45.trans x56
    have x16 := x14.trans x46
    have x6 := x4.trans x46
    have tp : ∀ {G : Hp} {b : Addr} {xs : List V}, Ex (del a G6) (del a G) → del a G6 b = some (.tup xs) → hide a H G b = some (.tup xs) := fun {G b xs} e h => hide_other ((x6.trans e).trans (del_ex a G)) (of_del (e _ _ h)).2 (fun _ z => nomatch z) (fun _ _ _ z => nomatch z)
    have dc : ∀ {G : Hp} {b : Addr} {kvs : List (Key × V)}, Ex (del a G6) (del a G) → del a G6 b = some (.dK kvs) → hide a H G b = some (.dK kvs) := fun {G b xs} e h => hide_other ((x6.trans e).trans (del_ex a G)) (of_del (e _ _ h)).2 (fun _ z => nomatch z) (fun _ _ _ z => nomatch z)
    have web : ∀ {G : Hp} {x : List (Str × V)}, Ex (del a G6) (del a G) → (x = [] ∨ ∃ v, x = [(("own_tree" : Str), v)]) → G a = some (.ins (He.ga K "Web") dx (webFs pL pH dP pW dS dU ++ x)) → WebAt K (hide a H G) a ⟨ys, L', Di, hs, pl⟩ := fun {G x} e hx ag =>
      ⟨dx, x, pL, pH, dP, pW, dS, dU, rs, acc5, acc6, by unfold hide; rw [if_pos rfl]; exact ag, hx, tp e (x16 _ _ hpL1), Paired.mapP (hL1.mono x16) fun v f ⟨b, h1, h2⟩ => ⟨b, h1, tp e h2⟩, tp e ((x23.trans (x34.trans x46)) _ _ hH2), dc e (x56 _ _ hP5), tp e (x56 _ _ hW5),
        dc e (x56 _ _ hS5), fun s hs' => let ⟨l, h1, h2, h3⟩ := sd5 s hs'; ⟨l, h1, by rw [hide_new h3]; exact (of_del (e _ _ (x56 _ _ h2))).2⟩, dc e hU6, fun s hs' => let ⟨l, h1, h2, h3⟩ := gd6 s hs'; ⟨l, h1, by rw [hide_new h3]; exact (of_del (e _ _ h2)).2⟩⟩
    have hideEx : ∀ G : Hp, Ex (hide a H G) G := fun G b o h => by
      unfold hide at h
      split at h
      · exact h
      · split at h
        · cases h
        · cases h
        · exact h
    have lokN : ∀ e ∈ L', LinkOk e := fun e he => by
      obtain ⟨f, hf, rfl⟩ := List.mem_map.mp (pm.mem_iff.mp he)
      exact linkOk_norm (lok f hf)
    have ok : WOk ⟨ys, L', Di, hs, pl⟩ := ⟨TrY, by show L'.length ≤ 50; omega, by show ys.length ≤ 50; omega, fun h hh => nm h ((mH h).mp hh), ndH, srt, by show hs.length ≤ 31; omega, by show 2 ≤ hs.length; omega, fun h hh => (mY _).mpr (hom h ((mH h).mp hh)), fun s hs' => sok s ((mY s).mp hs'), lokN⟩
    have hpL6 := (of_del (x16 _ _ hpL1)).2
    have hL6 : LinksAt G6 rs L' := (hL1.mono x16).mono (del_ex a G6)
    have rl : rs.length = L'.length := Paired.length hL6
    refine ⟨.ref a, rfl, a, _, dx, _, .ref pL, rfl, a6, T.c_Web, T.n_Web_own_links, rfl, pL, rfl, ⟨_, .inl (.inl hpL6)⟩, fun dC hdC => lcW walk_tup hdC (fun i acc H' => Paired (CutOr K ⟨ys, L', Di, hs, pl⟩ H') acc (L'.take i)) (by omega) .nil (fun H' e => Evl.ex_t e (.inl (.inl hpL6))) ?_ ?_⟩
    · intro i acc Hi Ha hi r e1 e2 C C0 hC hC0 x Hb ⟨h1, hx⟩
      subst h1
      obtain ⟨⟨e1', e2'⟩, hf, t, rfl, ht⟩ := paired_at hL6 hx
      have e12 := e1.trans e2
      have ht := e12 _ _ ht
      have tk : L'.take (i + 1) = L'.take i ++ [(e1', e2')] := by rw [List.take_add_one, hf] <;> rfl
      refine ⟨t, _, rfl, .inl (.inl ht), rfl, _, _, rfl, _, _, rfl, rfl, rfl, yes ⟨.ref a, rfl, a, dx, _, rfl, e12 _ _ a6, webFs_no (.inl rfl) (by decide +kernel), .int e1', rfl, .int e2', rfl, a, ⟨ys, L', Di, hs, pl⟩, e1', e2', rfl, ((web (Ex.refl _) (.inl rfl) a6).mono (hideEx _)).mono e12, ok, ?_, fun H5 e5 => hC _ _ e5 fun H6 kp => ?_, fun b H5 c nb e5 h1 h2 h3 => hC _ _ e5 fun H6 kp => ?_⟩⟩
      · exact SfM.mem_nextTo.mpr (.inl (List.mem_of_getElem? hf))
      · rw [tk]
        exact paired_snoc (CutOr.mono (kp.ex e2 e5) r) (.inl rfl)
      · rw [tk]
        exact paired_snoc (CutOr.mono (kp.ex e2 e5) r) (.inr ⟨b, c, rfl, CutAt.keep kp h1, h2, h3⟩)
    intro acc7 H25 _ r25 e25 _ H26 e26 h26
    rw [rl, List.take_length] at r25
    have e27 := e25.trans e26
    have r26 := CutOr.mono e26 r25
    clear r25
    have a26 := e27 _ _ a6
    have cl : acc7.length = L'.length := Paired.length r26
    refine ⟨.ref a, rfl, a, _, dx, _, .ref pH, rfl, a26, T.c_Web, T.n_Web_own_hosts, rfl, .ref dC, rfl, dC, rfl, ⟨_, .inl (.inl h26)⟩, fun dF hdF => lcW walk_list hdF (fun i acc H' => acc.length ≤ i ∧ CutsOf K ⟨ys, L', Di, hs, pl⟩ H' acc) (by omega) ⟨Nat.le_refl _, [], .nil, fun c hc => nomatch hc⟩ (fun H' e => Evl.ex_l e (.inl (.inl h26))) ?_ ?_⟩
    · intro i acc Hi Ha hi r e1 e2 C C0 hC hC0 x Hb ⟨h1, hx⟩
      subst h1
      obtain ⟨la, r⟩ := r
      obtain ⟨e, hf, q⟩ := paired_at r26 hx
      rcases q with rfl | ⟨b, c, rfl, h1, h2, h3⟩
      · refine ⟨rfl, .non, rfl, rfl, _, rfl, iteF (hC0 _ (Ex.refl _) fun H5 kp => ⟨by omega, r.mono (kp.ex e2 (Ex.refl _))⟩)⟩
      · refine ⟨rfl, .ref b, rfl, rfl, _, rfl, iteT ⟨.ref b, rfl, hC _ _ (Ex.refl _) fun H5 kp => ⟨by rw [List.length_append]; exact Nat.succ_le_succ la, ?_⟩⟩⟩
        have ex := kp.ex e2 (Ex.refl _)
        obtain ⟨cs, q1, q2⟩ := r.mono ex
        refine ⟨cs ++ [c], paired_snoc q1 ⟨b, rfl, h1.mono (e1.trans ex)⟩, fun z hz => ?_⟩
        rcases List.mem_append.mp hz with h | h
        · exact q2 z h
        · rw [List.mem_singleton.mp h]
          exact ⟨h2, e, List.mem_of_getElem? hf, h3⟩
    intro acc8 H28 _ ⟨la8, r28⟩ e28 _ H29 e29 h29 x dz hx hdz hnz
    obtain ⟨cs, q1, q2⟩ := r28.mono e29
    have e30 := e27.trans (e28.trans e29)
    have eM : Ex H29 (upd (upd H29 dz (.own x)) x (.ins (He.ga K "Tree") dz [])) := (Ex.new hdz).trans (Ex.new (by rw [upd_ne (Ne.symm hnz)]; exact hx))
    have csl : cs.length = acc8.length := (Paired.length q1).symm
    have CA : CutsAt K (upd (upd H29 dz (.own x)) x (.ins (He.ga K "Tree") dz [])) acc8 cs hs := CutsAt.mono ⟨q1, fun c hc => (q2 c hc).1, pw_all fun c hc d hd => let ⟨_, e, he, s1⟩ := q2 c hc; let ⟨_, f, hf, s2⟩ := q2 d hd; apart_of (W := ⟨ys, L', Di, hs, pl⟩) TrY ok.home he hf s1 s2, by omega, ok.nm⟩ eM
    have hH29 := e30 _ _ (of_del ((x23.trans (x34.trans x46)) _ _ hH2)).2
    refine ⟨x, dz, pH, dF, hs, acc8, cs, rfl, upd_same, eM _ _ hH29, eM _ _ h29, CA, fun z => by rw [z] at hsl; exact hne (List.length_eq_zero_iff.mp hsl.symm), by omega, ndH, srt, fun H31 e31 => ⟨rfl, ?_⟩⟩
    have e32 : Ex H29 H31 := mk_ex hx hdz e31
    have e33 := e30.trans e32
    refine ⟨.ref a, rfl, a, _, dx, _, rfl, e33 _ _ a6, T.c_Web, T.n_Web_own_tree, (by show 6 < 1000; decide), ?_⟩
    have x7 : Ex (del a G6) (del a (upd H31 a (.ins (He.ga K "Web") dx (webFs pL pH dP pW dS dU ++ [(("own_tree" : Str), V.ref x)])))) := by rw [del_put] <;> exact del_mono e33
    exact k _ ⟨ys, L', Di, hs, pl⟩ ((x6.trans x7).trans (del_ex a _)) (web x7 (.inr ⟨_, rfl⟩) upd_same) ok pmH rfl)
end SfW
/-! super().__init__(..) in a class's own __init__ -/
namespace SfW
open PySem PySem.Spec PyProof.Rows L2
open NdefX (NScope envF ncx startF CellsAt inv_startN NF)
/-- a statement, run at the code c -/
structure PSAt (X : Cx) (c : Code) (st : Stmt) (t : TS) : Prop where
  run : ∀ (pins : List (Addr × Obj)) (s : Shared) (σ : L2.St) (H : Hp) (D : Ends), Inv X pins σ H s → t D σ H → _root_.PySem.wpAt (model X.prog X.w) X.A c (exec st X.env) (SP X pins D) X.xe s
structure PSsAt (X : Cx) (c : Code) (body : List Stmt) (t : TS) : Prop where
  run : ∀ (pins : List (Addr × Obj)) (s : Shared) (σ : L2.St) (H : Hp) (D : Ends), Inv X pins σ H s → t D σ H → _root_.PySem.wpAt (model X.prog X.w) X.A c (execs body X.env) (SP X pins D) X.xe s
section
variable {X : Cx} {c : Code} {st : Stmt} {r : List Stmt} {t u : TS}
theorem psat_of (h : PS X st t) : PSAt X c st t := ⟨fun pins s σ H D I q => _root_.PySem.wpAt_of_wpAny (h.run pins s σ H D I q)⟩
theorem at_nil : PSsAt X c [] tNext := ⟨fun pins s σ H D I q => _root_.PySem.wpAt_of_wpAny (wpAny_execs_nil ⟨σ, H, I, q⟩)⟩
theorem at_cons (h1 : PSAt X c st t) (h2 : PSsAt X c r u) : PSsAt X c (st :: r) (tSeq t u) := ⟨fun pins s σ H D I h => by
  refine ks_wpAt_execs_cons (ks_wpAt_mono (h1.run pins s σ H _ I h) (fun f s' hs => ?_) fun _ _ x => x)
  cases f with
  | next =>
    obtain ⟨σ', H', J, q⟩ := hs
    exact h2.run pins s' σ' H' D J q
  | ret v => exact hs
  | brk => exact hs
  | cont => exact hs⟩
end
/-- what stands around a call super().__init__ in the def at f of the class D, the instance of the class C: f2 is called -/
structure SupOk (P : Program) (K : PySem.W.Frag) (mg : Str → Option Value) (env : Env) (p0 : Str) (D C f2 : Addr) : Prop where
  kS : env.kindOf ("super" : Str) = some .globalImplicit
  kC : env.kindOf ("__class__" : Str) = some .free
  kf : env.scope.kind = .function
  fn : ∃ (f : Addr) (oc : Value) (od : Option Addr) (fd : FuncData) (osl : Array (Option Value)) (ar : Arg), env.func = some f ∧ K.lookup f = some ⟨oc, od, .func fd, osl⟩ ∧ (fd.params.posonlyargs ++ fd.params.args).head? = some ar ∧ ar.arg = p0
  co : ∃ (c : Addr) (oc : Obj) (vs : Array Value) (file : Str) (tf : Tok), env.code = .ref c ∧ K.lookup c = some oc ∧ oc.data = .fields vs ∧ vs[2]? = some (.str file tf) ∧ ((P.main.file : Str) == file) = true
  top : (P.main.scope.names.lookup ("super" : Str)).isSome = false
  mS : mg ("super" : Str) = none
  cell : ∃ (cc : Addr) (o : Obj), env.cells.lookup ("__class__" : Str) = some cc ∧ K.lookup cc = some o ∧ o.data = .cell (some (.ref D))
  cls : ∃ cdD, PySem.W.clsIn K D = some cdD
  sub : PySem.W.mroIn K C (.ref D) = some true
  ga : PySem.W.nsIn K cStatics "thirdparty.any" = some none
  m : PySem.W.ks_superIn K C D "__init__" = some (some (.ref f2))
  ty : PySem.W.typeIn K (.ref f2) = some (.type "function")
  fi : PySem.W.fnIn K f2 = true
/-- super().__init__(..) -/
def tSup (C : Addr) (sp : Sp) (E : XK) (i : Nat) (ta : TA) : TS := fun D σ H => ∃ a dx fs, σ[i]? = some (some (.ref a)) ∧ H a = some (.ins C dx fs) ∧ ta σ H fun vs H1 => sp (.ref a :: vs) H1 (fun _ H2 => D.nx σ H2) E
theorem ps_super {X : Cx} {CX : CXT} {k i : Nat} {p0 : Str} {D C f2 : Addr} {sp : Sp} {E : XK} {body : List Stmt} {e : Expr} {es : List Expr} {ta : TA} {q0 q1 apos pos epos : Pos} {pl : Sem Bool} (S : SupOk X.prog X.K X.mg X.env p0 D C f2)
    (hN : X.N[i]? = some p0) (hv : X.env.scope.names.lookup p0 = some .local) (F : FnR X.prog X.w X.K X.mg X.base CX k f2 sp) (hr : Room k X.A) (hx : Passes CX X E) (ha : PA X (e :: es) ta)
    (hst : starEach (e :: es) X.env = (false, eval e X.env) :: starEach es X.env := by rfl) (hpl : (backTo pos (starEach es X.env)).any (·.1) = false := by rfl)
    (he : eval (.Call (.Attribute (.Call (.Name "super" q0) [] [] q1) "__init__" apos) (e :: es) [] pos) X.env = (do
      let ov ← attributeBase (.Call (.Name "super" q0) [] [] q1) "__init__" X.env (eval (.Call (.Name "super" q0) [] [] q1) X.env)
      standAt apos.atName
      let (f, first) ← holding [ov] (getMethod ov "__init__" pl)
      callWith pos f first (backTo pos (starEach (e :: es) X.env)) []) := by rfl)
    (hsw : swapsWith (.Call (.Attribute (.Call (.Name "super" q0) [] [] q1) "__init__" apos) (e :: es) [] pos) none epos.line X.env = pure false := by rfl) :
    PSAt X (.func body X.env) (.Expr (.Call (.Attribute (.Call (.Name "super" q0) [] [] q1) "__init__" apos) (e :: es) [] pos) epos) (tSup C sp E i ta) := by
  refine ⟨fun pins s σ H Dn I h => ?_⟩
  obtain ⟨a, dx, fs, hσ, hH, h⟩ := h
  obtain ⟨f, oc, od, fd, osl, ar, hfu, hlk, hhd, har⟩ := S.fn
  obtain ⟨cda, ocd, vs, file, tf, hco, hck, hcd, hvs, hfile⟩ := S.co
  obtain ⟨cc, occ, hcl, hcK, hcD⟩ := S.cell
  obtain ⟨cdD, hD⟩ := S.cls
  have kin := I.kIn
  obtain ⟨oD, hD1, hD2⟩ : ∃ oD, s.heap.get? D = some oD ∧ oD.data = .cls cdD := by
    unfold PySem.W.clsIn at hD
    split at hD
    · rename_i c d cd' sl ho
      cases hD
      exact ⟨_, kin _ _ ho, rfl⟩
    · cases hD
  refine ks_wpAt_Expr_any (ks_wpAt_MethodCall (pl := pl) ?_ he) I.quiet hsw
  refine ks_wpAt_super_base S.kS S.kC (by decide +kernel) hfu (kin _ _ hlk) rfl hhd hco (kin _ _ hck) hcd hvs hfile S.top ?_
  obtain ⟨mb, b1, b2⟩ := I.mod.blt
  refine PySem.W.ks_loadName_global S.kf S.kS (Calls.loadGlobal_builtin (by rw [I.ok.glob]; exact I.mod.glob.keeps I.bk) S.mS (by rw [I.ok.blt]; exact b1.keeps I.bk) ((b2 _ (by decide +kernel)).trans (show bootBuiltins "super" = some (.type "super") by kernel_rfl)) ⟨rfl, ?_⟩)
  refine wpAny_loadName_free S.kf S.kC hcl ⟨occ, kin _ _ hcK, hcD⟩ ?_
  obtain ⟨m, hn, hl⟩ := I.loc
  obtain ⟨u, ru, lu⟩ := hl i p0 _ hN hσ (.inl hv)
  obtain rfl : u = Value.ref a := ru
  have hm : m p0 = some (.ref a) := by
    rcases lu with ⟨_, z⟩ | ⟨z, _⟩
    · exact z
    · rcases z with z | z
      · rw [show X.env.kindOf p0 = some .local from hv] at z
        cases z
      · rw [show X.env.kindOf p0 = some .local from hv] at z
        cases z
  rw [har]
  refine wpAny_loadName_local S.kf hv hn hm ?_
  refine ks_wpAny_isType_cls hD1 hD2 ⟨rfl, ?_⟩
  obtain ⟨mA, O, _⟩ := ins_get I.hok hH
  obtain ⟨odx, J, _⟩ := O.look
  obtain ⟨hp, g, d, t, os⟩ := s
  refine ks_wpAny_call_super hD1 hD2 J.at_ J.cls (fun c z => ?_) (PySem.W.looks_mroIn kin S.sub) fun h' hs' k' => ?_
  · have := J.no
    unfold PySem.W.notCls at this
    rw [z] at this
    exact Bool.noConfusion this
  have I1 : Inv X pins σ H ⟨h', g, d, t, os⟩ := I.kept (t' := t) k'
  have kin1 := I1.kIn
  obtain ⟨cdC, hC⟩ : ∃ cd, PySem.W.clsIn X.K C = some cd := by
    have z := S.m
    unfold PySem.W.ks_superIn at z
    cases y : PySem.W.clsIn X.K C with
    | none =>
      rw [y] at z
      cases z
    | some cd => exact ⟨cd, rfl⟩
  have al : PySem.W.alongIn X.K "__init__" ((cdC.mro.dropWhile (· != .ref D)).drop 1) = some (some (.ref f2)) := by
    have z := S.m
    unfold PySem.W.ks_superIn at z
    rw [hC] at z
    exact z
  obtain ⟨of, hof, hofc⟩ : ∃ of, X.K.lookup f2 = some of ∧ of.cls = .type "function" := by
    have z : (X.K.lookup f2).map (·.cls) = some (.type "function") := S.ty
    cases y : X.K.lookup f2 with
    | none =>
      rw [y] at z
      cases z
    | some of =>
      rw [y] at z
      exact ⟨of, rfl, Option.some.inj z⟩
  refine ks_wpAny_getMethod_super (l₀ := cdC.mro) hs' (PySem.W.looks_opaque kin1 S.ga) (fun A Q E s k q => wpAny_bind ((PySem.W.looks_clsIn kin1 hC) A _ E s k (wpAny_pure q))) rfl kin1 al (kin1 _ _ hof) hofc (PySem.W.ks_ne kin J hC) (by decide +kernel) ?_
  have hbm : (h'.push (PySem.W.methodObj (.ref f2) (.ref a))).get? h'.objs.size = some (PySem.W.methodObj (.ref f2) (.ref a)) := Heap.get?_push_at rfl rfl
  have I2 : Inv X pins σ H ⟨h'.push (PySem.W.methodObj (.ref f2) (.ref a)), g, d, t + 1, os⟩ := I1.kept (t' := t + 1) fun b o z => Heap.get?_push_of_some _ z
  have hlt : X.env.locals < h'.objs.size := I1.lt
  have I3 : Inv X ((h'.objs.size, PySem.W.methodObj (.ref f2) (.ref a)) :: pins) σ H ⟨h'.push (PySem.W.methodObj (.ref f2) (.ref a)), g, d, t + 1, os⟩ := I2.pins_of fun p hp => by
    rcases List.mem_cons.mp hp with rfl | hp
    · exact ⟨hbm, I1.hok.fresh (Nat.le_refl _), Nat.ne_of_gt hlt, I1.nofs (Nat.le_refl _), fun v z => by cases z⟩
    · exact I2.pin p (List.mem_append_right _ hp)
  have hfn : ∀ {s1 : Shared}, X.K.In s1.heap → s1.heap.get? h'.objs.size = some (PySem.W.methodObj (.ref f2) (.ref a)) → PySem.W.MethP X.K h'.objs.size f2 (.ref a) s1.heap := fun h1 h2 => ⟨h2, h1⟩
  have go := ha.run pos _ _ σ H _ I3 h
  have go2 : wpAny (model X.prog X.w) X.A (spliced (backTo pos (starEach (e :: es) X.env))) (fun us s2 => PySem.W.MethP X.K h'.objs.size f2 (.ref a) s2.heap ∧ wpAny (model X.prog X.w) X.A (call (.ref h'.objs.size) ([] ++ us)) (fun _ => SP X pins Dn .next) X.xe s2) X.xe ⟨h'.push (PySem.W.methodObj (.ref f2) (.ref a)), g, d, t + 1, os⟩ := by
    refine thn go fun us s2 ⟨vs2, H2, I4, r, q2⟩ => ?_
    have hbm2 : s2.heap.get? h'.objs.size = some (PySem.W.methodObj (.ref f2) (.ref a)) := (I4.pin (h'.objs.size, _) (List.mem_append_right _ List.mem_cons_self)).1
    refine ⟨hfn I4.kIn hbm2, wpAny_call (ks_codeAny_call_bound hbm2 ?_)⟩
    have I5 : Inv X pins σ H2 s2 := I4.pins_of fun p hp => I4.pin p (List.mem_append_right _ (List.mem_cons_of_mem _ hp))
    refine codeAny_mono (run_fnR (us := .ref a :: us) (vs := .ref a :: vs2) F hr hx I5 (.cons rfl r) q2) fun res s3 hq => ?_
    rcases res with e | (v | _ | _ | _) <;> first | exact hq | exact hq.elim | skip
    obtain ⟨x, H3, I6, _, q⟩ := hq
    exact ⟨σ, H3, I6, q⟩
  rw [hst] at go2 ⊢
  exact PySem.W.callWith_of (by show ((false || (backTo pos (starEach es X.env)).any (·.1)) || false) = false; rw [hpl]; rfl) (PySem.W.keeps_M S.fi) (Calls.evalArgs_plain go2)
/-- a def that closes over its class, by its body -/
theorem fnS_of {CX : CXT} {P : Program} {w : World} {K : PySem.W.Frag} {mg : Str → Option Value} {base : Heap} {k : Nat} {f c cc D : Addr} {name qual : Str} {params : Arguments} {body : List Stmt} {scope : Scope} {kV doc pm ct oc : Value} {an od : Option Addr} {osl : Array (Option Value)} {o : Obj} {N ps : List Str} {sp : Sp}
    (lk : K.lookup f = some ⟨oc, od, .func (PySem.W.ksFn name qual params body scope .none kV doc pm an (.ref c) ct cc), osl⟩) (hcd : PySem.W.codeIn K (.ref c) qual = true) (hcc : K.lookup cc = some o) (hcl : o.data = .cell (some (.ref D)))
    (S : NScope N ps ["__class__"] scope) (len : ∀ vs H Q E, sp vs H Q E → vs.length = ps.length)
    (hb : ∀ us : List Value, us.length = ps.length → bindArgs (PySem.W.ksFn name qual params body scope .none kV doc pm an (.ref c) ct cc) ⟨us, []⟩ = pure (ps.zip us))
    (hbody : ∀ (A : Around) (outer : List Env) (s : Shared) (H : Hp) (vs : List V) (Q : VK) (E : XK), Room k (A.deeper (envF ⟨name, qual, params, body, scope, [("__class__", cc)], c⟩ f s.heap.objs.size)) → sp vs H Q E →
      ∃ t, PSsAt (ncx CX P w K mg base N ⟨name, qual, params, body, scope, [("__class__", cc)], c⟩ f A outer s H E) (.func body (envF ⟨name, qual, params, body, scope, [("__class__", cc)], c⟩ f s.heap.objs.size)) body t ∧
        t { nx := fun _ H' => Q .non H', rt := Q } (startF N vs [some (.ref D)]) H) : FnR P w K mg base CX (k + 1) f sp := by
  intro A outer s H us vs Q E hr e0 r hsp
  have hl := len _ _ _ _ hsp
  have kin : K.In s.heap := e0.mod.kin.keeps fun b o e => (e0.bs b o e).1
  have lim : s.heap.NoLimit := e0.mod.nolimit.keeps fun b o e => (e0.bs b o e).1
  have hcB := e0.bs _ _ (e0.mod.kin _ _ hcc)
  have C : CellsAt [("__class__", cc)] ["__class__"] [some (V.ref D)] s.heap H := by
    have one : ∀ (y : Str) (c' : Addr), List.lookup y [(("__class__" : Str), cc)] = some c' → c' = cc ∧ y = "__class__" := fun y c' h => by
      have := PySem.mem_of_lookup h
      rw [List.mem_singleton] at this
      injection this with h1 h2
      exact ⟨h2, h1⟩
    refine ⟨rfl, fun y c' h => ?_, fun x y c' h1 h2 => (one x c' h1).2.trans (one y c' h2).2.symm, fun i y hi => ?_⟩
    · rw [(one y c' h).1]
      exact ⟨hcB.2, _, o, hcB.1, hcl⟩
    · cases i with
      | zero =>
        obtain rfl : "__class__" = y := Option.some.inj hi
        refine ⟨cc, rfl, fun v hv => ?_⟩
        obtain rfl : V.ref D = v := Option.some.inj (Option.some.inj hv)
        exact ⟨.ref D, rfl, o, hcB.1, hcl⟩
      | succ n => simp at hi
  refine codeAny_call_function hr.depth (kin _ _ lk) rfl S.co S.gen rfl (PySem.W.codeRec_of kin hcd) ?_
  rw [hb us (by rw [← r.length]; exact hl)]
  refine wpAny_pure (wpAny_newFunctionEnv S.nocell (fun ⟨n, _⟩ hy => S.par n (List.of_mem_zip hy).1) (fun h₁ hns hsb => ⟨lim.fresh _ hsb, ?_⟩) S.kind)
  show codeAny _ _ (.func body (envF ⟨name, qual, params, body, scope, [("__class__", cc)], c⟩ f s.heap.objs.size)) _ _
  refine ks_codeAny_funcAt ?_
  have kp : ∀ b o, s.heap.get? b = some o → h₁.get? b = some o := fun b o e => hsb.extBut b o (Nat.ne_of_lt (Heap.lt_size e)) (Heap.get?_push_of_some _ e)
  obtain ⟨t, ht, hq⟩ := hbody A outer s H vs Q E (hr.deeper _) hsp
  have I := inv_startN (CX := CX) (P := P) (w := w) (K := K) (mg := mg) (base := base) (E := E) (F := ⟨name, qual, params, body, scope, [("__class__", cc)], c⟩) (f := f) (tk := s.toks + (ps.zip us).length) S hr.hd e0 hl r C hns kp
  refine ks_wpAt_mono (ht.run [] _ _ H _ I hq) (fun fl s' hs => ?_) fun e s' hs => hs
  cases fl with
  | ret u =>
    obtain ⟨v, σ', H', J, rv, q⟩ := hs
    exact ⟨v, H', J.os, J.bare, J.base, J.hok, rv, q⟩
  | next =>
    obtain ⟨σ', H', J, q⟩ := hs
    exact ⟨.non, H', J.os, J.bare, J.base, J.hok, rfl, q⟩
  | brk =>
    obtain ⟨_, _, _, q⟩ := hs
    exact False.elim q
  | cont =>
    obtain ⟨_, _, _, q⟩ := hs
    exact False.elim q
end SfW
namespace SfW
open PySem PySem.Spec PyProof.Rows L2
open Evl (Ex RetV)
open NdefX (NScope envF ncx startF)
/-! networks: made -/
variable {P : Program} {w : World} {K : PySem.W.Frag} {mg : Str → Option Value} {bs : Heap}
/-- a def that closes over its class D -/
structure ClsFn (P : Program) (K : PySem.W.Frag) (f : Addr) (x qual : Str) (st : Stmt) (D : Addr) : Prop where
  at_ : ∃ (oc : Value) (od : Option Addr) (osl : Array (Option Value)) (kV doc pm : Value) (an : Option Addr) (c : Addr) (ct : Value) (cc : Addr) (o oc2 : Obj) (vs : Array Value) (file : Str) (tf : Tok),
    K.lookup f = some ⟨oc, od, .func (PySem.W.ksFn x qual (defArgs st) (defBody st) (defScope st) .none kV doc pm an (.ref c) ct cc), osl⟩ ∧ PySem.W.codeIn K (.ref c) qual = true ∧ K.lookup cc = some o ∧ o.data = .cell (some (.ref D)) ∧
    K.lookup c = some oc2 ∧ oc2.data = .fields vs ∧ vs[2]? = some (.str file tf) ∧ ((P.main.file : Str) == file) = true
/-- what is known of the text besides -/
structure TY (P : Program) (K : PySem.W.Frag) : Prop where
  top : (P.main.scope.names.lookup ("super" : Str)).isSome = false
  net : ClsFn P K (He.ma K (He.ga K "Network") "__init__") "__init__" "Network.__init__" s_Network_init (He.ga K "Network")
  cls : ∃ cd, PySem.W.clsIn K (He.ga K "Network") = some cd
  sub : PySem.W.mroIn K (He.ga K "Network") (.ref (He.ga K "Network")) = some true
  any : PySem.W.nsIn K cStatics "thirdparty.any" = some none
  sup : PySem.W.ks_superIn K (He.ga K "Network") (He.ga K "Network") "__init__" = some (some (.ref (He.ma K (He.ga K "Player") "__init__")))
  ty : PySem.W.typeIn K (.ref (He.ma K (He.ga K "Player") "__init__")) = some (.type "function")
  fi : PySem.W.fnIn K (He.ma K (He.ga K "Player") "__init__") = true
def WD.wb (W : WD) : SfM.Wb Str := ⟨W.S, W.L, W.D, W.hs, W.pl⟩
abbrev Pt := SfM.Port Str
def pV : Pt → V
  | .inl i => .int i
  | .inr s => .str s
def camK (m : List (Int × Pt)) : List (Key × V) := m.map fun e => (.inl e.1, pV e.2)
/-- the memory m of the web W stands at d -/
def StateAt (H : Hp) (W : WD) (d : Addr) (m : SfM.Mem Str) : Prop := ∃ kvs, H d = some (.dK kvs) ∧ kvs.map (·.1) = W.hs.map Sum.inr ∧ ∀ h ∈ W.hs, ∃ l, valV kvs (.inr h) = some (.ref l) ∧ H l = some (.dK (camK (m h)))
theorem StateAt.mono {H H' : Hp} {W : WD} {d : Addr} {m : SfM.Mem Str} (h : StateAt H W d m) (e : Ex H H') : StateAt H' W d m := by
  obtain ⟨kvs, h1, h2, h3⟩ := h
  exact ⟨kvs, e _ _ h1, h2, fun s hs => let ⟨l, a, b⟩ := h3 s hs; ⟨l, a, e _ _ b⟩⟩
def netFs (w pH ls lt lo : Addr) : List (Str × V) := [("own_web", .ref w), ("ground_told", .ref w), ("own_hosts", .ref pH), ("states", .ref ls), ("sent", .ref lt), ("own_sights", .ref lo)]
theorem valV_no {kvs : List (Key × V)} {k : Key} (h : k ∉ kvs.map (·.1)) : valV kvs k = none := by
  induction kvs with
  | nil => rfl
  | cons p r ih =>
    rw [List.map_cons, List.mem_cons] at h
    rw [valV_neg (fun z => h (.inl z.symm))]
    exact ih fun z => h (.inr z)
/-- a new player's fields -/
def spPlayerInit (K : PySem.W.Frag) : Sp := fun vs H Q _ => ∃ (a dx w pH d : Addr), vs = [.ref a, .ref w, .ref pH, .ref d] ∧ H a = some (.ins (He.ga K "Network") dx [("own_web", .ref w)]) ∧
  ∀ H2 ls lt lo, Ex (del a H) H2 → H2 a = some (.ins (He.ga K "Network") dx (netFs w pH ls lt lo)) → H ls = none → H lt = none → H lo = none → ls ≠ lt → ls ≠ lo → lt ≠ lo → H2 ls = some (.lst [.ref d]) → H2 lt = some (.lst []) → H2 lo = some (.lst []) → Q .non H2
theorem F_Player_init (T : TX K mg) : FnR P w K mg bs CX0 1 (He.ma K (He.ga K "Player") "__init__") (spPlayerInit K) :=
  T.f_Player_init.fn S_Player_init (fun vs H Q E ⟨_, _, _, _, _, h, _⟩ => by rw [h] <;> rfl) (fun _ _ _ _ _ _ us hl => match us, hl with | [_, _, _, _], _ => rfl) (body0 fun cdv A outer s H vs Q E hr q => by
    obtain ⟨a, dx, w1, pH, d, rfl, ha, k⟩ := q
    refine ⟨_, (pss_cons (ps_fld (pv 0) (pv 1) rfl) (pss_cons (ps_fld (pv 0) (pv 2) rfl) (pss_cons (ps_fld (pv 0) (pe_lst (pa_cons (pv 3) pa_nil)) rfl) (pss_cons (ps_fld (pv 0) (pe_lst pa_nil) rfl) (pss_one (ps_fld (pv 0) (pe_lst pa_nil) rfl)))))), ?_⟩
    refine ⟨.ref w1, rfl, .ref a, rfl, a, _, dx, _, rfl, ha, T.c_Network, T.n_Network_ground_told, (by show 1 < 1000; decide), ?_⟩
    refine ⟨.ref pH, rfl, .ref a, rfl, a, _, dx, _, rfl, upd_same, T.c_Network, T.n_Network_own_hosts, (by show 2 < 1000; decide), ?_⟩
    generalize hG : upd (upd H a _) a _ = G1
    have a1 : G1 a = some (.ins (He.ga K "Network") dx [("own_web", .ref w1), ("ground_told", .ref w1), ("own_hosts", .ref pH)]) := by rw [← hG] <;> exact upd_same
    have x1 : Ex (del a H) (del a G1) := by rw [← hG, del_put, del_put] <;> exact Ex.refl _
    clear hG
    refine ⟨.ref d, rfl, Evl.sz_of (by show 1 ≤ 100000; decide), fun ls hls => ⟨.ref a, rfl, a, _, dx, _, rfl, (Ex.new hls) _ _ a1, T.c_Network, T.n_Network_states, (by show 3 < 1000; decide), ?_⟩⟩
    have aL := (Ex.new (o := .lst [.ref d]) hls) _ _ a1
    generalize hG : upd (upd G1 ls _) a _ = G2
    have a2 : G2 a = some (.ins (He.ga K "Network") dx [("own_web", .ref w1), ("ground_told", .ref w1), ("own_hosts", .ref pH), ("states", .ref ls)]) := by rw [← hG] <;> exact upd_same
    have x2 : Ex (del a G1) (del a G2) := by rw [← hG, del_put] <;> exact del_mono (Ex.new hls)
    have l2 : del a G2 ls = some (.lst [.ref d]) := by
      rw [← hG, del_put]
      exact del_of upd_same aL (fun z => nomatch z)
    clear hG
    refine ⟨Evl.sz_of (by show 0 ≤ 100000; decide), fun lt hlt => ⟨.ref a, rfl, a, _, dx, _, rfl, (Ex.new hlt) _ _ a2, T.c_Network, T.n_Network_sent, (by show 4 < 1000; decide), ?_⟩⟩
    have aT := (Ex.new (o := .lst []) hlt) _ _ a2
    generalize hG : upd (upd G2 lt _) a _ = G3
    have a3 : G3 a = some (.ins (He.ga K "Network") dx [("own_web", .ref w1), ("ground_told", .ref w1), ("own_hosts", .ref pH), ("states", .ref ls), ("sent", .ref lt)]) := by rw [← hG] <;> exact upd_same
    have x3 : Ex (del a G2) (del a G3) := by rw [← hG, del_put] <;> exact del_mono (Ex.new hlt)
    have l3 : del a G3 lt = some (.lst []) := by
      rw [← hG, del_put]
      exact del_of upd_same aT (fun z => nomatch z)
    clear hG
    refine ⟨Evl.sz_of (by show 0 ≤ 100000; decide), fun lo hlo => ⟨.ref a, rfl, a, _, dx, _, rfl, (Ex.new hlo) _ _ a3, T.c_Network, T.n_Network_own_sights, (by show 5 < 1000; decide), ?_⟩⟩
    have x4 : Ex (del a G3) (del a (upd (upd G3 lo (.lst [])) a (.ins (He.ga K "Network") dx (netFs w1 pH ls lt lo)))) := by rw [del_put] <;> exact del_mono (Ex.new hlo)
    have x12 := x1.trans x2
    have x13 := x12.trans x3
    have nLo : lo ≠ a := fun z => by
      rw [z, a3] at hlo
      cases hlo
    refine k _ ls lt lo ((x13.trans x4).trans (del_ex a _)) upd_same (fresh_del x1 (Ex.refl _) a1 hls) (fresh_del x12 (Ex.refl _) a2 hlt) (fresh_del x13 (Ex.refl _) a3 hlo) (fun z => ?_) (fun z => ?_) (fun z => ?_) ?_ ?_ ?_
    · rw [z] at l2
      rw [(of_del l2).2] at hlt
      cases hlt
    · rw [z] at l2
      rw [(of_del (x3 _ _ l2)).2] at hlo
      cases hlo
    · rw [z] at l3
      rw [(of_del l3).2] at hlo
      cases hlo
    · exact (of_del (x4 _ _ (x3 _ _ l2))).2
    · exact (of_del (x4 _ _ l3)).2
    · show upd (upd G3 lo (.lst [])) a _ lo = _
      rw [upd_ne nLo]
      exact upd_same)
def spNetInit (K : PySem.W.Frag) : Sp := fun vs H Q _ => ∃ (a dx w : Addr) (W : WD), vs = [.ref a, .ref w] ∧ H a = some (.ins (He.ga K "Network") dx []) ∧ WebAt K H w W ∧ WOk W ∧
  ∀ H2 pH ls lt lo d, Ex (del a H) H2 → H2 a = some (.ins (He.ga K "Network") dx (netFs w pH ls lt lo)) → H2 pH = some (.tup (txs W.hs)) → H ls = none → H lt = none → H lo = none → ls ≠ lt → ls ≠ lo → lt ≠ lo →
    H2 ls = some (.lst [.ref d]) → StateAt H2 W d (fun _ => []) → H2 lt = some (.lst []) → H2 lo = some (.lst []) → Q .non H2
abbrev N_Network_init : List Str := ["self", "ground", "__class__", "host"]
theorem S_Network_init : NScope N_Network_init ["self", "ground"] ["__class__"] (defScope s_Network_init) := NdefX.nscope_by (by decide +kernel)
def spWebOf (K : PySem.W.Frag) : Sp := fun vs H Q _ => ∃ (w : Addr) (W : WD), vs = [.ref w] ∧ WebAt K H w W ∧ RetV (.ref w) H Q
theorem F_web_of (T : TX K mg) : FnR P w K mg bs CX0 1 (He.ga K "web_of") (spWebOf K) :=
  T.f_web_of.fn S_web_of (fun vs H Q E ⟨_, _, h, _⟩ => by rw [h] <;> rfl) (fun _ _ _ _ _ _ us hl => match us, hl with | [_], _ => rfl) (body0 fun cdv A outer s H vs Q E hr q => by
    obtain ⟨w1, W, rfl, hW, k⟩ := q
    refine ⟨_, (pss_cons (ps_if (pt_val (pe_callB call_isi (by rfl) T.b_isinstance (by decide +kernel) (pa_cons (pv 0) (pa_cons (pe_glob (v := .ref (He.ga K "Web")) (by rfl) T.g_Web rfl) pa_nil)))) (pss_one (ps_ret (pv 0))) pss_nil) (pss_cons (ps_if (pt_not (pt_val (pe_callB call_isi (by rfl) T.b_isinstance (by decide +kernel) (pa_cons (pv 0) (pa_cons (pe_glob (v := .ref (He.ga K "Tree")) (by rfl) T.g_Tree rfl) pa_nil))))) pss_never pss_nil) (pss_one ps_never))), ?_⟩
    obtain ⟨dx, x0, pL, pH, dP, pS, dS, dG, rs, sd, gd, h1, _⟩ := hW
    exact ⟨.ref w1, rfl, .ref w1, .ref (He.ga K "Web"), .ref (He.ga K "Web"), .ref (He.ga K "Web"), true, rfl, .own _, ty_ins h1 T.c_Web T.q_Web, T.is_Web_Web, true, rfl, iteT ⟨.ref w1, rfl, k _ (Ex.refl _)⟩⟩)
theorem F_Network (T : TX K mg) (U : TY P K) : FnR P w K mg bs CX0 4 (He.ma K (He.ga K "Network") "__init__") (spNetInit K) := by
  obtain ⟨oc, od, osl, kV, doc, pm, an, c, ct, cc, o, oc2, vs0, file, tf, lk, hcd, hcc, hcl, hc2, hd2, hv2, hf⟩ := U.net.at_
  refine fnS_of (N := N_Network_init) lk hcd hcc hcl S_Network_init (fun vs H Q E ⟨_, _, _, _, h, _⟩ => by rw [h] <;> rfl) (fun us hl => match us, hl with | [_, _], _ => rfl) fun A outer s H vs Q E hr q => ?_
  obtain ⟨a, dx, w1, W, rfl, ha, hW, ok, k⟩ := q
  have SUP : SupOk P K mg (envF ⟨"__init__", "Network.__init__", defArgs s_Network_init, defBody s_Network_init, defScope s_Network_init, [("__class__", cc)], c⟩ (He.ma K (He.ga K "Network") "__init__") s.heap.objs.size) "self" (He.ga K "Network") (He.ga K "Network") (He.ma K (He.ga K "Player") "__init__") :=
    ⟨rfl, rfl, rfl, ⟨_, _, _, _, _, _, rfl, lk, rfl, rfl⟩, ⟨c, oc2, vs0, file, tf, rfl, hc2, hd2, hv2, hf⟩, U.top, T.b_super, ⟨cc, o, rfl, hcc, hcl⟩, U.cls, U.sub, U.any, U.sup, U.ty, U.fi⟩
  refine ⟨_, (at_cons (psat_of (ps_fld (pv 0) (pe_callR (F_web_of T) (hr.mono (by decide)) T.f_web_of.kp T.g_web_of pass0 (pa_cons (pv 1) pa_nil)) rfl)) (at_cons (ps_super (i := 0) SUP rfl rfl (F_Player_init T) (hr.mono (by decide)) pass0 (pa_cons (pe_fld (pv 0) rfl) (pa_cons (pe_propR (pe_fld (pv 0) rfl) T.c_Web T.p_Web_hosts (F_Web_hosts T) (hr.mono (by decide)) pass0) (pa_cons (pe_dc (own := [("host", 3)]) rfl S_Network_init.nd (pi_tup (pe_propR (pe_fld (pv 0) rfl) T.c_Web T.p_Web_hosts (F_Web_hosts T) (hr.mono (by decide)) pass0)) (blkOk_by (N := N_Network_init) (sc := defScope s_Network_init) (by decide +kernel)) (fun _ _ _ _ _ => (pg_name (i := 3) S_Network_init.nd rfl (Or.inl rfl))) (fun _ _ _ _ _ => pts_nil) (fun _ _ _ _ _ => (pv 3)) (fun _ _ _ _ _ => pe_dnewK)) pa_nil)))) at_nil)), ?_⟩
  obtain ⟨dw, x0, pL, pH, dP, pS, dS, dG, rs, sd, gd, h1, hx, h3, h4, h5, h6, h7, h8, h9, h10, h11⟩ := id hW
  refine ⟨.ref w1, rfl, w1, W, rfl, hW, fun H1 e1 => ⟨.ref a, rfl, a, _, dx, [], rfl, e1 _ _ ha, T.c_Network, T.n_Network_own_web, by decide, ?_⟩⟩
  generalize hG : upd H1 a _ = G1
  have a1 : G1 a = some (.ins (He.ga K "Network") dx [("own_web", .ref w1)]) := by rw [← hG] <;> exact upd_same
  have x1 : Ex (del a H) (del a G1) := by rw [← hG, del_put] <;> exact del_mono e1
  clear hG
  have w2 : G1 w1 = some (.ins (He.ga K "Web") dw (webFs pL pH dP pS dS dG ++ x0)) := (of_del (x1 _ _ (del_of h1 ha (fun z => by injection z with _ _ z; cases z)))).2
  have p2 : G1 pH = some (.tup (txs W.hs)) := (of_del (x1 _ _ (del_of h5 ha (fun z => nomatch z)))).2
  have few := ok.few
  refine ⟨a, dx, _, rfl, a1, .ref a, rfl, a, _, dx, _, .ref w1, rfl, a1, T.c_Network, T.n_Network_own_web, rfl, .ref a, rfl, a, _, dx, _, .ref w1, rfl, a1, T.c_Network, T.n_Network_own_web, rfl, w1, dw, _, rfl, w2, w1, dw, _, .ref pH, rfl, w2, rfl,
    .ref a, rfl, a, _, dx, _, .ref w1, rfl, a1, T.c_Network, T.n_Network_own_web, rfl, w1, dw, _, rfl, w2, w1, dw, _, .ref pH, rfl, w2, rfl, pH, rfl, ⟨_, .inl (.inl p2)⟩,
    fun D hD => dcW walk_tup hD (fun i acc H' => acc.map (·.1) = (W.hs.take i).map Sum.inr ∧ ∀ h ∈ W.hs.take i, ∃ l, valV acc (.inr h) = some (.ref l) ∧ H' l = some (.dK [])) (by rw [txs_len]; omega) ⟨rfl, fun h hh => nomatch hh⟩ (fun H' e => Evl.ex_t e (.inl (.inl p2))) ?_ ?_⟩
  · intro i acc Hi Ha hi r e1 e2 C C0 hC _ x Hb ⟨h1, hx⟩
    subst h1
    obtain ⟨y, hy, rfl⟩ := txs_get hx
    obtain ⟨nm2, et⟩ := take_nodup ok.nd hy
    have no : valV acc (.inr y) = none := valV_no (by rw [r.1]; exact fun z => nm2 (by obtain ⟨u, hu, e⟩ := List.mem_map.mp z; rw [← Sum.inr.inj e]; exact hu))
    refine ⟨rfl, yes ⟨.str y, rfl, fun d hd => hC (.inr y) _ _ (Ex.new hd) fun H5 kp => ?_⟩⟩
    rw [et]
    refine ⟨by rw [putK_new _ no, List.map_append, r.1, List.map_append] <;> rfl, fun h hh => ?_⟩
    by_cases c : h = y
    · subst c
      exact ⟨d, by rw [valV_put, if_pos rfl], kp.new upd_same hd⟩
    · have hm : h ∈ W.hs.take i := by
        rcases List.mem_append.mp hh with q | q
        · exact q
        · exact absurd (List.mem_singleton.mp q) c
      obtain ⟨l, v2, g2⟩ := r.2 h hm
      exact ⟨l, by rw [valV_put, if_neg (fun z => c (Sum.inr.inj z))]; exact v2, kp.ex e2 (Ex.new hd) _ _ g2⟩
  intro acc H4 _ r e4 _ H5 e5 h5'
  rw [txs_len, List.take_length] at r
  have e45 := e4.trans e5
  have a5 := e45 _ _ a1
  refine ⟨a, dx, w1, pH, D, rfl, a5, fun H2 ls lt lo e2 ha2 n1 n2 n3 d1 d2 d3 l1 l2 l3 => ?_⟩
  have xs : Ex (del a H) (del a H5) := x1.trans (del_mono e45)
  refine k H2 pH ls lt lo D (xs.trans e2) ha2 (e2 _ _ (xs _ _ (del_of h5 ha (fun z => nomatch z)))) (fresh_del x1 e45 a1 n1) (fresh_del x1 e45 a1 n2) (fresh_del x1 e45 a1 n3) d1 d2 d3 l1 ⟨acc, e2 _ _ (del_of h5' a5 (fun z => nomatch z)), r.1, fun h hh => ?_⟩ l2 l3
  obtain ⟨l, v2, g2⟩ := r.2 h hh
  exact ⟨l, v2, e2 _ _ (del_of (e5 _ _ g2) a5 (fun z => nomatch z))⟩
end SfW
namespace SfW
open PySem PySem.Spec PyProof.Rows L2
open Evl (Ex RetV)
/-! networks: a frame's way -/
variable {P : Program} {w : World} {K : PySem.W.Frag} {mg : Str → Option Value} {bs : Heap}
theorem F_Network_web (T : TX K mg) : FnR P w K mg bs CX0 1 (pgA K (He.ga K "Network") "web") (getR (He.ga K "Network") "own_web") :=
  T.f_Network_web.fn S_Network_web (fun vs H Q E ⟨_, _, _, _, h, _⟩ => by rw [h] <;> rfl) (fun _ _ _ _ _ _ us hl => match us, hl with | [_], _ => rfl) (body0 fun cdv A outer s H vs Q E hr q => by
    obtain ⟨a, dx, fs, v, rfl, ha, hv, k⟩ := q
    exact ⟨_, (pss_one (ps_ret (pe_fld (pv 0) rfl))), .ref a, rfl, a, _, dx, fs, v, rfl, ha, T.c_Network, T.n_Network_own_web, hv, k⟩)
theorem F_Player_hosts (T : TX K mg) : FnR P w K mg bs CX0 1 (pgA K (He.ga K "Network") "hosts") (getR (He.ga K "Network") "own_hosts") :=
  T.f_Player_hosts.fn S_Player_hosts (fun vs H Q E ⟨_, _, _, _, h, _⟩ => by rw [h] <;> rfl) (fun _ _ _ _ _ _ us hl => match us, hl with | [_], _ => rfl) (body0 fun cdv A outer s H vs Q E hr q => by
    obtain ⟨a, dx, fs, v, rfl, ha, hv, k⟩ := q
    exact ⟨_, (pss_one (ps_ret (pe_fld (pv 0) rfl))), .ref a, rfl, a, _, dx, fs, v, rfl, ha, T.c_Network, T.n_Network_own_hosts, hv, k⟩)
/-- a network of the web W, whatever it has seen -/
def NetI (K : PySem.W.Frag) (H : Hp) (a : Addr) (W : WD) : Prop := ∃ dx w pH ls lt lo, H a = some (.ins (He.ga K "Network") dx (netFs w pH ls lt lo)) ∧ WebAt K H w W ∧ H pH = some (.tup (txs W.hs))
theorem NetI.mono {H H' : Hp} {a : Addr} {W : WD} (h : NetI K H a W) (e : Ex H H') : NetI K H' a W := by
  obtain ⟨dx, w, pH, ls, lt, lo, h1, h2, h3⟩ := h
  exact ⟨dx, w, pH, ls, lt, lo, e _ _ h1, h2.mono e, e _ _ h3⟩
theorem netFs_no {w pH ls lt lo : Addr} {m : Str} (h : ("own_web" : Str) ≠ m ∧ ("ground_told" : Str) ≠ m ∧ ("own_hosts" : Str) ≠ m ∧ ("states" : Str) ≠ m ∧ ("sent" : Str) ≠ m ∧ ("own_sights" : Str) ≠ m) : (netFs w pH ls lt lo).lookup m = none := by
  obtain ⟨h1, h2, h3, h4, h5, h6⟩ := h
  have no : ∀ (k : Str) (v : V) (r : List (Str × V)), k ≠ m → List.lookup m ((k, v) :: r) = List.lookup m r := fun k v r hk => by
    rw [List.lookup_cons]
    rw [show (m == k) = false from beq_eq_false_iff_ne.mpr (Ne.symm hk)]
  unfold netFs
  rw [no _ _ _ h1, no _ _ _ h2, no _ _ _ h3, no _ _ _ h4, no _ _ _ h5, no _ _ _ h6]
  rfl
theorem pV_inj {p q : Pt} : pV p = pV q ↔ p = q := by
  constructor
  · intro h
    cases p <;> cases q <;> simp [pV] at h ⊢ <;> exact h
  · rintro rfl
    rfl
theorem pV_flat (p : Pt) : flatV (pV p) = true := by cases p <;> rfl
theorem pV_scal (p q : Pt) : scal (pV p) (pV q) = true := by cases p <;> cases q <;> rfl
theorem camK_val (m : List (Int × Pt)) (s : Int) : valV (camK m) (.inl s) = (m.lookup s).map pV := by
  induction m with
  | nil => rfl
  | cons e r ih =>
    obtain ⟨a, p⟩ := e
    show valV ((Sum.inl a, pV p) :: camK r) (.inl s) = _
    rw [SfM.lookup_cons]
    by_cases c : s = a
    · rw [if_pos c, valV_pos (p := ((.inl a : Key), pV p)) (by rw [c])]
      rfl
    · rw [if_neg c, valV_neg (p := ((.inl a : Key), pV p)) (fun z => c (Sum.inl.inj z).symm)]
      exact ih
theorem putK_ne {k j : Key} {v u : V} {r : List (Key × V)} (h : j ≠ k) : putK ((j, u) :: r) k v = (j, u) :: putK r k v := by
  unfold putK
  rw [List.any_cons, show decide (j = k) = false from decide_eq_false h, Bool.false_or]
  split
  · rw [List.map_cons, if_neg h]
  · rfl
theorem putK_eq {k : Key} {v u : V} {r : List (Key × V)} (h : k ∉ r.map (·.1)) : putK ((k, u) :: r) k v = (k, v) :: r := by
  unfold putK
  rw [List.any_cons, decide_eq_true rfl, Bool.true_or, if_pos rfl, List.map_cons, if_pos rfl]
  congr 1
  have : ∀ p ∈ r, (if p.1 = k then (p.1, v) else p) = p := fun p hp => if_neg fun z => h (by rw [← z]; exact List.mem_map_of_mem (f := fun q : Key × V => q.1) hp)
  rw [List.map_congr_left this, List.map_id']
theorem camK_keys (m : List (Int × Pt)) : (camK m).map (·.1) = m.map fun e => Sum.inl e.1 := by
  unfold camK
  rw [List.map_map] <;> rfl
theorem camK_put (s : Int) (p : Pt) : ∀ m : List (Int × Pt), (m.map (·.1)).Nodup → putK (camK m) (.inl s) (pV p) = camK (SfM.put m s p)
  | [], _ => rfl
  | (a, b) :: r, h => by
    rw [List.map_cons, List.nodup_cons] at h
    rw [show SfM.put ((a, b) :: r) s p = (if a = s then (a, p) :: r else (a, b) :: SfM.put r s p) from rfl]
    show putK ((Sum.inl a, pV b) :: camK r) (.inl s) (pV p) = _
    by_cases c : a = s
    · subst c
      rw [if_pos rfl, putK_eq (by
        rw [camK_keys]
        exact fun z => by
          obtain ⟨e, he, q⟩ := List.mem_map.mp z
          exact h.1 (List.mem_map.mpr ⟨e, he, Sum.inl.inj q⟩))]
      rfl
    · rw [if_neg c, putK_ne (fun z => c (Sum.inl.inj z)), camK_put s p r h.2]
      rfl
def spPorts (K : PySem.W.Frag) : Sp := fun vs H Q _ => ∃ (a d : Addr) (W : WD) (m : SfM.Mem Str) (s : Int) (port : Pt) (tgt : Option Str), vs = [.ref a, .ref d, .int s, pV port, oV tgt] ∧ NetI K H a W ∧ WOk W ∧ StateAt H W d m ∧ s ∈ W.S ∧ (∀ t, tgt = some t → t ∈ W.hs) ∧
  ∀ l H2, H l = none → Ex H H2 → H2 l = some (.lst ((SfM.outs W.L (SfM.guestsAt W.hs W.pl) ((SfM.memOf m tgt).lookup s) s port).map pV)) → Q (.ref l) H2
theorem F_ports_out (T : TX K mg) : FnR P w K mg bs CX0 1 (He.ma K (He.ga K "Network") "ports_out") (spPorts K) :=
  T.f_ports_out.fn S_ports_out (fun vs H Q E ⟨_, _, _, _, _, _, _, h, _⟩ => by rw [h] <;> rfl) (fun _ _ _ _ _ _ us hl => match us, hl with | [_, _, _, _, _], _ => rfl) (body0 fun cdv A outer s H vs Q E hr q => by
    obtain ⟨a, d, W, m, sw, port, tgt, rfl, hN, ok, hS, hs, ht, k⟩ := q
    have hu := hu_of hr
    refine ⟨_, (pss_cons (ps_if (PW.pt (pw_and (pt_cmpR op_notN (pv 4) pe_non (nomark _)) (pw_and1 (pt_cmp (pc_din hu (pv 2) (pe_dget hu (pv 1) (pv 4) (fun _ _ => rfl))))))) (pss_one (ps_ret (pe_lst (pa_cons (pe_dget hu (pe_dget hu (pv 1) (pv 4) (fun _ _ => rfl)) (pv 2) (fun _ _ => rfl)) pa_nil)))) pss_nil) (pss_cons (ps_set (i := 5) S_ports_out.nd rfl (Or.inl rfl) (pe_lst (StX.pa_star (pe_dget hu (pe_fld (pe_fld (pv 0) rfl) rfl) (pv 2) (fun _ _ => rfl)) (StX.pa_star (pe_dget hu (pe_fld (pe_fld (pv 0) rfl) rfl) (pv 2) (fun _ _ => rfl)) pa_nil)))) (pss_one (ps_ret (pe_lc (own := [("one", 6)]) rfl S_ports_out.nd (pi_list (pv 5)) (blkOk_by (N := N_ports_out) (sc := defScope s_ports_out) (by decide +kernel)) (fun _ _ _ _ _ => (pg_name (i := 6) S_ports_out.nd rfl (Or.inl rfl))) (fun _ _ _ _ _ => pts_one (pt_cmpR op_ne (pv 6) (pv 3) (nomark _))) (fun _ _ _ _ _ => (pv 6))))))), ?_⟩
    obtain ⟨dx, w1, pH, ls, lt, lo, ha, hW, hpH⟩ := hN
    obtain ⟨kvs, hd, hks, hm⟩ := hS
    cases hk : (SfM.memOf m tgt).lookup sw with
    | some p =>
      rw [hk] at k
      cases tgt with
      | none => cases hk
      | some t =>
        obtain ⟨l, hv, hl⟩ := hm t (ht t rfl)
        have hq : valV (camK (m t)) (.inl sw) = some (pV p) := by
          rw [camK_val, show List.lookup sw (m t) = some p from hk]
          rfl
        refine ⟨.str t, rfl, rfl, _, rfl, iteT ⟨.int sw, rfl, .ref d, rfl, .str t, rfl, d, .ref l, rfl, .inl ⟨kvs, .inr t, .inl hd, rfl, hv.symm⟩, l, some (pV p), rfl, .inl ⟨camK (m t), .inl sw, .inl hl, rfl, hq.symm⟩, true, rfl, iteT ?_⟩⟩
        exact ⟨.ref d, rfl, .str t, rfl, d, .ref l, rfl, .inl ⟨kvs, .inr t, .inl hd, rfl, hv.symm⟩, .int sw, rfl, l, pV p, rfl, .inl ⟨camK (m t), .inl sw, .inl hl, rfl, hq.symm⟩, Evl.sz_of (by show 1 ≤ 100000; decide), fun q hq => k q _ hq (Ex.new hq) upd_same⟩
    | none =>
      rw [hk] at k
      obtain ⟨dw, x0, pL, pH2, dP, pS, dS, dG, rs, sd, gd, h1, hx, h3, h4, h5, h6, h7, h8, h9, h10, h11⟩ := hW
      obtain ⟨l1, v1, g1⟩ := h9 sw hs
      obtain ⟨l2, v2, g2⟩ := h11 sw hs
      rcases tgt with _ | t
      refine ⟨.non, rfl, rfl, _, rfl, iteF (iteF ?_)⟩
      rotate_left
      obtain ⟨l, hv, hl⟩ := hm t (ht t rfl)
      have hq : valV (camK (m t)) (.inl sw) = none := by
        rw [camK_val, show List.lookup sw (m t) = none from hk]
        rfl
      refine ⟨.str t, rfl, rfl, _, rfl, iteT ⟨.int sw, rfl, .ref d, rfl, .str t, rfl, d, .ref l, rfl, .inl ⟨kvs, .inr t, .inl hd, rfl, hv.symm⟩, l, none, rfl, .inl ⟨camK (m t), .inl sw, .inl hl, rfl, hq.symm⟩, false, rfl, iteF ?_⟩⟩
      all_goals
        have nl1 : (SfM.nextTo W.L sw).length ≤ 50 := by
          unfold SfM.nextTo
          rw [List.length_map]
          exact Nat.le_trans (List.length_filter_le _ _) ok.fewL
        have nl2 : (SfM.guestsAt W.hs W.pl sw).length ≤ 31 := Nat.le_trans (List.length_filter_le _ _) ok.few
        obtain ⟨ps, hps⟩ : ∃ ps : List Pt, ps = (SfM.nextTo W.L sw).map Sum.inl ++ (SfM.guestsAt W.hs W.pl sw).map Sum.inr := ⟨_, rfl⟩
        have ev : (SfM.nextTo W.L sw).map V.int ++ (txs (SfM.guestsAt W.hs W.pl sw) ++ []) = ps.map pV := by
          rw [hps, List.append_nil, List.map_append, List.map_map, List.map_map] <;> rfl
        have lp : ps.length ≤ 81 := by
          rw [hps, List.length_append, List.length_map, List.length_map]
          omega
        refine ⟨.ref a, rfl, a, _, dx, _, .ref w1, rfl, ha, T.c_Network, T.n_Network_own_web, rfl, w1, _, dw, _, .ref dS, rfl, h1, T.c_Web, T.n_Web_sides, rfl, .int sw, rfl, dS, .ref l1, rfl, .inl ⟨sd, .inl sw, .inl h8, rfl, v1.symm⟩, l1, _, rfl, .inr (.inl (.inl g1)),
          .ref a, rfl, a, _, dx, _, .ref w1, rfl, ha, T.c_Network, T.n_Network_own_web, rfl, w1, _, dw, _, .ref dG, rfl, h1, T.c_Web, T.n_Web_guests, rfl, .int sw, rfl, dG, .ref l2, rfl, .inl ⟨gd, .inl sw, .inl h10, rfl, v2.symm⟩, l2, _, rfl, .inr (.inl (.inl g2)), ?_⟩
        refine ⟨Evl.sz_of (by show ((SfM.nextTo W.L sw).map V.int ++ (txs (SfM.guestsAt W.hs W.pl sw) ++ [])).length ≤ _; rw [ev, List.length_map]; omega), fun q hq => ?_⟩
        have e1 : ∀ o : HO, Ex H (upd H q o) := fun o => Ex.new hq
        refine ⟨.ref q, rfl, q, rfl, ⟨_, .inl (.inl upd_same)⟩, fun D hD => lcFM (walk_list (xs := ps.map pV)) hD (fun v => !decide (v = pV port)) id (by rw [List.length_map]; omega) (fun H' e => Evl.ex_l e (.inl (.inl (upd_same.trans (congrArg (fun z => some (HO.lst z)) ev))))) ?_ ?_⟩
        · intro i x Ha hx e C C0 hC hC0
          rw [List.getElem?_map] at hx
          obtain ⟨o, ho, rfl⟩ := Option.map_eq_some_iff.mp hx
          refine ⟨rfl, pV o, rfl, pV port, rfl, pV_scal o port, _, rfl, ?_⟩
          by_cases c : pV o = pV port
          · exact iteNY c (hC0 (by rw [decide_eq_true c]; rfl) _ (Ex.refl _))
          · exact iteNZ c ⟨pV o, rfl, hC (by rw [decide_eq_false c]; rfl) _ (Ex.refl _)⟩
        · intro H2 e2 h2
          refine k D H2 (Evl.fresh_back (e1 _) hD) ((e1 _).trans e2) ?_
          rw [h2, List.map_id, List.filter_map]
          show _ = some (HO.lst (((((SfM.nextTo W.L sw).map Sum.inl ++ (SfM.guestsAt W.hs W.pl sw).map Sum.inr).filter fun o => decide (o ≠ port))).map pV))
          rw [← hps]
          congr 3
          refine List.filter_congr fun o _ => ?_
          show (!decide (pV o = pV port)) = decide (o ≠ port)
          by_cases c : o = port
          · rw [c]
            simp
          · rw [decide_eq_true c, decide_eq_false (fun z => c (pV_inj.mp z))]
            rfl)
end SfW
namespace SfW
open PySem PySem.Spec PyProof.Rows L2
open Evl (Ex RetV)
/-! networks: a frame's passage -/
variable {P : Program} {w : World} {K : PySem.W.Frag} {mg : Str → Option Value} {bs : Heap}
abbrev Itm := Int × Pt
def ItemsAt (H : Hp) (refs : List V) (is : List Itm) : Prop := Paired (fun v (i : Itm) => ∃ p, v = V.ref p ∧ H p = some (.tup [.int i.1, pV i.2])) refs is
theorem ItemsAt.mono {H H' : Hp} {refs : List V} {is : List Itm} (h : ItemsAt H refs is) (e : Ex H H') : ItemsAt H' refs is := Paired.mapP h fun v f ⟨b, h1, h2⟩ => ⟨b, h1, e _ _ h2⟩
theorem ItemsAt.put {H : Hp} {refs : List V} {is : List Itm} {l : Addr} {u o : HO} (h : ItemsAt H refs is) (hl : H l = some u) (hu : ∀ xs, u ≠ .tup xs) : ItemsAt (upd H l o) refs is := Paired.mapP h fun v f ⟨b, h1, h2⟩ => ⟨b, h1, by
  rw [upd_ne (ne_of h2 hl (fun z => hu _ z.symm))]
  exact h2⟩
def pD : Pt → PyData
  | .inl i => .int i
  | .inr s => .str s
theorem dp_pV {H : Hp} (p : Pt) : Dp K H (pV p) (pD p) := by
  cases p with
  | inl i => exact .int i
  | inr s => exact .str s
def itD (i : Itm) : PyData := .tuple [.int i.1, pD i.2]
theorem dp_items {H : Hp} : ∀ {refs : List V} {is : List Itm}, ItemsAt H refs is → DpAll K H refs (is.map itD)
  | _, _, .nil => .nil
  | _, _, .cons h t => by
    obtain ⟨p, rfl, hp⟩ := h
    exact .cons (.tup (.inl (.inl hp)) (.cons (.int _) (.cons (dp_pV _) .nil))) (dp_items t)
def ItOk (i : Itm) : Prop := ∀ h, i.2 = .inr h → NameOk h
theorem lay_items : ∀ {is : List Itm}, (∀ i ∈ is, ItOk i) → PyData.canLayAll0 (is.map itD) = true ∧ PyData.depthAll (is.map itD) ≤ 1
  | [], _ => ⟨rfl, Nat.zero_le _⟩
  | (a, p) :: is, h => by
    obtain ⟨h1, h2⟩ := lay_items fun i hi => h i (List.mem_cons_of_mem _ hi)
    have hp : PyData.canLayAll0 [PyData.int a, pD p] = true ∧ PyData.depthAll [PyData.int a, pD p] = 0 := by
      cases p with
      | inl i => exact ⟨rfl, rfl⟩
      | inr s =>
        have q := name_str (h (a, .inr s) List.mem_cons_self s rfl)
        refine ⟨?_, rfl⟩
        show (true && (PyData.strOk s && true)) = true
        rw [q]
        rfl
    refine ⟨?_, ?_⟩
    · show (PyData.canLayAll0 [PyData.int a, pD p] && PyData.canLayAll0 (is.map itD)) = true
      rw [h1, hp.1]
      rfl
    · show max (PyData.depthAll [PyData.int a, pD p] + 1) (PyData.depthAll (is.map itD)) ≤ 1
      rw [hp.2]
      omega
theorem shaped_items {is : List Itm} (h : ∀ i ∈ is, ItOk i) : SeqAt.shaped (.list (is.map itD)) = true := by
  obtain ⟨h1, h2⟩ := lay_items h
  show (PyData.canLayAll0 (is.map itD) && decide (PyData.depthAll (is.map itD) + 1 ≤ 64)) = true
  rw [h1, decide_eq_true (by omega)]
  rfl
theorem outs_len {W : WD} (ok : WOk W) {known : Option Pt} {s : Int} {port : Pt} : (SfM.outs W.L (SfM.guestsAt W.hs W.pl) known s port).length ≤ 81 := by
  unfold SfM.outs
  cases known with
  | some p => exact (by decide : 1 ≤ 81)
  | none =>
    refine Nat.le_trans (List.length_filter_le _ _) ?_
    have n1 : (SfM.nextTo W.L s).length ≤ 50 := by
      unfold SfM.nextTo
      rw [List.length_map]
      exact Nat.le_trans (List.length_filter_le _ _) ok.fewL
    have n2 : (SfM.guestsAt W.hs W.pl s).length ≤ 31 := Nat.le_trans (List.length_filter_le _ _) ok.few
    rw [List.length_append, List.length_map, List.length_map]
    omega
theorem outs_in {W : WD} (ok : WOk W) {m : SfM.Mem Str} (mok : SfM.MemOk W.wb m) {tgt : Option Str} (ht : ∀ t, tgt = some t → t ∈ W.hs) {s : Int} {port : Pt} {t : Int} (h : .inl t ∈ SfM.outs W.L (SfM.guestsAt W.hs W.pl) ((SfM.memOf m tgt).lookup s) s port) : t ∈ W.S := by
  cases hk : (SfM.memOf m tgt).lookup s with
  | none =>
    rw [hk] at h
    obtain ⟨h1, _⟩ := List.mem_filter.mp h
    rcases List.mem_append.mp h1 with q | q
    · obtain ⟨t', q, e⟩ := List.mem_map.mp q
      cases e
      exact (ok.tree.next_in q).2.1
    · obtain ⟨_, _, e⟩ := List.mem_map.mp q
      cases e
  | some p =>
    rw [hk] at h
    have e : (.inl t : Pt) = p := by simpa [SfM.outs] using h
    subst e
    cases tgt with
    | none => cases hk
    | some u => exact (ok.tree.next_in (((mok u (ht u rfl)).1 s _ hk).2 t rfl).1).2.1
/-- the frame's way through the web: whom it comes to, and which ports it came from -/
def spPassage (K : PySem.W.Frag) : Sp := fun vs H Q _ => ∃ (a d fr : Addr) (W : WD) (m : SfM.Mem Str) (f : Fr), vs = [.ref a, .ref d, .ref fr] ∧ NetI K H a W ∧ WOk W ∧ StateAt H W d m ∧ SfM.MemOk W.wb m ∧ FrAt K H fr f.1 f.2 ∧ SfM.FrIn W.wb f ∧
  ∀ p H2 l c, H p = none → Ex H H2 → H2 p = some (.tup [.ref l, .ref c]) → H2 l = some (.lst (txs (SfM.wayOf W.wb m f).1)) → H2 c = some (.dK (camK (SfM.wayOf W.wb m f).2)) → Q (.ref p) H2
theorem F_passage (T : TX K mg) : FnR P w K mg bs CX0 2 (He.ma K (He.ga K "Network") "passage") (spPassage K) :=
  T.f_passage.fn S_passage (fun vs H Q E ⟨_, _, _, _, _, _, h, _⟩ => by rw [h] <;> rfl) (fun _ _ _ _ _ _ us hl => match us, hl with | [_, _, _], _ => rfl) (body0 fun cdv A outer s H vs Q E hr q => by
    obtain ⟨a, d, fr, W, m, f, rfl, hN, ok, hS, mok, hF, fin, k⟩ := q
    have hu := hu_of hr
    refine ⟨_, (pss_cons (ps_par (i := 3) (j := 4) (by rfl) S_passage.nd rfl rfl (by decide) rfl rfl (pa_cons (pe_lst pa_nil) (pa_cons pe_dnewK pa_nil)) (by rfl)) (pss_cons (ps_set (i := 5) S_passage.nd rfl (Or.inl rfl) (pe_lst (pa_cons (pe_tup (pa_cons (pe_methR (pe_fld (pv 0) rfl) T.c_Web T.m_Web_home (F_home T) (hr.mono (by decide)) pass0 (pa_cons (pe_fld (pv 2) rfl) pa_nil)) (pa_cons (pe_fld (pv 2) rfl) pa_nil))) pa_nil))) (pss_cons (ps_while PassesOwn.never (pt_cmpR (op_neD (hu64 hr)) (pv 5) (pe_lst pa_nil) (nomark _)) (pss_cons (ps_asg (pe_bm0 PySem.F.plainAttrs_list PySem.F.slot_list_pop PySem.F.type_list_pop mt_pop (pv 5)) (pg_tup (n := 2) (by rfl) (pgs_cons (pg_name (i := 6) S_passage.nd rfl (Or.inl rfl)) (pgs_cons (pg_name (i := 7) S_passage.nd rfl (Or.inl rfl)) pgs_nil)))) (pss_cons (ps_dput hu (pv 4) (pv 6) (pv 7) rfl) (pss_one (ps_for PassesOwn.never rfl (pi_list (pe_methR (pv 0) T.c_Network T.m_Network_ports_out (F_ports_out T) (hr.mono (by decide)) pass0 (pa_cons (pv 1) (pa_cons (pv 6) (pa_cons (pv 7) (pa_cons (pe_fld (pv 2) rfl) pa_nil)))))) (pg_name (i := 8) S_passage.nd rfl (Or.inl rfl)) (pss_one (ps_if (pt_val (pe_callB call_isi (by rfl) T.b_isinstance (by decide +kernel) (pa_cons (pv 8) (pa_cons (pe_bltn (v := .ty "str") (by rfl) T.b_str (by decide +kernel) rfl) pa_nil)))) (pss_one (ps_expr (pe_bm PySem.F.plainAttrs_list PySem.F.slot_list_append PySem.F.type_list_append mt_append (pv 3) (pa_cons (pv 8) pa_nil)))) (pss_one (ps_expr (pe_bm PySem.F.plainAttrs_list PySem.F.slot_list_append PySem.F.type_list_append mt_append (pv 5) (pa_cons (pe_tup (pa_cons (pv 8) (pa_cons (pv 6) pa_nil))) pa_nil))))))))))) (pss_one (ps_ret (pe_tup (pa_cons (pv 3) (pa_cons (pv 4) pa_nil)))))))), ?_⟩
    have wok : SfM.WbOk W.wb := ⟨ok.tree, ok.home⟩
    obtain ⟨hrun, hcame⟩ := SfM.way_ok wok mok fin
    obtain ⟨R, hR⟩ : ∃ R, R = SfM.wayOf W.wb m f := ⟨_, rfl⟩
    rw [← hR] at hrun k
    clear hcame
    have hrun : SfM.runP W.L (SfM.guestsAt W.hs W.pl) (SfM.memOf m f.2) W.S.length [(W.pl f.1, .inr f.1)] [] [] = some R := hrun
    obtain ⟨dx, w1, pH, ls, lt, lo, ha, hW, hpH⟩ := id hN
    obtain ⟨dw, x0, pL, pH2, dP, pS, dS, dG, rs, sd, gd, h1, hx, _⟩ := id hW
    obtain ⟨dxf, hF1⟩ := id hF
    have fewS := ok.fewS
    refine ⟨Evl.sz_of (by show 0 ≤ 100000; decide), fun lf hlf lc hlc => ⟨_, _, rfl, ?_⟩⟩
    have e0 : Ex H (upd (upd H lf (.lst [])) lc (.dK [])) := (Ex.new hlf).trans (Ex.new hlc)
    have nc : H lc = none := Evl.fresh_back (Ex.new hlf) hlc
    have nfc : lf ≠ lc := fun z => by
      rw [← z, upd_same] at hlc
      cases hlc
    refine ⟨.ref a, rfl, a, _, dx, _, .ref w1, rfl, e0 _ _ ha, T.c_Network, T.n_Network_own_web, rfl, w1, dw, _, rfl, e0 _ _ h1, webFs_no hx (by decide +kernel), .ref fr, rfl, fr, _, dxf, _, .str f.1, rfl, e0 _ _ hF1, T.c_Frame, T.n_Frame_sender, rfl,
      w1, W, f.1, rfl, hW.mono e0, fin.1, fun H1 e1 => ⟨.ref fr, rfl, fr, _, dxf, _, .str f.1, rfl, (e0.trans e1) _ _ hF1, T.c_Frame, T.n_Frame_sender, rfl, Evl.sz_of (by show 2 ≤ 100000; decide), fun t0 ht0 => ⟨Evl.sz_of (by show 1 ≤ 100000; decide), fun lw hlw => ?_⟩⟩⟩
    have e2 : Ex H (upd (upd H1 t0 (.tup [.int (W.pl f.1), .str f.1])) lw (.lst [.ref t0])) := e0.trans (e1.trans ((Ex.new ht0).trans (Ex.new hlw)))
    have n1 : Ex H1 (upd (upd H1 t0 (.tup [.int (W.pl f.1), .str f.1])) lw (.lst [.ref t0])) := (Ex.new ht0).trans (Ex.new hlw)
    have lf1 : H1 lf = some (.lst []) := e1 _ _ (by rw [upd_ne nfc]; exact upd_same)
    have lc1 : H1 lc = some (.dK []) := e1 _ _ upd_same
    have nw1 : H1 lw = none := Evl.fresh_back (Ex.new ht0) hlw
    have nw : H lw = none := Evl.fresh_back (e0.trans e1) nw1
    have nwf : lw ≠ lf := fun z => by
      rw [z, lf1] at nw1
      cases nw1
    have nwc : lw ≠ lc := fun z => by
      rw [z, lc1] at nw1
      cases nw1
    have ntw : t0 ≠ lw := fun z => by
      rw [← z, upd_same] at hlw
      cases hlw
    refine ⟨fun n σ' H' => ∃ ws seen came refs, Ex H H' ∧ H' lw = some (.lst refs) ∧ ItemsAt H' refs ws ∧ H' lf = some (.lst (txs seen)) ∧ H' lc = some (.dK (camK came)) ∧ SfM.runP W.L (SfM.guestsAt W.hs W.pl) (SfM.memOf m f.2) n ws seen came = some R ∧
      (∀ i ∈ ws, i.1 ∈ W.S ∧ ItOk i) ∧ (came.map (·.1)).Nodup ∧ ws.length + 100 * n ≤ 1 + 100 * W.S.length ∧ seen.length + 100 * n ≤ 100 * W.S.length ∧ came.length + n ≤ W.S.length ∧ ∃ x y z, σ' = [some (.ref a), some (.ref d), some (.ref fr), some (.ref lf), some (.ref lc), some (.ref lw), x, y, z], ⟨W.S.length, ?_⟩, ?_⟩
    · refine ⟨[(W.pl f.1, .inr f.1)], [], [], [.ref t0], e2, upd_same, .cons ⟨t0, rfl, by rw [upd_ne ntw]; exact upd_same⟩ .nil, n1 _ _ lf1, n1 _ _ lc1, hrun, fun i hi => ?_, List.nodup_nil, by show 1 + _ ≤ _; omega, by show 0 + _ ≤ _; omega, by show 0 + _ ≤ _; omega, none, none, none, rfl⟩
      obtain rfl := List.mem_singleton.mp hi
      exact ⟨ok.home _ fin.1, fun h e => by cases e; exact ok.nm _ fin.1⟩
    · intro n σ' H' ⟨ws, seen, came, refs, e4, hw, hL, hf, hc, hrn, hok, hnd, b1, b2, b3, x, y, z, hs⟩
      subst hs
      refine ⟨.ref lw, rfl, Evl.sz_of (by show 0 ≤ 100000; decide), fun ln hln => ?_⟩
      have eG : Ex H' (upd H' ln (.lst [])) := Ex.new hln
      have e5 : Ex H (upd H' ln (.lst [])) := e4.trans eG
      refine ⟨_, .list [], .lst (.inl (.inl (eG _ _ hw))) (dp_items (hL.mono eG)), .lst (.inl (.inl upd_same)) .nil, shaped_items fun i hi => (hok i hi).2, rfl, _, rfl, ?_⟩
      rcases (show ws = [] ∨ ∃ ps' e, ws = ps' ++ [e] from (List.eq_nil_or_concat ws).imp id fun ⟨l, b, h⟩ => ⟨l, b, by rw [h, List.concat_eq_append]⟩) with rfl | ⟨ws', ⟨sw, port⟩, rfl⟩
      · show if (!true) = true then _ else _
        refine iteF ?_
        rw [SfM.runP_nil] at hrn
        have hRR : (seen, came) = R := Option.some.inj hrn
        refine ⟨.ref lf, rfl, .ref lc, rfl, Evl.sz_of (by show 2 ≤ 100000; decide), fun p hp => ?_⟩
        have eP := e5.trans (Ex.new (o := HO.tup [V.ref lf, V.ref lc]) hp)
        refine k p _ lf lc (Evl.fresh_back e5 hp) eP upd_same ?_ ?_
        · rw [← hRR]
          exact (eG.trans (Ex.new hp)) _ _ hf
        · rw [← hRR]
          exact (eG.trans (Ex.new hp)) _ _ hc
      · have ev : PyData.eqv (.list ((ws' ++ [(sw, port)]).map itD)) (.list []) = false := by
          cases ws' with
          | nil => rfl
          | cons u r => rfl
        rw [ev]
        refine iteT ⟨_, fun _ _ z => z, ?_⟩
        cases n with
        | zero =>
          rw [SfM.runP_zero] at hrn
          cases hrn
        | succ n =>
        rw [SfM.runP_snoc] at hrn
        obtain ⟨refs', v, rfl, hL2, p, rfl, hp⟩ := paired_last (hL.mono eG)
        obtain ⟨hsS, hit⟩ := hok (sw, port) (by simp)
        have np : p ≠ lw := ne_of hp (eG _ _ hw) (fun z => nomatch z)
        have hw' := eG _ _ hw
        refine ⟨.ref lw, rfl, .inl ⟨rfl, _, .inl (.inl hw')⟩, lw, refs' ++ [.ref p], .ref p, rfl, rfl, hw', by simp, ?_⟩
        rw [List.dropLast_concat]
        have e6 : Ex H (upd (upd H' ln (.lst [])) lw (.lst refs')) := Evl.Ex.mut e5 nw
        refine ⟨p, _, rfl, .inl (.inl (by rw [upd_ne np]; exact hp)), rfl, _, _, rfl, _, _, rfl, rfl, ?_⟩
        have hc6 : upd (upd H' ln (.lst [])) lw (.lst refs') lc = some (.dK (camK came)) := by
          rw [upd_ne (Ne.symm nwc)]
          exact eG _ _ hc
        refine ⟨pV port, rfl, .ref lc, rfl, .int sw, rfl, lc, _, rfl, .inl ⟨camK came, .inl sw, hc6, rfl, Evl.sz_lt (by rw [show (camK came).length = came.length from List.length_map _]; omega), rfl⟩, ?_⟩
        rw [camK_put sw port came hnd]
        obtain ⟨H7, hH7⟩ : ∃ H7, H7 = upd (upd (upd H' ln (.lst [])) lw (.lst refs')) lc (.dK (camK (SfM.put came sw port))) := ⟨_, rfl⟩
        have e7 : Ex H H7 := by rw [hH7] <;> exact Evl.Ex.mut e6 nc
        have w7 : H7 lw = some (.lst refs') := by rw [hH7, upd_ne nwc] <;> exact upd_same
        have f7 : H7 lf = some (.lst (txs seen)) := by rw [hH7, upd_ne nfc, upd_ne (Ne.symm nwf)] <;> exact eG _ _ hf
        have c7 : H7 lc = some (.dK (camK (SfM.put came sw port))) := by rw [hH7] <;> exact upd_same
        have L7 : ItemsAt H7 refs' ws' := by rw [hH7] <;> exact (ItemsAt.put hL2 hw' (fun _ z => nomatch z)).put hc6 (fun _ z => nomatch z)
        rw [← hH7]
        clear hH7
        obtain ⟨os, hos⟩ : ∃ os, os = SfM.outs W.L (SfM.guestsAt W.hs W.pl) ((SfM.memOf m f.2).lookup sw) sw port := ⟨_, rfl⟩
        rw [← hos] at hrn
        have nLo := SfM.length_put sw port came
        have osl : os.length ≤ 81 := by
          rw [hos]
          exact outs_len ok
        have osIn : ∀ t, .inl t ∈ os → t ∈ W.S := fun t hto => by
          rw [hos] at hto
          exact outs_in ok mok fin.2 hto
        have tk : ∀ (j : Nat) (o : Pt), os[j]? = some o → os.take (j + 1) = os.take j ++ [o] := fun j o h => by rw [List.take_add_one, h] <;> rfl
        have plen : ∀ l : List Pt, (SfM.pushes sw l).length ≤ l.length := fun l => List.length_filterMap_le _ _
        have slen : ∀ l : List Pt, (SfM.sees l).length ≤ l.length := fun l => List.length_filterMap_le _ _
        have wl : (ws' ++ [(sw, port)]).length = ws'.length + 1 := by simp
        refine ⟨.ref a, rfl, a, dx, _, rfl, e7 _ _ ha, netFs_no (by decide +kernel), .ref d, rfl, .int sw, rfl, pV port, rfl, .ref fr, rfl, fr, _, dxf, _, oV f.2, rfl, e7 _ _ hF1, T.c_Frame, T.n_Frame_target, rfl, a, d, W, m, sw, port, f.2, rfl, hN.mono e7, ok, hS.mono e7, hsS, fin.2, fun lp H8 nlp e8 h8 => ⟨lp, rfl, ⟨_, .inl (.inl h8)⟩, ?_⟩⟩
        have e78 := e7.trans e8
        have nH : H lp = none := Evl.fresh_back e7 nlp
        have npw : lp ≠ lw := fun z => by
          rw [z, w7] at nlp
          cases nlp
        have npf : lp ≠ lf := fun z => by
          rw [z, f7] at nlp
          cases nlp
        rw [← hos] at h8
        refine for_list (xs := os.map pV) (fun j σ' Hx => ∃ refsx, Ex H Hx ∧ Hx lw = some (.lst refsx) ∧ ItemsAt Hx refsx (ws' ++ SfM.pushes sw (os.take j)) ∧ Hx lf = some (.lst (txs (seen ++ SfM.sees (os.take j)))) ∧ Hx lc = some (.dK (camK (SfM.put came sw port))) ∧ Hx lp = some (.lst (os.map pV)) ∧
          ∃ o, σ' = [some (.ref a), some (.ref d), some (.ref fr), some (.ref lf), some (.ref lc), some (.ref lw), some (.int sw), some (pV port), o]) ⟨refs', e78, e8 _ _ w7, ?_, ?_, e8 _ _ c7, h8, _, rfl⟩ (fun j σ' Hx _ p => ?_) ?_ ?_
        · rw [show SfM.pushes sw (os.take 0) = [] from rfl, List.append_nil]
          exact L7.mono e8
        · rw [show SfM.sees (os.take 0) = [] from rfl, List.append_nil]
          exact e8 _ _ f7
        · obtain ⟨_, _, _, _, _, _, q, _⟩ := p
          exact .inl (.inl q)
        · intro j x σ' Hx hxj ⟨refsx, g1, g2, g3, g4, g5, g6, o0, hs⟩
          subst hs
          rw [List.getElem?_map] at hxj
          obtain ⟨o, ho, rfl⟩ := Option.map_eq_some_iff.mp hxj
          have jl : j < os.length := (List.getElem?_eq_some_iff.mp ho).1
          have r1 : refsx.length = (ws' ++ SfM.pushes sw (os.take j)).length := Paired.length g3
          have p1 := plen (os.take j)
          have s1 := slen (os.take j)
          rw [List.length_take] at p1 s1
          rw [List.length_append] at r1
          cases o with
          | inl t =>
            refine ⟨.int t, rfl, .int t, .ty "str", .type "int", .type "str", false, rfl, .ty _, .base (.int _), kit_ty (by decide +kernel), false, rfl, iteF ?_⟩
            refine ⟨.ref lw, rfl, .inl ⟨rfl, _, .inl (.inl g2)⟩, .int t, rfl, .int sw, rfl, Evl.sz_of (by show 2 ≤ 100000; decide), fun z hz => ?_⟩
            have nz : z ≠ lw := fun e => by
              rw [e, g2] at hz
              cases hz
            refine ⟨lw, refsx, .ref z, rfl, rfl, (Ex.new hz) _ _ g2, Evl.sz_lt (by omega), ?_⟩
            refine ⟨refsx ++ [.ref z], Evl.Ex.mut (g1.trans (Ex.new hz)) nw, upd_same, ?_, ?_, ?_, ?_, _, rfl⟩
            · rw [tk j _ ho, show SfM.pushes sw (os.take j ++ [.inl t]) = SfM.pushes sw (os.take j) ++ [(t, .inl sw)] by unfold SfM.pushes; rw [List.filterMap_append] <;> rfl, ← List.append_assoc]
              exact paired_snoc (ItemsAt.put (g3.mono (Ex.new hz)) ((Ex.new hz) _ _ g2) (fun _ z => nomatch z)) ⟨z, rfl, by rw [upd_ne nz]; exact upd_same⟩
            · rw [tk j _ ho, show SfM.sees (os.take j ++ [.inl t]) = SfM.sees (os.take j) by unfold SfM.sees; rw [List.filterMap_append]; exact List.append_nil _, upd_ne (Ne.symm nwf)]
              exact (Ex.new hz) _ _ g4
            · rw [upd_ne (Ne.symm nwc)]
              exact (Ex.new hz) _ _ g5
            · rw [upd_ne npw]
              exact (Ex.new hz) _ _ g6
          | inr t =>
            refine ⟨.str t, rfl, .str t, .ty "str", .type "str", .type "str", true, rfl, .ty _, .base (.str _), kit_ty (by decide +kernel), true, rfl, iteT ?_⟩
            refine ⟨.ref lf, rfl, .inl ⟨rfl, _, .inl (.inl g4)⟩, .str t, rfl, lf, _, .str t, rfl, rfl, g4, Evl.sz_lt (by rw [txs_len, List.length_append]; omega), ?_⟩
            refine ⟨refsx, Evl.Ex.mut g1 (Evl.fresh_back (Ex.refl _) hlf), by rw [upd_ne nwf]; exact g2, ?_, ?_, ?_, ?_, _, rfl⟩
            · rw [tk j _ ho, show SfM.pushes sw (os.take j ++ [.inr t]) = SfM.pushes sw (os.take j) by unfold SfM.pushes; rw [List.filterMap_append]; exact List.append_nil _]
              exact g3.put g4 (fun _ z => nomatch z)
            · rw [tk j _ ho, show SfM.sees (os.take j ++ [.inr t]) = SfM.sees (os.take j) ++ [t] by unfold SfM.sees; rw [List.filterMap_append] <;> rfl, upd_same, ← List.append_assoc]
              simp [txs]
            · rw [upd_ne (Ne.symm nfc)]
              exact g5
            · rw [upd_ne npf]
              exact g6
        · intro σ' Hx ⟨refsx, g1, g2, g3, g4, g5, g6, o0, hs⟩
          subst hs
          rw [List.length_map, List.take_length] at g3 g4
          have p1 := plen os
          have s1 := slen os
          refine ⟨n, Nat.lt_succ_self n, ws' ++ SfM.pushes sw os, seen ++ SfM.sees os, SfM.put came sw port, refsx, g1, g2, g3, g4, g5, hrn, fun i hi => ?_, SfM.nodup_put hnd, ?_, ?_, ?_, _, _, _, rfl⟩
          · rcases List.mem_append.mp hi with q | q
            · exact hok i (List.mem_append_left _ q)
            · obtain ⟨t, h1, rfl⟩ := SfM.mem_pushes q
              exact ⟨osIn t h1, fun h e => by cases e⟩
          · rw [List.length_append]
            omega
          · rw [List.length_append]
            omega
          · omega)
end SfW
/-! {**d, ..}: one dict poured into another -/
namespace SfW
open PySem PySem.Spec PyProof.Rows L2
section
variable {P : Program} {w : World} {A : Around} {E : Value → Shared → Prop} {s : Shared}
abbrev kM (P : Program) (w : World) := mixKind P w
theorem wpAny_put {d : Addr} {ks : List (Key × Value)} {k : Key} {kv v : Value} {Q : Unit → Shared → Prop} (hkey : (kM P w).is k kv = true) (hm : s.heap.DictOf (kM P w) d ks) (hsz : ks.length ≤ sizeLine)
    (hQ : ∀ h2, h2.DictOf (kM P w) d (stored ks k v) → Heap.SameBut d s.heap h2 → Q () { s with heap := h2 }) : wpAny (model P w) A (dictPut d ((kM P w).hash k) kv v) Q E s := by
  obtain ⟨ob, en, ep, h1, h2, h3, h4, h5, h6⟩ := hm
  have small : en.size ≤ sizeLine := by
    have q1 := h5.length
    have q2 : en.toList.length = en.size := by simp
    omega
  have ix : (en.findIdx? fun e => (kM P w).is k e.key) = ks.findIdx? fun p => decide (p.1 = k) := by
    rw [← h5.findIdx k]
    obtain ⟨l⟩ := en
    simp
  unfold dictPut
  refine wpAny_bind (wpAny_dictFind_of hkey h1 h3 h4 ?_)
  cases hi : en.findIdx? fun e => (kM P w).is k e.key with
  | some i =>
    refine wpAny_updateDict h1 h3 (hQ _ ⟨_, _, ep, Heap.get?_update_self _ h1 (Obj.isFreed_of_dict (Obj.data_mapDict h3 _)), h2.mapDict _, Obj.data_mapDict h3 _, h4.modify _ _, ?_, ?_⟩ (Heap.SameBut.update ..))
    · rw [stored, if_pos (any_of_findIdx_some (ix ▸ hi))]
      have q : (en.toList.findIdx? fun e => (kM P w).is k e.key) = some i := by
        rw [← hi]
        obtain ⟨l⟩ := en
        simp
      have q2 := h5.modify h6 q v
      obtain ⟨l⟩ := en
      simpa using q2
    · rw [stored, if_pos (any_of_findIdx_some (ix ▸ hi)), keys_map_store]
      exact h6
  | none =>
    have no : k ∉ ks.map (·.1) := not_mem_of_findIdx_none (ix ▸ hi)
    have no2 : ¬ (ks.any fun p => decide (p.1 = k)) = true := by
      rw [List.any_eq_true]
      rintro ⟨p, hp, he⟩
      exact no (List.mem_map.mpr ⟨p, hp, of_decide_eq_true he⟩)
    refine wpAny_updateDictKeys (hz := small) h1 h3 (hQ _ ⟨_, _, ep + 1, Heap.get?_update_self _ h1 (Obj.isFreed_of_dict (Obj.data_mapDictKeys h3 _)), h2.mapDictKeys _, Obj.data_mapDictKeys h3 _, h4.push hkey _, ?_, ?_⟩ (Heap.SameBut.update ..))
    · rw [stored, if_neg no2]
      have q := h5.append hkey ((kM P w).hash k) v
      obtain ⟨l⟩ := en
      simpa using q
    · rw [stored, if_neg no2, List.map_append, List.nodup_append]
      refine ⟨h6, by simp, fun a ha b hb => ?_⟩
      simp only [List.map_cons, List.map_nil, List.mem_singleton] at hb
      rw [hb]
      exact fun e => no (e ▸ ha)
theorem wpAny_merge {d o : Addr} {ks more : List (Key × Value)} {Q : Unit → Shared → Prop} (hdo : d ≠ o) (hoS : (o == sysModules) = false) (hd : s.heap.DictOf (kM P w) d ks) (ho : s.heap.DictOf (kM P w) o more) (hsz : ks.length + more.length ≤ sizeLine)
    (hQ : ∀ h2, h2.DictOf (kM P w) d (merged ks more) → Heap.SameBut d s.heap h2 → Q () { s with heap := h2 }) : wpAny (model P w) A (mergeMapping d (.ref o) false) Q E s := by
  obtain ⟨od, ed, pd, a1, a2, a3, a4, a5, a6⟩ := id hd
  obtain ⟨oo, eo, po, b1, b2, b3, b4, b5, b6⟩ := id ho
  have len : more.length = eo.size := by
    rw [← b5.length]
    simp
  unfold mergeMapping
  refine wpAny_bind (wpAny_isInstance ho.typeIs isSubtype_dict_dict ?_)
  rw [if_pos rfl]
  refine wpAny_bind (wpAny_specialOf ho.typeIs F.slot_dict_iter.lookup (wpAny_bind (wpAny_pure ?_)))
  rw [show (some (Value.builtin "dict.__iter__") == some (Value.builtin "dict.__iter__")) = true from beq_self_eq_true _]
  dsimp only
  rw [if_neg (by rw [hoS]; exact Bool.false_ne_true)]
  refine wpAny_bind (wpAny_dictEntries a1 a3 ?_)
  split
  refine wpAny_bind (wpAny_dictEntries b1 b3 (wpAny_bind ?_))
  rw [← Array.forIn_toList]
  refine wpAny_forIn_list _ (fun rest _ s2 => s2 = s ∧ ∀ x ∈ rest, x ∈ eo.toList) _ ?_ ?_ _ _ ⟨rfl, fun x hx => hx⟩
  · rintro x rest b s2 ⟨rfl, hr⟩
    obtain ⟨k, hk, _⟩ := b4 x (Array.mem_toList_iff.mp (hr x List.mem_cons_self))
    have nr : ∀ a, x.key ≠ .ref a := fun a z => by
      rw [z] at hk
      cases k <;> cases hk
    split
    · rename_i a z
      exact absurd z (nr a)
    · exact wpAny_pure ⟨rfl, fun y hy => hr y (List.mem_cons_of_mem _ hy)⟩
  rintro b s2 ⟨z2, _⟩
  obtain rfl : s = s2 := z2.symm
  all_goals
    refine wpAny_bind (wpAny_dictEntries b1 b3 (wpAny_bind (wpAny_dictEpoch b1 b3 (wpAny_bind ?_))))
    refine wpAny_forIn_list _ (fun rest _ s3 => ∃ h2 i, s3 = { s with heap := h2 } ∧ rest = List.range' i (eo.size - i) ∧ i ≤ eo.size ∧ h2.DictOf (kM P w) d (merged ks (more.take i)) ∧ h2.get? o = some oo ∧ Heap.SameBut d s.heap h2) _ ?_ ?_ _ _ ⟨s.heap, 0, rfl, by simp [List.range_eq_range'], Nat.zero_le _, by simpa [merged] using hd, b1, Heap.SameBut.refl _ _⟩
    · rintro x rest b s3 ⟨h2, i, rfl, hr, hi, hd2, ho2, hs2⟩
      have lt : i < eo.size := by
        rcases Nat.lt_or_ge i eo.size with h | h
        · exact h
        · rw [Nat.sub_eq_zero_of_le h] at hr
          simp at hr
      obtain ⟨rfl, hrest⟩ : x = i ∧ rest = List.range' (i + 1) (eo.size - (i + 1)) := by
        rw [show eo.size - i = (eo.size - (i + 1)) + 1 by omega, List.range'_succ] at hr
        injection hr with q1 q2
        exact ⟨q1, q2⟩
      refine wpAny_bind (wpAny_dictEntries ho2 b3 ?_)
      rw [Array.getElem?_eq_getElem lt]
      obtain ⟨⟨k, v⟩, hkv⟩ : ∃ p, more[x]? = some p := ⟨_, List.getElem?_eq_getElem (by rw [len]; exact lt)⟩
      obtain ⟨hkey, hval⟩ := b5.get? (e := eo[x]) (by simp [lt]) hkv
      obtain ⟨k2, hk2, hh⟩ := b4 eo[x] (Array.getElem_mem lt)
      obtain rfl : k2 = k := (kM P w).inj _ _ _ hk2 hkey
      have fit : (merged ks (more.take x)).length ≤ sizeLine := by
        have q1 := merged_length_le ks (more.take x)
        rw [List.length_take] at q1
        omega
      dsimp only
      rw [if_neg Bool.false_ne_true, hh, hval]
      refine wpAny_bind (wpAny_holding (wpAny_put hkey hd2 fit fun h3 hd3 hs3 => ?_))
      have ho3 : h3.get? o = some oo := (hs3.2 o (Ne.symm hdo)).trans ho2
      refine wpAny_bind (wpAny_dictEpoch ho3 b3 ?_)
      rw [if_neg (by simp)]
      exact wpAny_pure ⟨h3, x + 1, rfl, hrest, lt, by rw [merged_take_succ ks more x (k2, v) hkv]; exact hd3, ho3, hs2.trans hs3⟩
    · rintro b s3 ⟨h2, i, rfl, hr, hi, hd2, ho2, hs2⟩
      have hin : i = eo.size := by
        rcases Nat.lt_or_ge i eo.size with h | h
        · rw [show eo.size - i = (eo.size - (i + 1)) + 1 by omega, List.range'_succ] at hr
          exact nomatch hr
        · exact Nat.le_antisymm hi h
      refine wpAny_pure (hQ h2 ?_ hs2)
      rw [hin, ← len, List.take_length] at hd2
      exact hd2
end
end SfW
namespace SfW
open PySem PySem.Spec PyProof.Rows L2
/-- m poured into d, as the display does it -/
def pour (d : Addr) (m : Value) : Sem Unit :=
  (((holding [.ref d, m] (mergeMapping d m false)).onRaise fun x => do let _ ← holding [.ref d, m, x] (runValue (.builtin "proto.let_go" {}))).tryCatch fun e => do
        if ← isInstance e (.type "AttributeError") then
          rule "dict.display.not-a-mapping"; raiseError "TypeError" s!"'{← typeNameOf m}' object is not a mapping"
        throw e).onRaise fun x => do let _ ← holding [.ref d, x] (runValue (.builtin "proto.let_go" {}))
def flushTo (d : Addr) (run : List (Sem Value × Sem Value)) : Sem Unit := do
  let sub ← holding [.ref d] (subDict run)
  (holding [.ref d, .ref sub] (mergeMapping d (.ref sub) false)).onRaise fun x => do let _ ← holding [.ref d, x] (runValue (.builtin "proto.let_go" {}))
theorem dd_two (x y : Sem Value) : dictDisplay [(none, x), (none, y)] = (do
    let d ← alloc { cls := .type "dict", data := .dict #[] }
    let m ← holding [.ref d] x
    pour d m
    let m2 ← holding [.ref d] y
    pour d m2
    pure (.ref d)) := by
  unfold dictDisplay pour
  simp [List.forIn_cons, List.forIn_nil]
theorem dd_pair (x k y : Sem Value) : dictDisplay [(none, x), (some k, y)] = (do
    let d ← alloc { cls := .type "dict", data := .dict #[] }
    let m ← holding [.ref d] x
    pour d m
    flushTo d [(k, y)]
    pure (.ref d)) := by
  unfold dictDisplay pour flushTo
  simp [List.forIn_cons, List.forIn_nil]
section
variable {X : Cx} {pins : List (Addr × Obj)} {σ : L2.St} {H : Hp} {s : Shared} {d p : Addr} {ds ks : List (Key × V)}
theorem run_merge {E : Value → Shared → Prop} (I : Inv X pins σ H s) (hp : H p = some (.dK ks)) (hd : H d = some (.dK ds)) (ne : p ≠ d) (z : ds.length + ks.length ≤ sizeLine) :
    wpAny (model X.prog X.w) X.A (mergeMapping d (.ref p) false) (fun _ s2 => Inv X pins σ (upd H d (.dK (mergeK ds ks))) s2) E s := by
  obtain ⟨_, p2, vs, p3, p4⟩ := dk_of I.hok hp
  obtain ⟨_, d2, us, d3, d4⟩ := dk_of I.hok hd
  refine wpAny_merge (Ne.symm ne) p2 d4 p4 (by rw [← d3.length, ← p3.length]; exact z) fun h2 q sb => ?_
  exact d_write I (by rw [hd]; exact True.intro) sb (let ⟨o, _, _, ho, _⟩ := q; ⟨o, ho⟩) (dk_new (Nat.le_trans (length_mergeK ks ds) z) d2 (KV.merge p3 d3) q)
theorem run_pour (I : Inv X pins σ H s) (hp : H p = some (.dK ks)) (hd : H d = some (.dK ds)) (ne : p ≠ d) (z : ds.length + ks.length ≤ sizeLine) :
    wpAny (model X.prog X.w) X.A (pour d (.ref p)) (fun _ s2 => Inv X pins σ (upd H d (.dK (mergeK ds ks))) s2) X.xe s := by
  unfold pour
  exact wpAny_onRaise (wpAny_tryCatch (wpAny_onRaise (wpAny_holding (run_merge I hp hd ne z))))
variable {e e2 ek : Expr} {te te2 tk : TE} {pos : Pos}
/-- {**e, **e2} -/
def tStar2 (te te2 : TE) : TE := fun σ H Q => ∀ d, H d = none → te σ (upd H d (.dK [])) fun x H1 => ∃ p ks ds, x = .ref p ∧ H1 p = some (.dK ks) ∧ H1 d = some (.dK ds) ∧ p ≠ d ∧ ds.length + ks.length ≤ sizeLine ∧
  te2 σ (upd H1 d (.dK (mergeK ds ks))) fun y H2 => ∃ q ms us, y = .ref q ∧ H2 q = some (.dK ms) ∧ H2 d = some (.dK us) ∧ q ≠ d ∧ us.length + ms.length ≤ sizeLine ∧ Q (.ref d) (upd H2 d (.dK (mergeK us ms)))
theorem new_dict {s : Shared} {Q : Addr → Shared → Prop} {E : Value → Shared → Prop} (I : Inv X pins σ H s) (h : ∀ d s2, H d = none → Inv X pins σ (upd H d (.dK [])) s2 → Q d s2) : wpAny (model X.prog X.w) X.A (alloc { cls := .type "dict", data := .dict #[] }) Q E s :=
  wpAny_alloc (h s.heap.objs.size _ (I.hok.fresh (Nat.le_refl _)) (I.laid (a := s.heap.objs.size) (o := .dK []) (t' := s.toks) (fun _ _ q => Heap.get?_push_of_some _ q) (Nat.le_refl _) (dk_empty s.heap I.big)))
theorem pe_star2 (h1 : PE X e te) (h2 : PE X e2 te2) : PE X (.Dict [none, none] [e, e2] pos) (tStar2 te te2) := by
  refine ⟨fun pins s σ H Q I h => ?_⟩
  rw [arm_eval_Dict]
  refine wpAny_bind (wpAny_standAt ?_)
  show wpAny _ _ (dictDisplay [(none, (do let x ← eval e X.env; standAt pos; pure x)), (none, (do let x ← eval e2 X.env; standAt pos; pure x))]) _ _ _
  rw [dd_two]
  refine wpAny_bind (new_dict I fun d s1 hd I1 => ?_)
  refine wpAny_bind (wpAny_holding (wpAny_bind (thn (h1.run pins s1 σ _ _ I1 (h d hd)) fun u s2 ⟨x, H1, I2, rx, p, ks, ds, ex, hp, hd1, ne, z, q⟩ => wpAny_bind (wpAny_standAt (wpAny_pure ?_)))))
  subst ex
  obtain rfl : u = Value.ref p := rx
  refine wpAny_bind (thn (run_pour I2 hp hd1 ne z) fun _ s3 I3 => ?_)
  refine wpAny_bind (wpAny_holding (wpAny_bind (thn (h2.run pins s3 σ _ _ I3 q) fun u s4 ⟨y, H2, I4, ry, q2, ms, us, ey, hq, hd2, ne2, z2, q3⟩ => wpAny_bind (wpAny_standAt (wpAny_pure ?_)))))
  subst ey
  obtain rfl : u = Value.ref q2 := ry
  exact wpAny_bind (thn (run_pour I4 hq hd2 ne2 z2) fun _ s5 I5 => wpAny_pure ⟨.ref d, _, I5, rfl, q3⟩)
/-- {**e, ek: e2} -/
def tStarP (te tk te2 : TE) : TE := fun σ H Q => ∀ d, H d = none → te σ (upd H d (.dK [])) fun x H1 => ∃ p ks ds, x = .ref p ∧ H1 p = some (.dK ks) ∧ H1 d = some (.dK ds) ∧ p ≠ d ∧ ds.length + ks.length ≤ sizeLine ∧
  ∀ c, upd H1 d (.dK (mergeK ds ks)) c = none → tk σ (upd (upd H1 d (.dK (mergeK ds ks))) c (.dK [])) fun k H2 => te2 σ H2 fun v H3 => ∃ kk us, k = kV kk ∧ H3 c = some (.dK []) ∧ H3 d = some (.dK us) ∧ c ≠ d ∧ us.length + 1 ≤ sizeLine ∧
    Q (.ref d) (upd (upd H3 c (.dK [(kk, v)])) d (.dK (putK us kk v)))
theorem pe_starP (h1 : PE X e te) (h3 : PE X ek tk) (h2 : PE X e2 te2) : PE X (.Dict [none, some ek] [e, e2] pos) (tStarP te tk te2) := by
  refine ⟨fun pins s σ H Q I h => ?_⟩
  rw [arm_eval_Dict]
  refine wpAny_bind (wpAny_standAt ?_)
  show wpAny _ _ (dictDisplay [(none, (do let x ← eval e X.env; standAt pos; pure x)), (some (eval ek X.env), (do let x ← eval e2 X.env; standAt pos; pure x))]) _ _ _
  rw [dd_pair]
  refine wpAny_bind (new_dict I fun d s1 hd I1 => ?_)
  refine wpAny_bind (wpAny_holding (wpAny_bind (thn (h1.run pins s1 σ _ _ I1 (h d hd)) fun u s2 ⟨x, H1, I2, rx, p, ks, ds, ex, hp, hd1, ne, z, q⟩ => wpAny_bind (wpAny_standAt (wpAny_pure ?_)))))
  subst ex
  obtain rfl : u = Value.ref p := rx
  refine wpAny_bind (thn (run_pour I2 hp hd1 ne z) fun _ s3 I3 => ?_)
  unfold flushTo
  refine wpAny_bind (wpAny_bind (wpAny_holding ?_))
  have nc := I3.hok.fresh (Nat.le_refl s3.heap.objs.size)
  have I4 : Inv X pins σ (upd (upd H1 d (.dK (mergeK ds ks))) s3.heap.objs.size (.dK [])) { s3 with heap := s3.heap.push { cls := .type "dict", data := .dict #[] } } :=
    I3.laid (a := s3.heap.objs.size) (o := .dK []) (t' := s3.toks) (fun _ _ q => Heap.get?_push_of_some _ q) (Nat.le_refl _) (dk_empty s3.heap I3.big)
  refine wpAny_subDict (knd := kM X.prog X.w) (by show 1 ≤ 15; decide) ?_
  refine evalPairs_cons (thn (h3.run pins _ σ _ _ I4 (q _ nc)) fun ku s5 ⟨k, H2, I5, rk, q5⟩ => wpAny_bind (thn (h2.run pins s5 σ _ _ I5 q5) fun vu s6 ⟨v, H3, I6, rv, kk, us, ek, hc, hd3, ne3, z3, q6⟩ => wpAny_bind (wpAny_standAt (wpAny_pure (evalPairs_nil ?_)))))
  subst ek
  obtain ⟨_, c2, vs, c3, c4⟩ := dk_of I6.hok hc
  cases c3
  refine ⟨[(kk, vu)], ?_, c4, fun h7 q7 sb => ?_⟩
  · exact ⟨kV_is rk, rfl, True.intro⟩
  have I7 : Inv X pins σ (upd H3 s3.heap.objs.size (.dK [(kk, v)])) { s6 with heap := h7, toks := s6.toks + 1 } :=
    d_write I6 (by rw [hc]; exact True.intro) sb (let ⟨o, _, _, ho, _⟩ := q7; ⟨o, ho⟩) (dk_new (by show 1 ≤ sizeLine; omega) c2 (.cons ⟨rfl, rv⟩ .nil) q7)
  refine wpAny_onRaise (wpAny_holding (thn (run_merge (E := _) I7 upd_same (by rw [upd_ne (Ne.symm ne3)]; exact hd3) ne3 z3) fun _ s8 I8 => wpAny_pure ⟨.ref d, _, I8, rfl, q6⟩))
end
end SfW
namespace SfW
open PySem PySem.Spec PyProof.Rows L2
open Evl (Ex RetV)
/-! networks: what a frame shows -/
variable {P : Program} {w : World} {K : PySem.W.Frag} {mg : Str → Option Value} {bs : Heap}
def spSight (K : PySem.W.Frag) : Sp := fun vs H Q _ => ∃ (a d fr : Addr) (W : WD) (m : SfM.Mem Str) (f : Fr), vs = [.ref a, .ref d, .ref fr] ∧ NetI K H a W ∧ WOk W ∧ StateAt H W d m ∧ SfM.MemOk W.wb m ∧ FrAt K H fr f.1 f.2 ∧ SfM.FrIn W.wb f ∧
  ∀ p H2, H p = none → Ex H H2 → H2 p = some (.tup (txs (SfM.sightOf W.wb m f))) → Q (.ref p) H2
theorem F_sight_at (T : TX K mg) : FnR P w K mg bs CX0 3 (He.ma K (He.ga K "Network") "sight_at") (spSight K) :=
  T.f_sight_at.fn S_sight_at (fun vs H Q E ⟨_, _, _, _, _, _, h, _⟩ => by rw [h] <;> rfl) (fun _ _ _ _ _ _ us hl => match us, hl with | [_, _, _], _ => rfl) (body0 fun cdv A outer s H vs Q E hr q => by
    obtain ⟨a, d, fr, W, m, f, rfl, hN, ok, hS, mok, hF, fin, k⟩ := q
    refine ⟨_, (pss_cons (ps_set (i := 3) S_sight_at.nd rfl (Or.inr rfl) (pe_ix ix_tup (pe_methR (pv 0) T.c_Network T.m_Network_passage (F_passage T) (hr.mono (by decide)) pass0 (pa_cons (pv 1) (pa_cons (pv 2) pa_nil))) pe_int (fun _ _ => rfl))) (pss_one (ps_ret (pe_callTy call_tuple_of (by rfl) T.b_tuple (by decide +kernel) (pa_cons (pe_lc (own := [("host", 4)]) rfl S_sight_at.nd (pi_tup (pe_fld (pv 0) rfl)) (blkOk_by (N := N_sight_at) (sc := defScope s_sight_at) (by decide +kernel)) (fun _ _ _ _ _ => (pg_name (i := 4) S_sight_at.nd rfl (Or.inl rfl))) (fun _ _ _ _ _ => pts_one (pt_at (K := K) (R := fun k => tTest (tOp (rIn k false) _ _)) (pt_cmpR op_in_seq (pv 4) (pv 3) (by rfl)) rfl)) (fun _ _ _ _ _ => (pv 4))) pa_nil))))), ?_⟩
    obtain ⟨dx, w1, pH, ls, lt, lo, ha, hW, hpH⟩ := id hN
    have few := ok.few
    refine ⟨.ref a, rfl, a, dx, _, rfl, ha, netFs_no (by decide +kernel), .ref d, rfl, .ref fr, rfl, a, d, fr, W, m, f, rfl, hN, ok, hS, mok, hF, fin, fun p H1 l c np e1 hp hl hc => ⟨p, _, 0, .ref l, rfl, rfl, .inl (.inl hp), atI_nat (j := 0) rfl, ?_⟩⟩
    refine ⟨.ref a, rfl, a, _, dx, _, .ref pH, rfl, e1 _ _ ha, T.c_Network, T.n_Network_own_hosts, rfl, pH, rfl, ⟨_, .inl (.inl (e1 _ _ hpH))⟩, fun D hD => lcFM walk_tup hD (fun v => inV v (txs (SfM.wayOf W.wb m f).1)) id (by rw [txs_len]; omega) (fun H' e => Evl.ex_t e (.inl (.inl (e1 _ _ hpH)))) ?_ ?_⟩
    · intro i x Ha hx e C C0 hC hC0
      obtain ⟨y, hy, rfl⟩ := txs_get hx
      refine ⟨rfl, .str y, rfl, .ref l, rfl, l, _, rfl, .inl (.inl (.inl (e _ _ hl))), rfl, flat_txs _, _, rfl, ?_⟩
      show if inV (.str y) (txs (SfM.wayOf W.wb m f).1) = true then _ else _
      cases hi : inV (.str y) (txs (SfM.wayOf W.wb m f).1) with
      | true => exact iteT ⟨.str y, rfl, hC hi _ (Ex.refl _)⟩
      | false => exact iteF (hC0 hi _ (Ex.refl _))
    · intro H2 e2 h2
      have e12 := e1.trans e2
      refine ⟨D, _, rfl, .inl ⟨.inl (.inl h2), fun z hz => k z _ (Evl.fresh_back e12 hz) (e12.trans (Ex.new hz)) ?_⟩⟩
      rw [upd_same, List.map_id, List.filter_map]
      show _ = some (HO.tup ((W.hs.filter fun h => decide (h ∈ (SfM.wayOf W.wb m f).1)).map V.str))
      congr 3
      refine List.filter_congr fun h _ => ?_
      exact inV_txs h _)
theorem mergeK_app : ∀ (more acc : List (Key × V)), ((acc ++ more).map (·.1)).Nodup → mergeK acc more = acc ++ more
  | [], acc, _ => (List.append_nil acc).symm
  | (k, v) :: r, acc, h => by
    have no : valV acc k = none := valV_no fun z => by
      rw [List.map_append, List.map_cons, List.nodup_append] at h
      exact h.2.2 k z k List.mem_cons_self rfl
    show mergeK (putK acc k v) r = _
    rw [putK_new _ no, mergeK_app r (acc ++ [(k, v)]) (by simpa using h)]
    simp
theorem mergeK_nil {more : List (Key × V)} (h : (more.map (·.1)).Nodup) : mergeK [] more = more := mergeK_app more [] (by simpa using h)
theorem camK_nodup {m : List (Int × Pt)} (h : (m.map (·.1)).Nodup) : ((camK m).map (·.1)).Nodup := by
  rw [camK_keys]
  have q := nodup_map (f := (Sum.inl : Int → Key)) (fun _ _ z => Sum.inl.inj z) h
  rwa [List.map_map] at q
theorem camK_merge : ∀ (came m : List (Int × Pt)), (m.map (·.1)).Nodup → mergeK (camK m) (camK came) = camK (SfM.merge m came)
  | [], _, _ => rfl
  | (a, p) :: r, m, h => by
    show mergeK (putK (camK m) (.inl a) (pV p)) (camK r) = camK (SfM.merge (SfM.put m a p) r)
    rw [camK_put a p m h, camK_merge r _ (SfM.nodup_put h)]
theorem putK_keys {kvs : List (Key × V)} {k : Key} {v : V} (h : k ∈ kvs.map (·.1)) : (putK kvs k v).map (·.1) = kvs.map (·.1) := by
  induction kvs with
  | nil => cases h
  | cons p r ih =>
    obtain ⟨j, u⟩ := p
    by_cases c : j = k
    · subst c
      unfold putK
      rw [List.any_cons, decide_eq_true rfl, Bool.true_or, if_pos rfl, List.map_map]
      refine List.map_congr_left fun q _ => ?_
      show (if q.1 = j then (q.1, v) else q).1 = q.1
      split <;> rfl
    · rw [putK_ne c, List.map_cons, List.map_cons, ih (by
        rcases List.mem_cons.mp h with z | z
        · exact absurd z.symm c
        · exact z)]
theorem came_few {S : List Int} : ∀ {m : List (Int × Pt)}, (m.map (·.1)).Nodup → (∀ e ∈ m, e.1 ∈ S) → m.length ≤ S.length := fun {m} h1 h2 => by
  have := nodup_len h1 (m := S) fun x hx => by
    obtain ⟨e, he, rfl⟩ := List.mem_map.mp hx
    exact h2 e he
  rwa [List.length_map] at this
theorem way_nodup {W : WD} (wok : SfM.WbOk W.wb) {m : SfM.Mem Str} (mok : SfM.MemOk W.wb m) {f : Fr} (fin : SfM.FrIn W.wb f) : ((SfM.wayOf W.wb m f).2.map (·.1)).Nodup := SfM.run_nodup (SfM.way_ok wok mok fin).1 List.nodup_nil
theorem mem_in {W : WD} {m : SfM.Mem Str} (mok : SfM.MemOk W.wb m) {h : Str} (hh : h ∈ W.hs) {e : Int × Pt} (he : e ∈ m h) : e.1 ∈ W.S := by
  obtain ⟨k1, k2⟩ := mok h hh
  exact (k1 e.1 e.2 (SfM.lookup_mem k2 he)).1
def spBehind (K : PySem.W.Frag) : Sp := fun vs H Q _ => ∃ (a d fr : Addr) (v : V) (W : WD) (m : SfM.Mem Str) (f : Fr), vs = [.ref a, .ref d, .ref fr, v] ∧ NetI K H a W ∧ WOk W ∧ StateAt H W d m ∧ SfM.MemOk W.wb m ∧ FrAt K H fr f.1 f.2 ∧ SfM.FrIn W.wb f ∧
  ∀ p H2, H p = none → Ex H H2 → StateAt H2 W p (SfM.behind W.wb m f) → Q (.ref p) H2
theorem F_state_behind (T : TX K mg) : FnR P w K mg bs CX0 3 (He.ma K (He.ga K "Network") "state_behind") (spBehind K) :=
  T.f_state_behind.fn S_state_behind (fun vs H Q E ⟨_, _, _, _, _, _, _, h, _⟩ => by rw [h] <;> rfl) (fun _ _ _ _ _ _ us hl => match us, hl with | [_, _, _, _], _ => rfl) (body0 fun cdv A outer s H vs Q E hr q => by
    obtain ⟨a, d, fr, v, W, m, f, rfl, hN, ok, hS, mok, hF, fin, k⟩ := q
    have hu := hu_of hr
    refine ⟨_, (pss_cons (ps_set (i := 4) S_state_behind.nd rfl (Or.inl rfl) (pe_ix ix_tup (pe_methR (pv 0) T.c_Network T.m_Network_passage (F_passage T) (hr.mono (by decide)) pass0 (pa_cons (pv 1) (pa_cons (pv 2) pa_nil))) pe_int (fun _ _ => rfl))) (pss_one (ps_ret (pe_starP (pv 1) (pe_fld (pv 2) rfl) (pe_star2 (pe_dget hu (pv 1) (pe_fld (pv 2) rfl) (fun _ _ => rfl)) (pv 4)))))), ?_⟩
    obtain ⟨dx, w1, pH, ls, lt, lo, ha, hW, hpH⟩ := id hN
    obtain ⟨dxf, hF1⟩ := id hF
    obtain ⟨kvs, hd, hks, hm⟩ := id hS
    have few := ok.few
    have wok : SfM.WbOk W.wb := ⟨ok.tree, ok.home⟩
    have kl : kvs.length = W.hs.length := by
      have := congrArg List.length hks
      rwa [List.length_map, List.length_map] at this
    have knd : (kvs.map (·.1)).Nodup := by
      rw [hks]
      exact nodup_map (fun _ _ z => Sum.inr.inj z) ok.nd
    refine ⟨.ref a, rfl, a, dx, _, rfl, ha, netFs_no (by decide +kernel), .ref d, rfl, .ref fr, rfl, a, d, fr, W, m, f, rfl, hN, ok, hS, mok, hF, fin, fun p H1 l c np e1 hp hl hc => ⟨p, _, 1, .ref c, rfl, rfl, .inl (.inl hp), atI_nat (j := 1) rfl, ?_⟩⟩
    intro d2 nd2
    have hd1 := e1 _ _ hd
    obtain ⟨l0, hv0, hl0⟩ := hm f.1 fin.1
    have wayS : ∀ i ∈ (SfM.wayOf W.wb m f).2, i.1 ∈ W.S := fun i hi => ((SfM.way_ok wok mok fin).2 i hi).at_
    have wayN : ((SfM.wayOf W.wb m f).2.map (·.1)).Nodup := way_nodup wok mok fin
    have wayL : (SfM.wayOf W.wb m f).2.length ≤ 50 := Nat.le_trans (came_few wayN wayS) ok.fewS
    have memN := (mok f.1 fin.1).2
    have memL : (m f.1).length ≤ 50 := Nat.le_trans (came_few memN fun e he => mem_in mok fin.1 he) ok.fewS
    have cl : ∀ l : List (Int × Pt), (camK l).length = l.length := fun l => List.length_map _
    have nd : d ≠ d2 := fun z => by
      rw [← z, hd1] at nd2
      cases nd2
    refine ⟨.ref d, rfl, d, kvs, [], rfl, by rw [upd_ne nd]; exact hd1, upd_same, nd, Evl.sz_of (by show 0 + _ ≤ _; omega), fun c2 nc2 => ?_⟩
    rw [mergeK_nil knd] at nc2 ⊢
    have n2 : c2 ≠ d2 := fun z => by
      rw [z, upd_same] at nc2
      cases nc2
    have nc1 : H1 c2 = none := by
      rw [upd_ne n2, upd_ne n2] at nc2
      exact nc2
    have x3 : Ex H1 (upd (upd (upd H1 d2 (.dK [])) d2 (.dK kvs)) c2 (.dK [])) := Evl.Ex.mut (Evl.Ex.mut (Evl.Ex.mut (Ex.refl _) nd2) nd2) nc1
    refine ⟨.ref fr, rfl, fr, _, dxf, _, .str f.1, rfl, (e1.trans x3) _ _ hF1, T.c_Frame, T.n_Frame_sender, rfl, fun d3 nd3 => ?_⟩
    have n31 : d3 ≠ c2 := fun z => by
      rw [z, upd_same] at nd3
      cases nd3
    have n32 : d3 ≠ d2 := fun z => by
      rw [z, upd_ne (Ne.symm n2), upd_same] at nd3
      cases nd3
    have nd31 : H1 d3 = none := by
      rw [upd_ne n31, upd_ne n32, upd_ne n32] at nd3
      exact nd3
    have x4 := Evl.Ex.mut (o := .dK []) x3 nd31
    have nl0 : l0 ≠ d3 := ne_of_none (e1 _ _ hl0) nd31
    have nc3 : c ≠ d3 := ne_of_none hc nd31
    refine ⟨.ref d, rfl, .ref fr, rfl, fr, _, dxf, _, .str f.1, rfl, (e1.trans x4) _ _ hF1, T.c_Frame, T.n_Frame_sender, rfl, d, .ref l0, rfl, .inl ⟨kvs, .inr f.1, .inl (x4 _ _ hd1), rfl, hv0.symm⟩, l0, camK (m f.1), [], rfl, x4 _ _ (e1 _ _ hl0), upd_same, nl0, Evl.sz_of (by rw [cl]; show 0 + _ ≤ _; omega), ?_⟩
    rw [mergeK_nil (camK_nodup memN)]
    have x5 := Evl.Ex.mut (o := .dK (camK (m f.1))) x4 nd31
    refine ⟨.ref c, rfl, c, camK (SfM.wayOf W.wb m f).2, camK (m f.1), rfl, x5 _ _ hc, upd_same, nc3, Evl.sz_of (by rw [cl, cl]; omega), ?_⟩
    rw [camK_merge _ _ memN]
    refine ⟨.inr f.1, kvs, rfl, by rw [upd_ne (Ne.symm n31), upd_ne (Ne.symm n31), upd_ne (Ne.symm n31)]; exact upd_same, by rw [upd_ne (Ne.symm n32), upd_ne (Ne.symm n32), upd_ne (Ne.symm n32), upd_ne (Ne.symm n2)]; exact upd_same, n2, Evl.sz_of (by omega), ?_⟩
    have x6 := Evl.Ex.mut (o := .dK (camK (SfM.merge (m f.1) (SfM.wayOf W.wb m f).2))) x5 nd31
    have x7 := Evl.Ex.mut (o := .dK [(.inr f.1, .ref d3)]) x6 nc1
    have x8 := Evl.Ex.mut (o := .dK (putK kvs (.inr f.1) (.ref d3))) x7 nd2
    refine k d2 _ (Evl.fresh_back e1 nd2) (e1.trans x8) ⟨_, upd_same, ?_, fun h hh => ?_⟩
    · rw [putK_keys (by rw [hks]; exact List.mem_map_of_mem fin.1)]
      exact hks
    · by_cases q : h = f.1
      · subst q
        refine ⟨d3, by rw [valV_put, if_pos rfl], ?_⟩
        rw [upd_ne n32, upd_ne n31, upd_same]
        unfold SfM.behind
        rw [if_pos rfl]
      · obtain ⟨l1, hv1, hl1⟩ := hm h hh
        refine ⟨l1, by rw [valV_put, if_neg (fun z => q (Sum.inr.inj z))]; exact hv1, ?_⟩
        unfold SfM.behind
        rw [if_neg q]
        exact x8 _ _ (e1 _ _ hl1))
end SfW
namespace SfW
open PySem PySem.Spec PyProof.Rows L2
open Evl (Ex RetV)
/-! networks: what they have seen -/
variable {P : Program} {w : World} {K : PySem.W.Frag} {mg : Str → Option Value} {bs : Heap}
def SightAt (H : Hp) (v : V) (xs : List Str) : Prop := ∃ p, v = .ref p ∧ H p = some (.tup (txs xs))
def MemAt (H : Hp) (W : WD) (v : V) (m : SfM.Mem Str) : Prop := ∃ d, v = .ref d ∧ StateAt H W d m
abbrev mem0 : SfM.Mem Str := fun _ => []
/-- the network at a has sent the frames past; what does not change stands in G -/
def NetAt (K : PySem.W.Frag) (G H : Hp) (a : Addr) (W : WD) (past : List Fr) (ls lt lo : Addr) : Prop := ∃ dx w pH ss fs os, H a = some (.ins (He.ga K "Network") dx (netFs w pH ls lt lo)) ∧ WebAt K G w W ∧ G pH = some (.tup (txs W.hs)) ∧
  H ls = some (.lst ss) ∧ Paired (MemAt G W) ss (SfM.memsFrom W.wb mem0 past) ∧ H lt = some (.lst fs) ∧ FrsAt K G fs past ∧ H lo = some (.lst os) ∧ Paired (SightAt G) os (SfM.sightsFrom W.wb mem0 past) ∧ ls ≠ lt ∧ ls ≠ lo ∧ lt ≠ lo
theorem NetAt.mono {G G' H H' : Hp} {a : Addr} {W : WD} {past : List Fr} {ls lt lo : Addr} (h : NetAt K G H a W past ls lt lo) (g : Ex G G') (e : ∀ b ∈ [a, ls, lt, lo], ∀ o, H b = some o → H' b = some o) : NetAt K G' H' a W past ls lt lo := by
  obtain ⟨dx, w, pH, ss, fs, os, h1, h2, h3, h4, h5, h6, h7, h8, h9, h10⟩ := h
  exact ⟨dx, w, pH, ss, fs, os, e _ (by simp) _ h1, h2.mono g, g _ _ h3, e _ (by simp) _ h4, Paired.mapP h5 fun v m ⟨d, q1, q2⟩ => ⟨d, q1, q2.mono g⟩, e _ (by simp) _ h6, h7.mono g, e _ (by simp) _ h8, Paired.mapP h9 fun v m ⟨d, q1, q2⟩ => ⟨d, q1, g _ _ q2⟩, h10⟩
theorem NetAt.ex {G H H' : Hp} {a : Addr} {W : WD} {past : List Fr} {ls lt lo : Addr} (h : NetAt K G H a W past ls lt lo) (g : Ex G H) (e : Ex H H') : NetAt K H' H' a W past ls lt lo := h.mono (g.trans e) fun b _ o q => e b o q
theorem NetAt.i {H : Hp} {a : Addr} {W : WD} {past : List Fr} {ls lt lo : Addr} (h : NetAt K H H a W past ls lt lo) : NetI K H a W := by
  obtain ⟨dx, w, pH, ss, fs, os, h1, h2, h3, _⟩ := h
  exact ⟨dx, w, pH, ls, lt, lo, h1, h2, h3⟩
def spSights (K : PySem.W.Frag) : Sp := fun vs H Q _ => ∃ (a : Addr) (W : WD) (past : List Fr) (ls lt lo : Addr) (os : List V), vs = [.ref a] ∧ NetAt K H H a W past ls lt lo ∧ H lo = some (.lst os) ∧ past.length ≤ 100 ∧
  ∀ p H2, H p = none → Ex H H2 → H2 p = some (.tup os) → Q (.ref p) H2
theorem F_Player_sights (T : TX K mg) : FnR P w K mg bs CX0 1 (pgA K (He.ga K "Network") "sights") (spSights K) :=
  T.f_Player_sights.fn S_Player_sights (fun vs H Q E ⟨_, _, _, _, _, _, _, h, _⟩ => by rw [h] <;> rfl) (fun _ _ _ _ _ _ us hl => match us, hl with | [_], _ => rfl) (body0 fun cdv A outer s H vs Q E hr q => by
    obtain ⟨a, W, past, ls, lt, lo, os, rfl, ⟨dx, w1, pH, ss, fs, os', h1, h2, h3, h4, h5, h6, h7, h8, h9, h10⟩, ho, few, k⟩ := q
    exact ⟨_, (pss_one (ps_ret (pe_callTy call_tuple_of (by rfl) T.b_tuple (by decide +kernel) (pa_cons (pe_fld (pv 0) rfl) pa_nil)))), .ref a, rfl, a, _, dx, _, .ref lo, rfl, h1, T.c_Network, T.n_Network_own_sights, rfl, lo, os, rfl, .inl ⟨.inl (.inl ho), fun l hl => k l _ hl (Ex.new hl) upd_same⟩⟩)
def spLen (K : PySem.W.Frag) : Sp := fun vs H Q _ => ∃ (a : Addr) (W : WD) (past : List Fr) (ls lt lo : Addr), vs = [.ref a] ∧ NetAt K H H a W past ls lt lo ∧ RetV (.int past.length) H Q
theorem F_Player_len (T : TX K mg) : FnR P w K mg bs CX0 1 (He.ma K (He.ga K "Network") "__len__") (spLen K) :=
  T.f_Player_len.fn S_Player_len (fun vs H Q E ⟨_, _, _, _, _, _, h, _⟩ => by rw [h] <;> rfl) (fun _ _ _ _ _ _ us hl => match us, hl with | [_], _ => rfl) (body0 fun cdv A outer s H vs Q E hr q => by
    obtain ⟨a, W, past, ls, lt, lo, rfl, ⟨dx, w1, pH, ss, fs, os', h1, h2, h3, h4, h5, h6, h7, h8, h9, h10⟩, k⟩ := q
    refine ⟨_, (pss_one (ps_ret (pe_callB call_len_seq (by rfl) T.b_len PySem.boot_len (pa_cons (pe_fld (pv 0) rfl) pa_nil)))), .ref a, rfl, a, _, dx, _, .ref lt, rfl, h1, T.c_Network, T.n_Network_sent, rfl, lt, fs, rfl, .inl (.inl (.inl h6)), ?_⟩
    rw [Paired.length h7]
    exact k _ (Ex.refl _))
def spNeedHost (K : PySem.W.Frag) : Sp := fun vs H Q _ => ∃ (a : Addr) (W : WD) (h : Str), vs = [.ref a, .str h] ∧ NetI K H a W ∧ h ∈ W.hs ∧ RetV .non H Q
theorem F_need_host (T : TX K mg) : FnR P w K mg bs CX0 1 (He.ma K (He.ga K "Network") "need_host") (spNeedHost K) :=
  T.f_need_host.fn S_need_host (fun vs H Q E ⟨_, _, _, h, _⟩ => by rw [h] <;> rfl) (fun _ _ _ _ _ _ us hl => match us, hl with | [_, _], _ => rfl) (body0 fun cdv A outer s H vs Q E hr q => by
    obtain ⟨a, W, h, rfl, ⟨dx, w1, pH, ls, lt, lo, ha, hW, hpH⟩, hm, k⟩ := q
    refine ⟨_, (pss_one (ps_if (PW.pt (pw_or (pt_not (pt_val (pe_callB call_isi (by rfl) T.b_isinstance (by decide +kernel) (pa_cons (pv 1) (pa_cons (pe_bltn (v := .ty "str") (by rfl) T.b_str (by decide +kernel) rfl) pa_nil))))) (pw_or1 (pt_cmpR op_notIn_seq (pv 1) (pe_fld (pv 0) rfl) (by rfl))))) pss_never pss_nil)), ?_⟩
    refine ⟨.str h, rfl, .str h, .ty "str", .type "str", .type "str", true, rfl, .ty _, .base (.str _), kit_ty (by decide +kernel), true, rfl, iteF ?_⟩
    refine ⟨.str h, rfl, .ref a, rfl, a, _, dx, _, .ref pH, rfl, ha, T.c_Network, T.n_Network_own_hosts, rfl, pH, _, rfl, .inr (.inl (.inl hpH)), rfl, flat_txs _, _, rfl, ?_⟩
    show if (!inV (.str h) (txs W.hs)) = true then _ else _
    rw [inV_txs, decide_eq_true hm]
    exact iteF (k _ (Ex.refl _)))
def knownBy (W : WD) (m : SfM.Mem Str) (h : Str) : List Int := W.S.filter fun s => ((m h).lookup s).isSome
def spKnowers (K : PySem.W.Frag) : Sp := fun vs H Q _ => ∃ (a : Addr) (W : WD) (past : List Fr) (ls lt lo : Addr) (h : Str), vs = [.ref a, .str h] ∧ NetAt K H H a W past ls lt lo ∧ WOk W ∧ h ∈ W.hs ∧
  ∀ p H2, H p = none → Ex H H2 → H2 p = some (.tup ((knownBy W (SfM.memFrom W.wb mem0 past) h).map V.int)) → Q (.ref p) H2
theorem F_knowers (T : TX K mg) : FnR P w K mg bs CX0 3 (He.ma K (He.ga K "Network") "knowers") (spKnowers K) :=
  T.f_knowers.fn S_knowers (fun vs H Q E ⟨_, _, _, _, _, _, _, h, _⟩ => by rw [h] <;> rfl) (fun _ _ _ _ _ _ us hl => match us, hl with | [_, _], _ => rfl) (body0 fun cdv A outer s H vs Q E hr q => by
    obtain ⟨a, W, past, ls, lt, lo, h, rfl, hN, ok, hm, k⟩ := q
    have hu := hu_of hr
    refine ⟨_, (pss_cons (ps_expr (pe_methR (pv 0) T.c_Network T.m_Network_need_host (F_need_host T) (hr.mono (by decide)) pass0 (pa_cons (pv 1) pa_nil))) (pss_cons (ps_set (i := 2) S_knowers.nd rfl (Or.inr rfl) (pe_dget hu (pe_ix ix_list (pe_fld (pv 0) rfl) (pe_un un_neg pe_int) (fun _ _ => rfl)) (pv 1) (fun _ _ => rfl))) (pss_one (ps_ret (pe_callTy call_tuple_of (by rfl) T.b_tuple (by decide +kernel) (pa_cons (pe_lc (own := [("switch", 3)]) rfl S_knowers.nd (pi_tup (pe_propR (pe_fld (pv 0) rfl) T.c_Web T.p_Web_switches (F_Web_switches T) (hr.mono (by decide)) pass0)) (blkOk_by (N := N_knowers) (sc := defScope s_knowers) (by decide +kernel)) (fun _ _ _ _ _ => (pg_name (i := 3) S_knowers.nd rfl (Or.inl rfl))) (fun _ _ _ _ _ => pts_one (pt_cmp (pc_din hu (pv 3) (pv 2)))) (fun _ _ _ _ _ => (pv 3))) pa_nil)))))), ?_⟩
    obtain ⟨dx, w1, pH, ss, fs, os, h1, h2, h3, h4, h5, h6, h7, h8, h9, h10⟩ := id hN
    obtain ⟨ms, hms⟩ := SfM.memsFrom_last W.wb past mem0
    have ef : ∀ {H1 : Hp}, Ex H H1 → Ex H H1 := fun e => e
    refine ⟨.ref a, rfl, a, dx, _, rfl, h1, netFs_no (by decide +kernel), .str h, rfl, a, W, h, rfl, hN.i, hm, fun H1 e1 => ?_⟩
    rw [hms] at h5
    obtain ⟨ss', v, rfl, _, d, rfl, hd⟩ := paired_last h5
    obtain ⟨kvs, hd1, hks, hmm⟩ := hd.mono e1
    obtain ⟨l, hv, hl⟩ := hmm h hm
    refine ⟨.ref a, rfl, a, _, dx, _, .ref ls, rfl, e1 _ _ h1, T.c_Network, T.n_Network_states, rfl, 1, rfl, ls, _, -1, .ref d, rfl, rfl, .inl (.inl (e1 _ _ h4)), atI_last _ _, .str h, rfl, d, .ref l, rfl, .inl ⟨kvs, .inr h, .inl hd1, rfl, hv.symm⟩, ?_⟩
    obtain ⟨dw, x0, pL, pH2, dP, pS, dS, dG, rs, sd, gd, g1, gx, g3, g4, g5, g6, g7, _⟩ := h2.mono e1
    have fewS := ok.fewS
    refine ⟨.ref a, rfl, a, _, dx, _, .ref w1, rfl, e1 _ _ h1, T.c_Network, T.n_Network_own_web, rfl, w1, dw, _, rfl, g1, w1, dw, _, .ref pS, rfl, g1, rfl, pS, rfl, ⟨_, .inl (.inl g7)⟩, fun D hD => lcFM walk_tup hD (fun v => match v with | .int s => (((SfM.memFrom W.wb mem0 past) h).lookup s).isSome | _ => false) id (by rw [List.length_map]; omega) (fun H' e => Evl.ex_t e (.inl (.inl g7))) ?_ ?_⟩
    · intro i x Ha hx e C C0 hC hC0
      rw [List.getElem?_map] at hx
      obtain ⟨s, hs, rfl⟩ := Option.map_eq_some_iff.mp hx
      have hq := camK_val ((SfM.memFrom W.wb mem0 past) h) s
      refine ⟨rfl, .int s, rfl, .ref l, rfl, l, _, rfl, .inl ⟨camK ((SfM.memFrom W.wb mem0 past) h), .inl s, .inl (e _ _ hl), rfl, rfl⟩, _, rfl, ?_⟩
      rw [hq, Option.isSome_map]
      cases hi : (((SfM.memFrom W.wb mem0 past) h).lookup s).isSome with
      | true => exact iteT ⟨.int s, rfl, hC hi _ (Ex.refl _)⟩
      | false => exact iteF (hC0 hi _ (Ex.refl _))
    · intro H2 e2 h2'
      have e12 := e1.trans e2
      refine ⟨D, _, rfl, .inl ⟨.inl (.inl h2'), fun z hz => k z _ (Evl.fresh_back e12 hz) (e12.trans (Ex.new hz)) ?_⟩⟩
      rw [upd_same, List.map_id, List.filter_map]
      rfl)
end SfW
/-! xs.extend(a tuple) -/
namespace SfW
open PySem PySem.Spec PyProof.Rows L2
theorem ext_tup (l : Addr) (its : Array Value) (n : Nat) (b : Addr) (js : Array Value) (n2 : Nat) (dc : Option Addr) (sl : Array (Option Value)) (h0 : ¬(!its.isEmpty && Builtin.List.listTooLong (its.size + js.size)) = true) (h1 : its.size ≤ sizeLine) (h2 : its.size + js.size ≤ sizeLine + 1) :
    Meets (Builtin.«list.extend» ⟨[.ref l, .ref b], []⟩) (fun _ R s => s.heap.get? l = some { cls := .type "list", dict := none, data := .seq its n, slots := #[] } ∧ s.heap.get? b = some { cls := .type "tuple", dict := dc, data := .seq js n2, slots := sl } ∧
      R (.ok (.ret Value.none)) { s with heap := s.heap.update l (Obj.mapSeq fun x => x ++ js), toks := s.toks }) :=
  .of_wp fun prog w A R s h => by
    obtain ⟨hp, g, d, tk, os⟩ := s
    obtain ⟨hl, hb, h⟩ := h
    have f2 := sub_tuple_tuple
    have f3 := sub_list_list
    have f4 := sub_tuple_list
    have f5 := sub_list_tuple
    have z : (its ++ js).size ≤ sizeLine + 1 := by
      rw [Array.size_append]
      exact h2
    wp_walk using (wpAny_updateSeq hl rfl (hz := h1) (_hz' := z)), wpAny_loadPart' hl, wpAny_loadPart' hb
    exact ⟨_, rfl, h⟩
def rExtT (K : PySem.W.Frag) : V → List V → Hp → VK → Prop := fun x vs H Q => ∃ l b xs zs, x = .ref l ∧ vs = [.ref b] ∧ H l = some (.lst xs) ∧ SqT K H b zs ∧ xs.length + zs.length ≤ sizeLine ∧ Q .non (upd H l (.lst (xs ++ zs)))
theorem mt_extT {X : Cx} : MtM X "list.extend" (rExtT X.K) := by
  intro pins s σ H x vs v us Q I rx rv h
  obtain ⟨l, b, xs, zs, rfl, rfl, hH, hB, hz, q⟩ := h
  cases rx
  obtain ⟨u, rfl, ru⟩ := rv.one
  cases ru
  obtain ⟨z, its, n, r, hl, e⟩ := I.lstM hH
  obtain ⟨js, r2, ⟨ob, e2, hc, n2, hd⟩, z2⟩ := I.tuple hB
  obtain ⟨c, dc, dt, sl⟩ := ob
  dsimp only at hc hd
  subst hc hd
  have jl := r2.length
  have fit : its.toArray.size + js.toArray.size ≤ sizeLine := by
    rw [List.size_toArray, List.size_toArray]
    omega
  have short : ¬ (!its.toArray.isEmpty && Builtin.List.listTooLong (its.toArray.size + js.toArray.size)) = true := by
    rw [notLongL fit, Bool.and_false]
    exact Bool.false_ne_true
  refine call_meets F.slot_list_extend ⟨_, e, rfl⟩ F.entry_list_extend (F.args_list_extend_2 _ _) (ext_tup l its.toArray n b js.toArray n2 dc sl short (by rw [List.size_toArray]; omega) (by omega)) ⟨e, e2, ?_⟩
  refine ⟨.non, _, I.lset (its' := its ++ js) hH e (by simp) (r.append r2) ?_, rfl, q⟩
  rw [List.length_append]
  omega
end SfW
namespace SfW
open PySem PySem.Spec PyProof.Rows L2
open Evl (Ex RetV)
/-! networks: who has seen a host -/
variable {P : Program} {w : World} {K : PySem.W.Frag} {mg : Str → Option Value} {bs : Heap}
/-- the sights of the host's own frames -/
def seenBy (h : Str) : List Fr → List (List Str) → List Str
  | f :: r, x :: t => (if f.1 = h then x else []) ++ seenBy h r t
  | _, _ => []
theorem seenBy_snoc (h : Str) (f : Fr) (x : List Str) : ∀ (r : List Fr) (t : List (List Str)), r.length = t.length → seenBy h (r ++ [f]) (t ++ [x]) = seenBy h r t ++ (if f.1 = h then x else [])
  | [], [], _ => by
    show (if f.1 = h then x else []) ++ [] = [] ++ _
    simp
  | g :: r, y :: t, e => by
    show (if g.1 = h then y else []) ++ seenBy h (r ++ [f]) (t ++ [x]) = ((if g.1 = h then y else []) ++ seenBy h r t) ++ _
    rw [seenBy_snoc h f x r t (by simpa using e), List.append_assoc]
theorem sights_le (W : WD) : ∀ (fs : List Fr) (m : SfM.Mem Str), ∀ x ∈ SfM.sightsFrom W.wb m fs, x.length ≤ W.hs.length
  | [], _, x, h => by cases h
  | f :: r, m, x, h => by
    rcases List.mem_cons.mp h with rfl | h
    · exact List.length_filter_le _ _
    · exact sights_le W r _ x h
def seersOf (W : WD) (past : List Fr) (h : Str) : List Str := W.hs.filter fun x => decide (x ∈ seenBy h past (SfM.sightsFrom W.wb mem0 past))
def spSeers (K : PySem.W.Frag) : Sp := fun vs H Q _ => ∃ (a : Addr) (W : WD) (past : List Fr) (ls lt lo : Addr) (h : Str), vs = [.ref a, .str h] ∧ NetAt K H H a W past ls lt lo ∧ WOk W ∧ h ∈ W.hs ∧ past.length ≤ 100 ∧
  ∀ p H2, H p = none → Ex H H2 → H2 p = some (.tup (txs (seersOf W past h))) → Q (.ref p) H2
theorem F_seers (T : TX K mg) : FnR P w K mg bs CX0 3 (He.ma K (He.ga K "Network") "seers") (spSeers K) :=
  T.f_seers.fn S_seers (fun vs H Q E ⟨_, _, _, _, _, _, _, h, _⟩ => by rw [h] <;> rfl) (fun _ _ _ _ _ _ us hl => match us, hl with | [_, _], _ => rfl) (body0 fun cdv A outer s H vs Q E hr q => by
    obtain ⟨a, W, past, ls, lt, lo, h, rfl, hN, ok, hm, few, k⟩ := q
    have hu := hu_of hr
    refine ⟨_, (pss_cons (ps_expr (pe_methR (pv 0) T.c_Network T.m_Network_need_host (F_need_host T) (hr.mono (by decide)) pass0 (pa_cons (pv 1) pa_nil))) (pss_cons (ps_set (i := 2) S_seers.nd rfl (Or.inr rfl) (pe_lst pa_nil)) (pss_cons (ps_for PassesOwn.never rfl (pi_zip (by rfl) T.b_zip (pa_cons (pe_fld (pv 0) rfl) (pa_cons (pe_fld (pv 0) rfl) pa_nil))) (pg_tup (n := 2) (by rfl) (pgs_cons (pg_name (i := 3) S_seers.nd rfl (Or.inl rfl)) (pgs_cons (pg_name (i := 4) S_seers.nd rfl (Or.inl rfl)) pgs_nil))) (pss_one (ps_if (pt_cmpR op_eq (pe_fld (pv 3) rfl) (pv 1) (nomark _)) (pss_one (ps_expr (pe_bm PySem.F.plainAttrs_list PySem.F.slot_list_extend PySem.F.type_list_extend mt_extT (pv 2) (pa_cons (pv 4) pa_nil)))) pss_nil))) (pss_one (ps_ret (pe_callTy call_tuple_of (by rfl) T.b_tuple (by decide +kernel) (pa_cons (pe_lc (own := [("one", 5)]) rfl S_seers.nd (pi_tup (pe_fld (pv 0) rfl)) (blkOk_by (N := N_seers) (sc := defScope s_seers) (by decide +kernel)) (fun _ _ _ _ _ => (pg_name (i := 5) S_seers.nd rfl (Or.inl rfl))) (fun _ _ _ _ _ => pts_one (pt_at (K := K) (R := fun k => tTest (tOp (rIn k false) _ _)) (pt_cmpR op_in_seq (pv 5) (pv 2) (by rfl)) rfl)) (fun _ _ _ _ _ => (pv 5))) pa_nil))))))), ?_⟩
    obtain ⟨dx, w1, pH, ss, fs, os, h1, h2, h3, h4, h5, h6, h7, h8, h9, h10⟩ := id hN
    have fewH := ok.few
    have fl : fs.length = past.length := Paired.length h7
    have sl := SfM.sightsFrom_len W.wb past mem0
    have ol : os.length = past.length := (Paired.length h9).trans sl
    obtain ⟨X, hX⟩ : ∃ X, X = SfM.sightsFrom W.wb mem0 past := ⟨_, rfl⟩
    rw [← hX] at h9 sl
    have xle : ∀ x ∈ X, x.length ≤ 31 := fun x hx => Nat.le_trans (sights_le W past mem0 x (by rw [← hX]; exact hx)) fewH
    refine ⟨.ref a, rfl, a, dx, _, rfl, h1, netFs_no (by decide +kernel), .str h, rfl, a, W, h, rfl, hN.i, hm, fun H1 e1 => ?_⟩
    refine ⟨Evl.sz_of (by show 0 ≤ 100000; decide), fun l2 hl2 => ?_⟩
    have e2 : Ex H (upd H1 l2 (.lst [])) := e1.trans (Ex.new hl2)
    have nl2 : H l2 = none := Evl.fresh_back e1 hl2
    refine ⟨.ref a, rfl, a, _, dx, _, .ref lt, rfl, e2 _ _ h1, T.c_Network, T.n_Network_sent, rfl, .ref a, rfl, a, _, dx, _, .ref lo, rfl, e2 _ _ h1, T.c_Network, T.n_Network_own_sights, rfl, lt, lo, fs, os, rfl, .inl (.inl (e2 _ _ h6)), .inl (.inl (e2 _ _ h8)),
      for_it (walk_zip (n := past.length) (by omega)) (fun i σ' H' => Ex H H' ∧ H' l2 = some (.lst (txs (seenBy h (past.take i) (X.take i)))) ∧ (seenBy h (past.take i) (X.take i)).length ≤ 31 * i ∧ ∃ x y z, σ' = [some (.ref a), some (.str h), some (.ref l2), x, y, z]) ⟨e2, upd_same, Nat.zero_le _, none, none, none, rfl⟩ (fun i σ' H' _ p => ⟨.inl (.inl (p.1 _ _ h6)), .inl (.inl (p.1 _ _ h8))⟩) ?_ ?_⟩
    · intro i x σ' H' H'' hi ⟨e3, g1, g2, x0, y0, z0, hs⟩ ⟨T2, x1, y1, q1, q2, q3, q4, q5⟩
      subst hs q1 q3
      obtain ⟨f, hf, b, rfl, hb⟩ := paired_at h7 q4
      obtain ⟨xs, hxs, p, rfl, hp⟩ := paired_at h9 q5
      have e4 := e3.trans (Ex.new (o := HO.tup [V.ref b, V.ref p]) q2)
      have g1' := (Ex.new (o := HO.tup [V.ref b, V.ref p]) q2) _ _ g1
      obtain ⟨dxf, hb1⟩ := hb
      have tk1 : past.take (i + 1) = past.take i ++ [f] := by rw [List.take_add_one, hf] <;> rfl
      have tk2 : X.take (i + 1) = X.take i ++ [xs] := by rw [List.take_add_one, hxs] <;> rfl
      have ln : (past.take i).length = (X.take i).length := by rw [List.length_take, List.length_take, sl]
      have xl := xle xs (List.mem_of_getElem? hxs)
      refine ⟨T2, _, rfl, .inl (.inl upd_same), rfl, _, _, rfl, _, _, rfl, rfl, ?_⟩
      refine ⟨.ref b, rfl, b, _, dxf, _, .str f.1, rfl, e4 _ _ hb1, T.c_Frame, T.n_Frame_sender, rfl, .str h, rfl, rfl, _, rfl, ?_⟩
      by_cases c : f.1 = h
      · refine iteY (by rw [c]) ⟨.ref l2, rfl, .inl ⟨rfl, _, .inl (.inl g1')⟩, .ref p, rfl, l2, p, _, txs xs, rfl, rfl, g1', .inl (.inl (e4 _ _ hp)), Evl.sz_of (by rw [txs_len, txs_len]; omega), ?_⟩
        refine ⟨Evl.Ex.mut e4 nl2, ?_, ?_, _, _, _, rfl⟩
        · rw [upd_same, tk1, tk2, seenBy_snoc h f xs _ _ ln, if_pos c]
          simp [txs]
        · rw [tk1, tk2, seenBy_snoc h f xs _ _ ln, if_pos c, List.length_append]
          omega
      · refine iteZ (fun z => c (by injection z)) ⟨e4, ?_, ?_, _, _, _, rfl⟩
        · rw [g1', tk1, tk2, seenBy_snoc h f xs _ _ ln, if_neg c, List.append_nil]
        · rw [tk1, tk2, seenBy_snoc h f xs _ _ ln, if_neg c, List.append_nil]
          omega
    · intro σ' H' ⟨e3, g1, g2, x0, y0, z0, hs⟩
      subst hs
      rw [List.take_length, ← sl, List.take_length] at g1
      refine ⟨.ref a, rfl, a, _, dx, _, .ref pH, rfl, e3 _ _ h1, T.c_Network, T.n_Network_own_hosts, rfl, pH, rfl, ⟨_, .inl (.inl (e3 _ _ h3))⟩, fun D hD => lcFM walk_tup hD (fun v => inV v (txs (seenBy h past X))) id (by rw [txs_len]; omega) (fun H' e => Evl.ex_t e (.inl (.inl (e3 _ _ h3)))) ?_ ?_⟩
      · intro i x Ha hx e C C0 hC hC0
        obtain ⟨y, hy, rfl⟩ := txs_get hx
        refine ⟨rfl, .str y, rfl, .ref l2, rfl, l2, _, rfl, .inl (.inl (.inl (e _ _ g1))), rfl, flat_txs _, _, rfl, ?_⟩
        show if inV (.str y) (txs (seenBy h past X)) = true then _ else _
        cases hi : inV (.str y) (txs (seenBy h past X)) with
        | true => exact iteT ⟨.str y, rfl, hC hi _ (Ex.refl _)⟩
        | false => exact iteF (hC0 hi _ (Ex.refl _))
      · intro H2 e4 h2'
        have e34 := e3.trans e4
        refine ⟨D, _, rfl, .inl ⟨.inl (.inl h2'), fun z hz => k z _ (Evl.fresh_back e34 hz) (e34.trans (Ex.new hz)) ?_⟩⟩
        rw [upd_same, List.map_id, List.filter_map]
        show _ = some (HO.tup ((W.hs.filter fun x => decide (x ∈ seenBy h past (SfM.sightsFrom W.wb mem0 past))).map V.str))
        rw [← hX]
        congr 3
        refine List.filter_congr fun x _ => ?_
        exact inV_txs x _)
end SfW
namespace SfW
open PySem PySem.Spec PyProof.Rows L2
open Evl (Ex RetV)
/-! networks: taken back, reset -/
variable {P : Program} {w : World} {K : PySem.W.Frag} {mg : Str → Option Value} {bs : Heap}
/-- H without the addresses A, and without tables -/
def cut (A : List Addr) (H : Hp) : Hp := fun b => if b ∈ A then none else match H b with
  | some (.tbl _) => none
  | o => o
theorem cut_of {A : List Addr} {H : Hp} {b : Addr} {o : HO} (h : cut A H b = some o) : b ∉ A ∧ H b = some o ∧ ∀ ps, o ≠ .tbl ps := by
  unfold cut at h
  split at h
  · cases h
  · rename_i n
    split at h
    · cases h
    · rename_i q
      exact ⟨n, h, fun ps z => q ps (by rw [h, z])⟩
theorem cut_in {A : List Addr} {H : Hp} {b : Addr} {o : HO} (h : H b = some o) (n : b ∉ A) (t : ∀ ps, o ≠ .tbl ps) : cut A H b = some o := by
  unfold cut
  rw [if_neg n]
  split
  · rename_i ps e
    rw [h] at e
    exact absurd (Option.some.inj e) (t ps)
  · exact h
theorem cut_ex {A : List Addr} {H : Hp} : Ex (cut A H) H := fun b o h => (cut_of h).2.1
/-- from A to A': what is not in A stands, A' is in A or new -/
structure Mv (A : List Addr) (H : Hp) (A' : List Addr) (H' : Hp) : Prop where
  keep : ∀ b o, H b = some o → b ∉ A → (∀ ps, o ≠ .tbl ps) → H' b = some o
  new : ∀ b ∈ A', b ∈ A ∨ H b = none
theorem Mv.cut {A A' : List Addr} {H H' : Hp} (m : Mv A H A' H') : Ex (cut A H) (SfW.cut A' H') := fun b o h => by
  obtain ⟨n, hb, t⟩ := cut_of h
  refine cut_in (m.keep b o hb n t) (fun z => ?_) t
  rcases m.new b z with q | q
  · exact n q
  · rw [hb] at q
    cases q
theorem Mv.of {A : List Addr} {H H' : Hp} (e : Ex H H') : Mv A H A H' := ⟨fun b o h _ _ => e b o h, fun b h => .inl h⟩
theorem Mv.trans {A B C : List Addr} {H H1 H2 : Hp} (m : Mv A H B H1) (n : Mv B H1 C H2) (k : ∀ b o, H b = some o → H1 b = none → False) : Mv A H C H2 :=
  ⟨fun b o h na t => n.keep b o (m.keep b o h na t) (fun z => by
    rcases m.new b z with q | q
    · exact na q
    · rw [h] at q
      cases q) t, fun b h => by
    rcases n.new b h with q | q
    · exact m.new b q
    · cases y : H b with
      | none => exact .inr rfl
      | some o => exact (k b o y q).elim⟩
def spBack (K : PySem.W.Frag) : Sp := fun vs H Q _ => ∃ (a : Addr) (G : Hp) (W : WD) (past : List Fr) (f : Fr) (ls lt lo : Addr), vs = [.ref a] ∧ NetAt K G H a W (past ++ [f]) ls lt lo ∧ past.length ≤ 100 ∧ G ls = none ∧ G lt = none ∧ G lo = none ∧
  ∀ v H2, (∀ b, b ≠ ls → b ≠ lt → b ≠ lo → H2 b = H b) → NetAt K G H2 a W past ls lt lo → Q v H2
theorem F_back (T : TX K mg) : FnR P w K mg bs CX0 1 (He.ma K (He.ga K "Network") "back") (spBack K) :=
  T.f_back.fn S_back (fun vs H Q E ⟨_, _, _, _, _, _, _, _, h, _⟩ => by rw [h] <;> rfl) (fun _ _ _ _ _ _ us hl => match us, hl with | [_], _ => rfl) (body0 fun cdv A outer s H vs Q E hr q => by
    obtain ⟨a, G, W, past, f, ls, lt, lo, rfl, hN, few, ng1, ng2, ng3, k⟩ := q
    have hu := hu_of hr
    refine ⟨_, (pss_cons (ps_if (pt_cmpR op_eq (pe_callB call_len_seq (by rfl) T.b_len PySem.boot_len (pa_cons (pe_fld (pv 0) rfl) pa_nil)) pe_int (nomark _)) pss_never pss_nil) (pss_cons (ps_expr (pe_bm0 PySem.F.plainAttrs_list PySem.F.slot_list_pop PySem.F.type_list_pop mt_pop (pe_fld (pv 0) rfl))) (pss_cons (ps_expr (pe_bm0 PySem.F.plainAttrs_list PySem.F.slot_list_pop PySem.F.type_list_pop mt_pop (pe_fld (pv 0) rfl))) (pss_one (ps_ret (pe_bm0 PySem.F.plainAttrs_list PySem.F.slot_list_pop PySem.F.type_list_pop mt_pop (pe_fld (pv 0) rfl))))))), ?_⟩
    obtain ⟨dx, w1, pH, ss, fs, os, h1, h2, h3, h4, h5, h6, h7, h8, h9, d1, d2, d3⟩ := id hN
    obtain ⟨ms, hms⟩ : ∃ ms, SfM.memsFrom W.wb mem0 (past ++ [f]) = SfM.memsFrom W.wb mem0 past ++ [ms] := ⟨_, SfM.memsFrom_snoc W.wb f past mem0⟩
    rw [hms] at h5
    rw [SfM.sightsFrom_snoc] at h9
    obtain ⟨ss', v1, rfl, g5, _⟩ := paired_last h5
    obtain ⟨fs', v2, rfl, g7, _⟩ := paired_last h7
    obtain ⟨os', v3, rfl, g9, _⟩ := paired_last h9
    have na1 : a ≠ ls := ne_of h1 h4 (fun z => nomatch z)
    have na2 : a ≠ lt := ne_of h1 h6 (fun z => nomatch z)
    have na3 : a ≠ lo := ne_of h1 h8 (fun z => nomatch z)
    refine ⟨.ref a, rfl, a, _, dx, _, .ref lt, rfl, h1, T.c_Network, T.n_Network_sent, rfl, lt, _, rfl, .inl (.inl (.inl h6)), rfl, _, rfl, iteZ (fun z => by injection z with z; rw [List.length_append, List.length_singleton] at z; omega) ?_⟩
    refine ⟨.ref a, rfl, a, _, dx, _, .ref ls, rfl, h1, T.c_Network, T.n_Network_states, rfl, .inl ⟨rfl, _, .inl (.inl h4)⟩, ls, ss' ++ [v1], v1, rfl, rfl, h4, by simp, ?_⟩
    rw [List.dropLast_concat]
    have a2 : upd H ls (.lst ss') a = some (.ins (He.ga K "Network") dx (netFs w1 pH ls lt lo)) := by rw [upd_ne na1] <;> exact h1
    have o2 : upd H ls (.lst ss') lo = some (.lst (os' ++ [v3])) := by rw [upd_ne (Ne.symm d2)] <;> exact h8
    refine ⟨.ref a, rfl, a, _, dx, _, .ref lo, rfl, a2, T.c_Network, T.n_Network_own_sights, rfl, .inl ⟨rfl, _, .inl (.inl o2)⟩, lo, os' ++ [v3], v3, rfl, rfl, o2, by simp, ?_⟩
    rw [List.dropLast_concat]
    have a3 : upd (upd H ls (.lst ss')) lo (.lst os') a = some (.ins (He.ga K "Network") dx (netFs w1 pH ls lt lo)) := by rw [upd_ne na3] <;> exact a2
    have t3 : upd (upd H ls (.lst ss')) lo (.lst os') lt = some (.lst (fs' ++ [v2])) := by rw [upd_ne d3, upd_ne (Ne.symm d1)] <;> exact h6
    refine ⟨.ref a, rfl, a, _, dx, _, .ref lt, rfl, a3, T.c_Network, T.n_Network_sent, rfl, .inl ⟨rfl, _, .inl (.inl t3)⟩, lt, fs' ++ [v2], v2, rfl, rfl, t3, by simp, ?_⟩
    rw [List.dropLast_concat]
    refine k v2 _ (fun b n1 n2 n3 => by rw [upd_ne n2, upd_ne n3, upd_ne n1]) ⟨dx, w1, pH, ss', fs', os', by rw [upd_ne na2]; exact a3, h2, h3, ?_, g5, upd_same, g7, ?_, g9, d1, d2, d3⟩
    · rw [upd_ne d1, upd_ne d2]
      exact upd_same
    · rw [upd_ne (Ne.symm d3)]
      exact upd_same)
def spReset (K : PySem.W.Frag) : Sp := fun vs H Q _ => ∃ (a : Addr) (G : Hp) (W : WD) (past : List Fr) (ls lt lo : Addr), vs = [.ref a] ∧ NetAt K G H a W past ls lt lo ∧ past.length ≤ 100 ∧
  ∀ v H2 l1 l2 l3, (∀ b o, b ≠ a → H b = some o → H2 b = some o) → H l1 = none → H l2 = none → H l3 = none → NetAt K G H2 a W [] l1 l2 l3 → Q v H2
theorem F_reset (T : TX K mg) : FnR P w K mg bs CX0 1 (He.ma K (He.ga K "Network") "reset") (spReset K) :=
  T.f_reset.fn S_reset (fun vs H Q E ⟨_, _, _, _, _, _, _, h, _⟩ => by rw [h] <;> rfl) (fun _ _ _ _ _ _ us hl => match us, hl with | [_], _ => rfl) (body0 fun cdv A outer s H vs Q E hr q => by
    obtain ⟨a, G, W, past, ls, lt, lo, rfl, hN, few, k⟩ := q
    refine ⟨_, (pss_cons (ps_fld (pv 0) (pe_slice sl_list (pe_fld (pv 0) rfl) po_none (po_some pe_int)) rfl) (pss_cons (ps_fld (pv 0) (pe_lst pa_nil) rfl) (pss_one (ps_fld (pv 0) (pe_lst pa_nil) rfl)))), ?_⟩
    obtain ⟨dx, w1, pH, ss, fs, os, h1, h2, h3, h4, h5, h6, h7, h8, h9, d1, d2, d3⟩ := id hN
    obtain ⟨r0, hr0⟩ := SfM.memsFrom_head W.wb past mem0
    rw [hr0] at h5
    obtain ⟨v0, vs0, rfl, g5⟩ : ∃ v0 vs0, ss = v0 :: vs0 ∧ MemAt G W v0 mem0 := by
      cases h5 with
      | cons h t => exact ⟨_, _, rfl, h⟩
    refine ⟨.ref a, rfl, a, _, dx, _, .ref ls, rfl, h1, T.c_Network, T.n_Network_states, rfl, 1, rfl, ls, _, rfl, .inl (.inl h4), fun l1 hl1 => ?_⟩
    rw [show (some (1 : Int)) = some ((1 : Nat) : Int) from rfl, cut_take _ 1 (by rw [List.length_cons]; omega), show (v0 :: vs0).take 1 = [v0] from rfl]
    have e1 : Ex H (upd H l1 (.lst [v0])) := Ex.new hl1
    refine ⟨.ref a, rfl, a, _, dx, _, rfl, e1 _ _ h1, T.c_Network, T.n_Network_states, (by show 6 < 1000; decide), ?_⟩
    generalize hG : upd (upd H l1 _) a _ = G1
    have a1 : G1 a = some (.ins (He.ga K "Network") dx (netFs w1 pH l1 lt lo)) := by rw [← hG] <;> exact upd_same
    have x1 : Ex (del a H) (del a G1) := by rw [← hG, del_put] <;> exact del_mono e1
    have q1 : del a G1 l1 = some (.lst [v0]) := by
      rw [← hG, del_put]
      exact del_of upd_same (e1 _ _ h1) (fun z => nomatch z)
    clear hG
    refine ⟨Evl.sz_of (by show 0 ≤ 100000; decide), fun l2 hl2 => ⟨.ref a, rfl, a, _, dx, _, rfl, (Ex.new hl2) _ _ a1, T.c_Network, T.n_Network_sent, (by show 6 < 1000; decide), ?_⟩⟩
    have aT := (Ex.new (o := .lst []) hl2) _ _ a1
    generalize hG : upd (upd G1 l2 _) a _ = G2
    have a2 : G2 a = some (.ins (He.ga K "Network") dx (netFs w1 pH l1 l2 lo)) := by rw [← hG] <;> exact upd_same
    have x2 : Ex (del a G1) (del a G2) := by rw [← hG, del_put] <;> exact del_mono (Ex.new hl2)
    have q2 : del a G2 l2 = some (.lst []) := by
      rw [← hG, del_put]
      exact del_of upd_same aT (fun z => nomatch z)
    clear hG
    refine ⟨Evl.sz_of (by show 0 ≤ 100000; decide), fun l3 hl3 => ⟨.ref a, rfl, a, _, dx, _, rfl, (Ex.new hl3) _ _ a2, T.c_Network, T.n_Network_own_sights, (by show 6 < 1000; decide), ?_⟩⟩
    have x3 : Ex (del a G2) (del a (upd (upd G2 l3 (.lst [])) a (.ins (He.ga K "Network") dx (netFs w1 pH l1 l2 l3)))) := by rw [del_put] <;> exact del_mono (Ex.new hl3)
    have x12 := x1.trans x2
    have n3 : l3 ≠ a := fun z => by
      rw [z, a2] at hl3
      cases hl3
    refine k .non _ l1 l2 l3 (fun b o n h => (of_del ((x12.trans x3) _ _ (by rw [del_ne n]; exact h))).2) hl1 (fresh_del x1 (Ex.refl _) a1 hl2) (fresh_del x12 (Ex.refl _) a2 hl3) ⟨dx, w1, pH, [v0], [], [], upd_same, h2, h3, (of_del (x3 _ _ (x2 _ _ q1))).2, .cons g5 .nil, (of_del (x3 _ _ q2)).2, .nil, ?_, .nil, fun z => ?_, fun z => ?_, fun z => ?_⟩
    · show upd (upd G2 l3 (.lst [])) a _ l3 = _
      rw [upd_ne n3]
      exact upd_same
    · rw [z] at q1
      rw [(of_del q1).2] at hl2
      cases hl2
    · rw [z] at q1
      rw [(of_del (x2 _ _ q1)).2] at hl3
      cases hl3
    · rw [z] at q2
      rw [(of_del q2).2] at hl3
      cases hl3)
end SfW
namespace SfW
open PySem PySem.Spec PyProof.Rows L2
open Evl (Ex RetV)
/-! networks: a frame sent -/
variable {P : Program} {w : World} {K : PySem.W.Frag} {mg : Str → Option Value} {bs : Heap}
def spNeedFrame (K : PySem.W.Frag) : Sp := fun vs H Q _ => ∃ (a fr : Addr) (W : WD) (f : Fr), vs = [.ref a, .ref fr] ∧ NetI K H a W ∧ FrAt K H fr f.1 f.2 ∧ SfM.FrIn W.wb f ∧ RetV .non H Q
theorem F_need_frame (T : TX K mg) : FnR P w K mg bs CX0 2 (He.ma K (He.ga K "Network") "need_frame") (spNeedFrame K) :=
  T.f_need_frame.fn S_need_frame (fun vs H Q E ⟨_, _, _, _, h, _⟩ => by rw [h] <;> rfl) (fun _ _ _ _ _ _ us hl => match us, hl with | [_, _], _ => rfl) (body0 fun cdv A outer s H vs Q E hr q => by
    obtain ⟨a, fr, W, ⟨sd, tg⟩, rfl, hN, hF, fin, k⟩ := q
    refine ⟨_, (pss_cons (ps_if (pt_not (pt_val (pe_callB call_isi (by rfl) T.b_isinstance (by decide +kernel) (pa_cons (pv 1) (pa_cons (pe_glob (v := .ref (He.ga K "Frame")) (by rfl) T.g_Frame rfl) pa_nil))))) pss_never pss_nil) (pss_cons (ps_expr (pe_methR (pv 0) T.c_Network T.m_Network_need_host (F_need_host T) (hr.mono (by decide)) pass0 (pa_cons (pe_fld (pv 1) rfl) pa_nil))) (pss_one (ps_if (pt_cmpR op_notN (pe_fld (pv 1) rfl) pe_non (nomark _)) (pss_one (ps_expr (pe_methR (pv 0) T.c_Network T.m_Network_need_host (F_need_host T) (hr.mono (by decide)) pass0 (pa_cons (pe_fld (pv 1) rfl) pa_nil)))) pss_nil)))), ?_⟩
    obtain ⟨dx, w1, pH, ls, lt, lo, ha, hW, hpH⟩ := id hN
    obtain ⟨dxf, hF1⟩ := hF
    refine ⟨.ref fr, rfl, .ref fr, .ref (He.ga K "Frame"), .ref (He.ga K "Frame"), .ref (He.ga K "Frame"), true, rfl, .own _, ty_ins hF1 T.c_Frame T.q_Frame, T.is_Frame_Frame, true, rfl, iteF ?_⟩
    refine ⟨.ref a, rfl, a, dx, _, rfl, ha, netFs_no (by decide +kernel), .ref fr, rfl, fr, _, dxf, _, .str sd, rfl, hF1, T.c_Frame, T.n_Frame_sender, rfl, a, W, sd, rfl, hN, fin.1, fun H1 e1 => ?_⟩
    cases tg with
    | none => exact ⟨.ref fr, rfl, fr, _, dxf, _, .non, rfl, e1 _ _ hF1, T.c_Frame, T.n_Frame_target, rfl, rfl, _, rfl, iteF (k _ e1)⟩
    | some t =>
      refine ⟨.ref fr, rfl, fr, _, dxf, _, .str t, rfl, e1 _ _ hF1, T.c_Frame, T.n_Frame_target, rfl, rfl, _, rfl, iteT ?_⟩
      exact ⟨.ref a, rfl, a, dx, _, rfl, e1 _ _ ha, netFs_no (by decide +kernel), .ref fr, rfl, fr, _, dxf, _, .str t, rfl, e1 _ _ hF1, T.c_Frame, T.n_Frame_target, rfl, a, W, t, rfl, hN.mono e1, fin.2 t rfl, fun H2 e2 => k _ (e1.trans e2)⟩)
/-- what is changed: lists and instances -/
def Muts (A : List Addr) (H : Hp) : Prop := ∀ b ∈ A, (∃ xs, H b = some (.lst xs)) ∨ ∃ C dx fs, H b = some (.ins C dx fs)
theorem Muts.no {A : List Addr} {H H1 : Hp} {b : Addr} {o : HO} (m : Muts A H) (e : Ex H H1) (h : H1 b = some o) (n1 : ∀ xs, o ≠ .lst xs) (n2 : ∀ C dx fs, o ≠ .ins C dx fs) : b ∉ A := fun z => by
  rcases m b z with ⟨xs, q⟩ | ⟨C, dx, fs, q⟩
  · rw [e _ _ q] at h
    exact n1 _ (Option.some.inj h).symm
  · rw [e _ _ q] at h
    exact n2 _ _ _ (Option.some.inj h).symm
theorem cut_upd {A : List Addr} {H : Hp} {b : Addr} {o : HO} (h : b ∈ A) : cut A (upd H b o) = cut A H := by
  funext c
  unfold cut
  by_cases q : c ∈ A
  · rw [if_pos q, if_pos q]
  · rw [if_neg q, if_neg q, upd_ne (fun z => q (by rw [z]; exact h))]
theorem cut_mono {A : List Addr} {H H1 : Hp} (e : Ex H H1) : Ex (cut A H) (cut A H1) := fun b o h => by
  obtain ⟨n, h1, t⟩ := cut_of h
  exact cut_in (e _ _ h1) n t
theorem StateAt.cut {A : List Addr} {H H1 : Hp} {W : WD} {d : Addr} {m : SfM.Mem Str} (mu : Muts A H) (e : Ex H H1) (h : StateAt H1 W d m) : StateAt (SfW.cut A H1) W d m := by
  have t : ∀ {b : Addr} {kvs : List (Key × V)}, H1 b = some (.dK kvs) → SfW.cut A H1 b = some (.dK kvs) := fun {b kvs} q => cut_in q (mu.no e q (fun _ z => nomatch z) fun _ _ _ z => nomatch z) fun _ z => nomatch z
  obtain ⟨kvs, h1, h2, h3⟩ := h
  exact ⟨kvs, t h1, h2, fun s hs => let ⟨l, a, b⟩ := h3 s hs; ⟨l, a, t b⟩⟩
def spSend (K : PySem.W.Frag) : Sp := fun vs H Q _ => ∃ (A : List Addr) (a fr : Addr) (W : WD) (past : List Fr) (f : Fr) (ls lt lo : Addr), vs = [.ref a, .ref fr] ∧ NetAt K (cut A H) H a W past ls lt lo ∧ Muts A H ∧ ls ∈ A ∧ lt ∈ A ∧ lo ∈ A ∧ WOk W ∧ (∀ g ∈ past, SfM.FrIn W.wb g) ∧ FrAt K (cut A H) fr f.1 f.2 ∧ SfM.FrIn W.wb f ∧ past.length ≤ 100 ∧
  ∀ v H2, (∀ b o, H b = some o → b ≠ ls → b ≠ lt → b ≠ lo → H2 b = some o) → NetAt K (cut A H2) H2 a W (past ++ [f]) ls lt lo → Q v H2
theorem F_send (T : TX K mg) : FnR P w K mg bs CX0 4 (He.ma K (He.ga K "Network") "send") (spSend K) :=
  T.f_send.fn S_send (fun vs H Q E ⟨_, _, _, _, _, _, _, _, _, h, _⟩ => by rw [h] <;> rfl) (fun _ _ _ _ _ _ us hl => match us, hl with | [_, _], _ => rfl) (body0 fun cdv Ar outer s H vs Q E hr q => by
    obtain ⟨A, a, fr, W, past, f, ls, lt, lo, rfl, hN, mu, i1, i2, i3, ok, fins, hF, fin, few, k⟩ := q
    refine ⟨_, (pss_cons (ps_expr (pe_methR (pv 0) T.c_Network T.m_Network_need_frame (F_need_frame T) (hr.mono (by decide)) pass0 (pa_cons (pv 1) pa_nil))) (pss_cons (ps_set (i := 2) S_send.nd rfl (Or.inl rfl) (pe_ix ix_list (pe_fld (pv 0) rfl) (pe_un un_neg pe_int) (fun _ _ => rfl))) (pss_cons (ps_set (i := 3) S_send.nd rfl (Or.inl rfl) (pe_methR (pv 0) T.c_Network T.m_Network_sight_at (F_sight_at T) (hr.mono (by decide)) pass0 (pa_cons (pv 2) (pa_cons (pv 1) pa_nil)))) (pss_cons (ps_expr (pe_bm PySem.F.plainAttrs_list PySem.F.slot_list_append PySem.F.type_list_append mt_append (pe_fld (pv 0) rfl) (pa_cons (pe_methR (pv 0) T.c_Network T.m_Network_state_behind (F_state_behind T) (hr.mono (by decide)) pass0 (pa_cons (pv 2) (pa_cons (pv 1) (pa_cons (pv 3) pa_nil)))) pa_nil))) (pss_cons (ps_expr (pe_bm PySem.F.plainAttrs_list PySem.F.slot_list_append PySem.F.type_list_append mt_append (pe_fld (pv 0) rfl) (pa_cons (pv 1) pa_nil))) (pss_cons (ps_expr (pe_bm PySem.F.plainAttrs_list PySem.F.slot_list_append PySem.F.type_list_append mt_append (pe_fld (pv 0) rfl) (pa_cons (pv 3) pa_nil))) (pss_one (ps_ret (pv 3))))))))), ?_⟩
    have hNH : NetAt K H H a W past ls lt lo := hN.mono cut_ex fun b _ o q => q
    have hFH : FrAt K H fr f.1 f.2 := hF.mono cut_ex
    obtain ⟨dx, w1, pH, ss, fs, os, h1, h2, h3, h4, h5, h6, h7, h8, h9, d1, d2, d3⟩ := id hN
    have wok : SfM.WbOk W.wb := ⟨ok.tree, ok.home⟩
    have mok := SfM.memFrom_ok wok (SfM.mem0_ok (W := W.wb)) fins
    obtain ⟨m, hm⟩ : ∃ m, m = SfM.memFrom W.wb mem0 past := ⟨_, rfl⟩
    rw [← hm] at mok
    obtain ⟨ms, hms⟩ := SfM.memsFrom_last W.wb past mem0
    have sl : ss.length ≤ 101 := by
      rw [Paired.length h5, SfM.memsFrom_len]
      omega
    have fl : fs.length = past.length := Paired.length h7
    have ol : os.length = past.length := (Paired.length h9).trans (SfM.sightsFrom_len W.wb past mem0)
    have h5' := h5
    rw [hms, ← hm] at h5
    obtain ⟨ss', v, rfl, _, d, rfl, hd⟩ := paired_last h5
    have hdH : StateAt H W d m := hd.mono cut_ex
    have na1 : a ≠ ls := ne_of h1 h4 (fun z => nomatch z)
    have na2 : a ≠ lt := ne_of h1 h6 (fun z => nomatch z)
    have na3 : a ≠ lo := ne_of h1 h8 (fun z => nomatch z)
    refine ⟨.ref a, rfl, a, dx, _, rfl, h1, netFs_no (by decide +kernel), .ref fr, rfl, a, fr, W, f, rfl, hNH.i, hFH, fin, fun H1 e1 => ?_⟩
    refine ⟨.ref a, rfl, a, _, dx, _, .ref ls, rfl, e1 _ _ h1, T.c_Network, T.n_Network_states, rfl, 1, rfl, ls, _, -1, .ref d, rfl, rfl, .inl (.inl (e1 _ _ h4)), atI_last _ _, ?_⟩
    refine ⟨.ref a, rfl, a, dx, _, rfl, e1 _ _ h1, netFs_no (by decide +kernel), .ref d, rfl, .ref fr, rfl, a, d, fr, W, m, f, rfl, hNH.i.mono e1, ok, hdH.mono e1, mok, hFH.mono e1, fin, fun p H2 np e2 hp => ?_⟩
    have e12 := e1.trans e2
    refine ⟨.ref a, rfl, a, _, dx, _, .ref ls, rfl, e12 _ _ h1, T.c_Network, T.n_Network_states, rfl, .inl ⟨rfl, _, .inl (.inl (e12 _ _ h4))⟩, .ref a, rfl, a, dx, _, rfl, e12 _ _ h1, netFs_no (by decide +kernel), .ref d, rfl, .ref fr, rfl, .ref p, rfl,
      a, d, fr, .ref p, W, m, f, rfl, hNH.i.mono e12, ok, hdH.mono e12, mok, hFH.mono e12, fin, fun q H3 nq e3 hq => ?_⟩
    have e13 := e12.trans e3
    refine ⟨ls, _, .ref q, rfl, rfl, e13 _ _ h4, Evl.sz_lt (by omega), ?_⟩
    have a4 : upd H3 ls (.lst (ss' ++ [.ref d] ++ [.ref q])) a = some (.ins (He.ga K "Network") dx (netFs w1 pH ls lt lo)) := by rw [upd_ne na1] <;> exact e13 _ _ h1
    have t4 : upd H3 ls (.lst (ss' ++ [.ref d] ++ [.ref q])) lt = some (.lst fs) := by rw [upd_ne (Ne.symm d1)] <;> exact e13 _ _ h6
    refine ⟨.ref a, rfl, a, _, dx, _, .ref lt, rfl, a4, T.c_Network, T.n_Network_sent, rfl, .inl ⟨rfl, _, .inl (.inl t4)⟩, .ref fr, rfl, lt, fs, .ref fr, rfl, rfl, t4, Evl.sz_lt (by omega), ?_⟩
    have a5 : upd (upd H3 ls (.lst (ss' ++ [.ref d] ++ [.ref q]))) lt (.lst (fs ++ [.ref fr])) a = some (.ins (He.ga K "Network") dx (netFs w1 pH ls lt lo)) := by rw [upd_ne na2] <;> exact a4
    have o5 : upd (upd H3 ls (.lst (ss' ++ [.ref d] ++ [.ref q]))) lt (.lst (fs ++ [.ref fr])) lo = some (.lst os) := by rw [upd_ne (Ne.symm d3), upd_ne (Ne.symm d2)] <;> exact e13 _ _ h8
    refine ⟨.ref a, rfl, a, _, dx, _, .ref lo, rfl, a5, T.c_Network, T.n_Network_own_sights, rfl, .inl ⟨rfl, _, .inl (.inl o5)⟩, .ref p, rfl, lo, os, .ref p, rfl, rfl, o5, Evl.sz_lt (by omega), ?_⟩
    have cu : cut A (upd (upd (upd H3 ls (.lst (ss' ++ [.ref d] ++ [.ref q]))) lt (.lst (fs ++ [.ref fr]))) lo (.lst (os ++ [.ref p]))) = cut A H3 := by
      rw [cut_upd i3, cut_upd i2, cut_upd i1]
    have ce := cut_mono (A := A) e13
    refine ⟨.ref p, rfl, k _ _ (fun b o h n1 n2 n3 => by rw [upd_ne n3, upd_ne n2, upd_ne n1]; exact e13 _ _ h) ?_⟩
    rw [cu]
    refine ⟨dx, w1, pH, _, _, _, by rw [upd_ne na3]; exact a5, h2.mono ce, ce _ _ h3, by rw [upd_ne d2, upd_ne d1]; exact upd_same, ?_, by rw [upd_ne d3]; exact upd_same, ?_, upd_same, ?_, d1, d2, d3⟩
    · rw [SfM.memsFrom_snoc, ← hm]
      exact paired_snoc (Paired.mapP h5' fun v m ⟨d, g1, g2⟩ => ⟨d, g1, g2.mono ce⟩) ⟨q, rfl, StateAt.cut mu e13 hq⟩
    · exact paired_snoc (FrsAt.mono h7 ce) ⟨fr, rfl, hF.mono ce⟩
    · rw [SfM.sightsFrom_snoc, ← hm]
      exact paired_snoc (Paired.mapP h9 fun v m ⟨d, g1, g2⟩ => ⟨d, g1, ce _ _ g2⟩) ⟨p, rfl, cut_in (e3 _ _ hp) (mu.no e13 (e3 _ _ hp) (fun _ z => nomatch z) fun _ _ _ z => nomatch z) fun _ z => nomatch z⟩)
end SfW
namespace SfW
open PySem PySem.Spec PyProof.Rows L2
open Evl (Ex RetV)
/-! networks: a history played -/
variable {P : Program} {w : World} {K : PySem.W.Frag} {mg : Str → Option Value} {bs : Heap}
def spPlay (K : PySem.W.Frag) : Sp := fun vs H Q _ => ∃ (A : List Addr) (a h : Addr) (W : WD) (fs : List Fr) (ls lt lo : Addr), vs = [.ref a, .ref h] ∧ NetAt K (cut A H) H a W [] ls lt lo ∧ Muts A H ∧ a ∈ A ∧ ls ∈ A ∧ lt ∈ A ∧ lo ∈ A ∧ WOk W ∧ HistAt K (cut A H) h fs ∧ (∀ g ∈ fs, SfM.FrIn W.wb g) ∧ fs.length ≤ 31 ∧
  ∀ v H2, (∀ b o, H b = some o → b ≠ ls → b ≠ lt → b ≠ lo → H2 b = some o) → NetAt K (cut A H2) H2 a W fs ls lt lo → Q v H2
theorem F_play (T : TX K mg) : FnR P w K mg bs CX0 5 (He.ma K (He.ga K "Network") "play") (spPlay K) :=
  T.f_play.fn S_play (fun vs H Q E ⟨_, _, _, _, _, _, _, _, h, _⟩ => by rw [h] <;> rfl) (fun _ _ _ _ _ _ us hl => match us, hl with | [_, _], _ => rfl) (body0 fun cdv Ar outer s H vs Q E hr q => by
    obtain ⟨A, a, h, W, fs, ls, lt, lo, rfl, hN, mu, i0, i1, i2, i3, ok, hH, fins, few, k⟩ := q
    refine ⟨_, (pss_cons (ps_for PassesOwn.never rfl (pi_tup (pe_propR (pv 1) T.c_History T.p_History_hosts (F_History_hosts T) (hr.mono (by decide)) pass0)) (pg_name (i := 2) S_play.nd rfl (Or.inl rfl)) (pss_one (ps_expr (pe_methR (pv 0) T.c_Network T.m_Network_need_host (F_need_host T) (hr.mono (by decide)) pass0 (pa_cons (pv 2) pa_nil))))) (pss_one (ps_ret (pe_callTy call_tuple_of (by rfl) T.b_tuple (by decide +kernel) (pa_cons (pe_lc (own := [("frame", 3)]) rfl S_play.nd (pi_tup (pe_propR (pv 1) T.c_History T.p_History_frames (F_History_frames T) (hr.mono (by decide)) pass0)) (blkOk_by (N := N_play) (sc := defScope s_play) (by decide +kernel)) (fun _ _ _ _ _ => (pg_name (i := 3) S_play.nd rfl (Or.inl rfl))) (fun _ _ _ _ _ => pts_nil) (fun _ _ _ _ _ => (pe_methR (pv 0) T.c_Network T.m_Network_send (F_send T) (hr.mono (by decide)) pass0 (pa_cons (pv 3) pa_nil)))) pa_nil))))), ?_⟩
    have hNH : NetAt K H H a W [] ls lt lo := hN.mono cut_ex fun b _ o q => q
    have hHH : HistAt K H h fs := hH.mono cut_ex
    obtain ⟨dxh, p, refs, g1, g2, g3⟩ := id hH
    have g1' := cut_ex _ _ g1
    obtain ⟨dx, w1, pH, ss, ft, os, h1, h2, h3, h4, h5, h6, h7, h8, h9, d1, d2, d3⟩ := id hN
    refine ⟨.ref h, rfl, h, dxh, _, rfl, g1', h, fs, rfl, hHH, few, fun ys q H1 nq e1 hq _ _ hy => ?_⟩
    have hin : ∀ y ∈ ys, y ∈ W.hs := fun y hm => by
      rcases List.mem_append.mp ((hy y).mp hm) with z | z
      · obtain ⟨f, hf, rfl⟩ := List.mem_map.mp z
        exact (fins f hf).1
      · obtain ⟨f, hf, e⟩ := List.mem_filterMap.mp z
        exact (fins f hf).2 y e
    refine ⟨q, rfl, ⟨_, .inl (.inl hq)⟩, for_tup (xs := txs ys) (fun i σ' Hx => Ex H1 Hx ∧ ∃ x y, σ' = [some (.ref a), some (.ref h), x, y]) ⟨Ex.refl _, none, none, rfl⟩ (fun i σ' Hx _ p => .inl (.inl (p.1 _ _ hq))) ?_ ?_⟩
    · intro i x σ' Hx hx ⟨e2, x0, y0, hs⟩
      subst hs
      obtain ⟨y, hy', rfl⟩ := txs_get hx
      exact ⟨.ref a, rfl, a, dx, _, rfl, (e1.trans e2) _ _ h1, netFs_no (by decide +kernel), .str y, rfl, a, W, y, rfl, hNH.i.mono (e1.trans e2), hin y (List.mem_of_getElem? hy'), fun H2 e3 => ⟨e2.trans e3, _, _, rfl⟩⟩
    · intro σ' Hx ⟨e2, x0, y0, hs⟩
      subst hs
      have ex := e1.trans e2
      refine ⟨.ref h, rfl, h, dxh, _, rfl, ex _ _ g1', h, dxh, _, .ref p, rfl, ex _ _ g1', rfl, p, rfl, ⟨_, .inl (.inl (ex _ _ (cut_ex _ _ g2)))⟩, fun D hD => ?_⟩
      have rl : refs.length = fs.length := Paired.length g3
      have nD : ∀ {b : Addr} {o : HO}, H b = some o → b ≠ D := fun {b o} hb z => by
        rw [← z, ex _ _ hb] at hD
        cases hD
      have ii1 : ls ∈ D :: A := List.mem_cons_of_mem _ i1
      have ii2 : lt ∈ D :: A := List.mem_cons_of_mem _ i2
      have ii3 : lo ∈ D :: A := List.mem_cons_of_mem _ i3
      -- what stood aside from the lists
      have cex : ∀ {Hy : Hp}, (∀ b o, Hx b = some o → b ≠ ls → b ≠ lt → b ≠ lo → Hy b = some o) → Ex (cut A H) (cut (D :: A) Hy) := fun {Hy} fr b o hb => by
        obtain ⟨n, hb2, t⟩ := cut_of hb
        refine cut_in (fr b o (ex _ _ hb2) (fun z => n (by rw [z]; exact i1)) (fun z => n (by rw [z]; exact i2)) (fun z => n (by rw [z]; exact i3))) (fun z => ?_) t
        rcases List.mem_cons.mp z with z | z
        · exact nD hb2 z
        · exact n z
      refine lc_it (walk_tup (xs := refs)) (fun i Hy => ∃ acc, Hy D = some (.lst acc) ∧ acc.length ≤ i ∧ (∀ b o, Hx b = some o → b ≠ ls → b ≠ lt → b ≠ lo → Hy b = some o) ∧ NetAt K (cut (D :: A) Hy) Hy a W (fs.take i) ls lt lo) ⟨[], upd_same, Nat.le_refl _, fun b o hb _ _ _ => Ex.new hD b o hb, ?_⟩ ?_ ?_ ?_
      · exact hN.mono (cex fun b o hb _ _ _ => Ex.new hD b o hb) fun b _ o hb => Ex.new hD b o (ex b o hb)
      · intro i Hy _ ⟨acc, _, _, fr, _⟩
        have gp := cut_ex _ _ g2
        exact .inl (.inl (fr _ _ (ex _ _ gp) (ne_of gp h4 (fun z => nomatch z)) (ne_of gp h6 (fun z => nomatch z)) (ne_of gp h8 (fun z => nomatch z))))
      · intro i x Hy Hz hi ⟨acc, ha, la, fr, net⟩ ⟨hz, hx⟩
        subst hz
        obtain ⟨f, hf, b, rfl, hb⟩ := paired_at g3 hx
        have tk : fs.take (i + 1) = fs.take i ++ [f] := by rw [List.take_add_one, hf] <;> rfl
        obtain ⟨dx', w', pH', ss', ft', os', q1, q2, q3, q4, q5, q6, q7, q8, q9, q10⟩ := id net
        have mu2 : Muts (D :: A) Hz := fun c hc => by
          rcases List.mem_cons.mp hc with rfl | hc
          · exact .inl ⟨acc, ha⟩
          · by_cases c1 : c = ls
            · exact .inl ⟨_, by rw [c1]; exact q4⟩
            · by_cases c2 : c = lt
              · exact .inl ⟨_, by rw [c2]; exact q6⟩
              · by_cases c3 : c = lo
                · exact .inl ⟨_, by rw [c3]; exact q8⟩
                · rcases mu c hc with ⟨xs, z⟩ | ⟨C, dz, fz, z⟩
                  · exact .inl ⟨xs, fr _ _ (ex _ _ z) c1 c2 c3⟩
                  · exact .inr ⟨C, dz, fz, fr _ _ (ex _ _ z) c1 c2 c3⟩
        refine ⟨rfl, yes ⟨.ref a, rfl, a, dx', _, rfl, q1, netFs_no (by decide +kernel), .ref b, rfl, D :: A, a, b, W, fs.take i, f, ls, lt, lo, rfl, net, mu2, ii1, ii2, ii3, ok, fun g hg => fins g (List.mem_of_mem_take hg), hb.mono (cex fr), fins f (List.mem_of_getElem? hf), by rw [List.length_take]; omega, fun v H2 fr2 net2 => ?_⟩⟩
        have hD2 : H2 D = some (.lst acc) := fr2 _ _ ha (fun z => nD h4 z.symm) (fun z => nD h6 z.symm) (fun z => nD h8 z.symm)
        refine ⟨acc, hD2, Evl.sz_lt (by omega), acc ++ [v], upd_same, by rw [List.length_append]; exact Nat.succ_le_succ la, fun c o hc n1 n2 n3 => ?_, ?_⟩
        · rw [upd_ne (fun z => by rw [z, hD] at hc; cases hc)]
          exact fr2 _ _ (fr _ _ hc n1 n2 n3) n1 n2 n3
        · rw [tk, cut_upd List.mem_cons_self]
          refine net2.mono (Ex.refl _) fun c hc o hco => ?_
          have : c ≠ D := by
            simp only [List.mem_cons, List.not_mem_nil, or_false] at hc
            rcases hc with rfl | rfl | rfl | rfl
            · exact nD h1
            · exact nD h4
            · exact nD h6
            · exact nD h8
          rw [upd_ne this]
          exact hco
      · intro Hy ⟨acc, ha, la, fr, net⟩
        rw [rl, List.take_length] at net
        refine ⟨D, acc, rfl, .inl ⟨.inl (.inl ha), fun z hz => k _ _ (fun b o hb n1 n2 n3 => Ex.new hz b o (fr b o (ex b o hb) n1 n2 n3)) (net.mono (fun b o hb => ?_) fun b _ o hb => Ex.new hz b o hb)⟩⟩
        obtain ⟨n, hb2, t⟩ := cut_of hb
        exact cut_in (Ex.new hz b o hb2) (fun y => n (List.mem_cons_of_mem _ y)) t)
end SfW
namespace SfW
open PySem PySem.Spec PyProof.Rows L2
open Evl (Ex RetV)
/-! networks: equal -/
variable {P : Program} {w : World} {K : PySem.W.Frag} {mg : Str → Option Value} {bs : Heap}
/-- two networks of one web that have sent alike -/
def NetSame (K : PySem.W.Frag) (a b : Addr) (H : Hp) : Prop := ∃ dx dy w p1 p2 l1 l2 l3 k1 k2 k3 W past fs gs, H a = some (.ins (He.ga K "Network") dx (netFs w p1 l1 l2 l3)) ∧ H b = some (.ins (He.ga K "Network") dy (netFs w p2 k1 k2 k3)) ∧ WebAt K H w W ∧
  H l2 = some (.lst fs) ∧ FrsAt K H fs past ∧ H k2 = some (.lst gs) ∧ FrsAt K H gs past
theorem frs_same {H : Hp} : ∀ {fs gs : List V} {past : List Fr}, FrsAt K H fs past → FrsAt K H gs past → Prs (DIns (He.ga K "Frame") (FrSame K)) fs gs H
  | _, _, _, .nil, .nil => .nil
  | _, _, _, .cons h t, .cons h' t' => by
    obtain ⟨b, rfl, h1⟩ := h
    obtain ⟨c, rfl, h2⟩ := h'
    obtain ⟨dx, q1⟩ := id h1
    obtain ⟨dy, q2⟩ := id h2
    exact .cons ⟨b, c, dx, dy, _, _, rfl, rfl, q1, q2, _, _, h1, h2⟩ (frs_same t t')
theorem F_Player_eq (T : TX K mg) : FnR P w K mg bs CX0 6 (He.ma K (He.ga K "Network") "__eq__") (spEq (NetSame K)) :=
  T.f_Player_eq.fn S_Player_eq (fun vs H Q E ⟨_, _, h, _⟩ => by rw [h] <;> rfl) (fun _ _ _ _ _ _ us hl => match us, hl with | [_, _], _ => rfl) (body0 fun cdv A outer s H vs Q E hr q => by
    obtain ⟨a, b, rfl, ⟨dx, dy, w1, p1, p2, l1, l2, l3, k1, k2, k3, W, past, fs, gs, ha, hb, hW, hl, hf, hk, hg⟩, k⟩ := q
    refine ⟨_, (pss_one (ps_ret (pe_and (pe_callB call_isi (by rfl) T.b_isinstance (by decide +kernel) (pa_cons (pv 1) (pa_cons (pe_glob (v := .ref (He.ga K "Player")) (by rfl) T.g_Player rfl) pa_nil))) (pe_and (pe_cmpR (op_eqG (rcG_insR (F_Web_eq T) T.m_Web_eq.at_ T.m_Web_eq.fn pass0) (hr.mono (by decide))) (pe_fld (pv 0) rfl) (pe_fld (pv 1) rfl) (nomark _)) (pe_one (pe_cmpR (op_eqG (rcG_list (mon_ins (R := FrSame K) fun _ _ _ _ e h => FrSame.mono e h) (eqG_insR (F_Frame_eq T) T.m_Frame_eq.at_ T.m_Frame_eq.fn pass0)) (hr.mono (by decide))) (pe_fld (pv 0) rfl) (pe_fld (pv 1) rfl) (nomark _))))))), ?_⟩
    obtain ⟨dw, x0, pL, pH2, dP, pS, dS, dG, rs, sd, gd, g1, _⟩ := id hW
    refine ⟨.ref b, rfl, .ref b, .ref (He.ga K "Player"), .ref (He.ga K "Network"), .ref (He.ga K "Player"), true, rfl, .own _, ty_ins hb T.c_Network T.q_Network, T.is_Network_Player, true, rfl, iteT ?_⟩
    refine ⟨.ref a, rfl, a, _, dx, _, .ref w1, rfl, ha, T.c_Network, T.n_Network_ground_told, rfl, .ref b, rfl, b, _, dy, _, .ref w1, rfl, hb, T.c_Network, T.n_Network_ground_told, rfl, ⟨w1, w1, dw, dw, _, _, rfl, rfl, g1, g1, rfl, W, hW⟩, fun H1 e1 => ⟨true, rfl, iteT ?_⟩⟩
    exact ⟨.ref a, rfl, a, _, dx, _, .ref l2, rfl, e1 _ _ ha, T.c_Network, T.n_Network_sent, rfl, .ref b, rfl, b, _, dy, _, .ref k2, rfl, e1 _ _ hb, T.c_Network, T.n_Network_sent, rfl, ⟨l2, k2, fs, gs, rfl, rfl, e1 _ _ hl, e1 _ _ hk, frs_same (hf.mono e1) (hg.mono e1)⟩, fun H2 e2 => k H2 (e1.trans e2)⟩)
end SfW
namespace SfW
open PySem PySem.Spec PyProof.Rows L2
open Evl (Ex RetV)
/-! networks: trials -/
variable {P : Program} {w : World} {K : PySem.W.Frag} {mg : Str → Option Value} {bs : Heap}
def noteFs (l1 l2 l3 : Addr) (o : V) : List (Str × V) := [("states", .ref l1), ("sent", .ref l2), ("own_sights", .ref l3), ("outer", o)]
def spNoteInit (K : PySem.W.Frag) : Sp := fun vs H Q _ => ∃ (n dx a dy w p ls lt lo : Addr) (o : V) (ss fs os : List V), vs = [.ref n, .ref a, o] ∧ H n = some (.ins (He.ga K "PlayerNote") dx []) ∧ H a = some (.ins (He.ga K "Network") dy (netFs w p ls lt lo)) ∧ H ls = some (.lst ss) ∧ H lt = some (.lst fs) ∧ H lo = some (.lst os) ∧
  ∀ H2 l1 l2 l3, Ex (del n H) H2 → H2 n = some (.ins (He.ga K "PlayerNote") dx (noteFs l1 l2 l3 o)) → H l1 = none → H l2 = none → H l3 = none → l1 ≠ l2 → l1 ≠ l3 → l2 ≠ l3 → H2 l1 = some (.lst ss) → H2 l2 = some (.lst fs) → H2 l3 = some (.lst os) → Q .non H2
theorem F_Note (T : TX K mg) : FnR P w K mg bs CX0 1 (He.ma K (He.ga K "PlayerNote") "__init__") (spNoteInit K) :=
  T.f_Note_init.fn S_Note_init (fun vs H Q E ⟨_, _, _, _, _, _, _, _, _, _, _, _, _, h, _⟩ => by rw [h] <;> rfl) (fun _ _ _ _ _ _ us hl => match us, hl with | [_, _, _], _ => rfl) (body0 fun cdv A outer s H vs Q E hr q => by
    obtain ⟨n, dx, a, dy, w1, p, ls, lt, lo, o, ss, fs, os, rfl, hn, ha, h1, h2, h3, k⟩ := q
    refine ⟨_, (pss_cons (ps_fld (pv 0) (pe_callTy call_list_of (by rfl) T.b_list (by decide +kernel) (pa_cons (pe_fld (pv 1) rfl) pa_nil)) rfl) (pss_cons (ps_fld (pv 0) (pe_callTy call_list_of (by rfl) T.b_list (by decide +kernel) (pa_cons (pe_fld (pv 1) rfl) pa_nil)) rfl) (pss_cons (ps_fld (pv 0) (pe_callTy call_list_of (by rfl) T.b_list (by decide +kernel) (pa_cons (pe_fld (pv 1) rfl) pa_nil)) rfl) (pss_one (ps_fld (pv 0) (pv 2) rfl))))), ?_⟩
    have na : a ≠ n := ne_of ha hn (fun z => by injection z with _ _ z; cases z)
    have fa : del n H a = some (.ins (He.ga K "Network") dy (netFs w1 p ls lt lo)) := by rw [del_ne na] <;> exact ha
    have f1 := del_of h1 hn (fun z => nomatch z)
    have f2 := del_of h2 hn (fun z => nomatch z)
    have f3 := del_of h3 hn (fun z => nomatch z)
    refine ⟨.ref a, rfl, a, _, dy, _, .ref ls, rfl, ha, T.c_Network, T.n_Network_states, rfl, ls, ss, rfl, .inl (.inl (.inl h1)), fun l1 hl1 => ⟨.ref n, rfl, n, _, dx, [], rfl, (Ex.new hl1) _ _ hn, T.c_PlayerNote, T.n_PlayerNote_states, by decide, ?_⟩⟩
    have aL := (Ex.new (o := .lst ss) hl1) _ _ hn
    generalize hG : upd (upd H l1 _) n _ = G1
    have a1 : G1 n = some (.ins (He.ga K "PlayerNote") dx [("states", .ref l1)]) := by rw [← hG] <;> exact upd_same
    have x1 : Ex (del n H) (del n G1) := by rw [← hG, del_put] <;> exact del_mono (Ex.new hl1)
    have q1 : del n G1 l1 = some (.lst ss) := by
      rw [← hG, del_put]
      exact del_of upd_same aL (fun z => nomatch z)
    clear hG
    refine ⟨.ref a, rfl, a, _, dy, _, .ref lt, rfl, (of_del (x1 _ _ fa)).2, T.c_Network, T.n_Network_sent, rfl, lt, fs, rfl, .inl (.inl (.inl (of_del (x1 _ _ f2)).2)), fun l2 hl2 => ⟨.ref n, rfl, n, _, dx, _, rfl, (Ex.new hl2) _ _ a1, T.c_PlayerNote, T.n_PlayerNote_sent, (by show 1 < 1000; decide), ?_⟩⟩
    have aT := (Ex.new (o := .lst fs) hl2) _ _ a1
    generalize hG : upd (upd G1 l2 _) n _ = G2
    have a2 : G2 n = some (.ins (He.ga K "PlayerNote") dx [("states", .ref l1), ("sent", .ref l2)]) := by rw [← hG] <;> exact upd_same
    have x2 : Ex (del n G1) (del n G2) := by rw [← hG, del_put] <;> exact del_mono (Ex.new hl2)
    have q2 : del n G2 l2 = some (.lst fs) := by
      rw [← hG, del_put]
      exact del_of upd_same aT (fun z => nomatch z)
    clear hG
    have x12 := x1.trans x2
    refine ⟨.ref a, rfl, a, _, dy, _, .ref lo, rfl, (of_del (x12 _ _ fa)).2, T.c_Network, T.n_Network_own_sights, rfl, lo, os, rfl, .inl (.inl (.inl (of_del (x12 _ _ f3)).2)), fun l3 hl3 => ⟨.ref n, rfl, n, _, dx, _, rfl, (Ex.new hl3) _ _ a2, T.c_PlayerNote, T.n_PlayerNote_own_sights, (by show 2 < 1000; decide), ?_⟩⟩
    have aO := (Ex.new (o := .lst os) hl3) _ _ a2
    generalize hG : upd (upd G2 l3 _) n _ = G3
    have a3 : G3 n = some (.ins (He.ga K "PlayerNote") dx [("states", .ref l1), ("sent", .ref l2), ("own_sights", .ref l3)]) := by rw [← hG] <;> exact upd_same
    have x3 : Ex (del n G2) (del n G3) := by rw [← hG, del_put] <;> exact del_mono (Ex.new hl3)
    have q3 : del n G3 l3 = some (.lst os) := by
      rw [← hG, del_put]
      exact del_of upd_same aO (fun z => nomatch z)
    clear hG
    have x13 := x12.trans x3
    refine ⟨o, rfl, .ref n, rfl, n, _, dx, _, rfl, a3, T.c_PlayerNote, T.n_PlayerNote_outer, (by show 3 < 1000; decide), ?_⟩
    have x4 : Ex (del n G3) (del n (upd G3 n (.ins (He.ga K "PlayerNote") dx (noteFs l1 l2 l3 o)))) := by rw [del_put] <;> exact Ex.refl _
    refine k _ l1 l2 l3 ((x13.trans x4).trans (del_ex n _)) upd_same hl1 (fresh_del x1 (Ex.refl _) a1 hl2) (fresh_del x12 (Ex.refl _) a2 hl3) (fun z => ?_) (fun z => ?_) (fun z => ?_) (of_del (x4 _ _ (x3 _ _ (x2 _ _ q1)))).2 (of_del (x4 _ _ (x3 _ _ q2))).2 (of_del (x4 _ _ q3)).2
    · rw [z] at q1
      rw [(of_del q1).2] at hl2
      cases hl2
    · rw [z] at q1
      rw [(of_del (x2 _ _ q1)).2] at hl3
      cases hl3
    · rw [z] at q2
      rw [(of_del q2).2] at hl3
      cases hl3)
def spTrialInit (K : PySem.W.Frag) : Sp := fun vs H Q _ => ∃ (t dx a : Addr), vs = [.ref t, .ref a] ∧ H t = some (.ins (He.ga K "PlayerTrial") dx []) ∧ ∀ H2, Ex (del t H) H2 → H2 t = some (.ins (He.ga K "PlayerTrial") dx [("subject", .ref a), ("kept", .non)]) → Q .non H2
theorem F_Trial (T : TX K mg) : FnR P w K mg bs CX0 1 (He.ma K (He.ga K "PlayerTrial") "__init__") (spTrialInit K) :=
  T.f_Trial_init.fn S_Trial_init (fun vs H Q E ⟨_, _, _, h, _⟩ => by rw [h] <;> rfl) (fun _ _ _ _ _ _ us hl => match us, hl with | [_, _], _ => rfl) (body0 fun cdv A outer s H vs Q E hr q => by
    obtain ⟨t, dx, a, rfl, ht, k⟩ := q
    refine ⟨_, (pss_cons (ps_fld (pv 0) (pv 1) rfl) (pss_one (ps_fld (pv 0) pe_non rfl))), ?_⟩
    refine ⟨.ref a, rfl, .ref t, rfl, t, _, dx, [], rfl, ht, T.c_PlayerTrial, T.n_PlayerTrial_subject, by decide, ?_⟩
    refine ⟨.ref t, rfl, t, _, dx, _, rfl, upd_same, T.c_PlayerTrial, T.n_PlayerTrial_kept, (by show 1 < 1000; decide), ?_⟩
    rw [upd_upd]
    refine k _ (fun b o h => ?_) upd_same
    obtain ⟨n, hb⟩ := of_del h
    rw [upd_ne n]
    exact hb)
def spEnter (K : PySem.W.Frag) : Sp := fun vs H Q _ => ∃ (t dx a dy w p ls lt lo : Addr) (ss fs os : List V), vs = [.ref t] ∧ H t = some (.ins (He.ga K "PlayerTrial") dx [("subject", .ref a), ("kept", .non)]) ∧ H a = some (.ins (He.ga K "Network") dy (netFs w p ls lt lo)) ∧ H ls = some (.lst ss) ∧ H lt = some (.lst fs) ∧ H lo = some (.lst os) ∧
  ∀ H2 n dn l1 l2 l3, Ex (del t H) H2 → H2 t = some (.ins (He.ga K "PlayerTrial") dx [("subject", .ref a), ("kept", .ref n)]) → H2 n = some (.ins (He.ga K "PlayerNote") dn (noteFs l1 l2 l3 .non)) → H n = none → H l1 = none → H l2 = none → H l3 = none → l1 ≠ l2 → l1 ≠ l3 → l2 ≠ l3 →
    H2 l1 = some (.lst ss) → H2 l2 = some (.lst fs) → H2 l3 = some (.lst os) → Q (.ref a) H2
theorem B_enter (T : TX K mg) : Body0 P w K mg bs 2 (He.ma K (He.ga K "PlayerTrial") "__enter__") "PlayerTrial.__enter__" s_Trial_enter N_Trial_enter (spEnter K) := fun cdv A outer s H vs Q E hr q => by
    obtain ⟨t, dx, a, dy, w1, p, ls, lt, lo, ss, fs, os, rfl, ht, ha, h1, h2, h3, k⟩ := q
    refine ⟨_, (pss_cons (ps_fld (pv 0) (StX.pe_makeR T.k_PlayerNote (F_Note T) (hr.mono (by decide)) (by rfl) T.g_PlayerNote pass0 (pa_cons (pe_fld (pv 0) rfl) (pa_cons (pe_fld (pv 0) rfl) pa_nil))) rfl) (pss_one (ps_ret (pe_fld (pv 0) rfl)))), ?_⟩
    refine ⟨.ref t, rfl, t, _, dx, _, .ref a, rfl, ht, T.c_PlayerTrial, T.n_PlayerTrial_subject, rfl, .ref t, rfl, t, _, dx, _, .non, rfl, ht, T.c_PlayerTrial, T.n_PlayerTrial_kept, rfl, fun x dz hx hdz hne => ?_⟩
    have eM : Ex H (upd (upd H dz (.own x)) x (.ins (He.ga K "PlayerNote") dz [])) := (Ex.new hdz).trans (Ex.new (by rw [upd_ne (Ne.symm hne)]; exact hx))
    have fr : ∀ {l : Addr}, upd (upd H dz (.own x)) x (.ins (He.ga K "PlayerNote") dz []) l = none → H l = none := fun h => Evl.fresh_back eM h
    refine ⟨x, dz, a, dy, w1, p, ls, lt, lo, .non, ss, fs, os, rfl, upd_same, eM _ _ ha, eM _ _ h1, eM _ _ h2, eM _ _ h3, fun H2 l1 l2 l3 e2 hn2 n1 n2 n3 d1 d2 d3 q1 q2 q3 => ⟨rfl, ?_⟩⟩
    have e3 : Ex H H2 := mk_ex hx hdz e2
    have ht2 := e3 _ _ ht
    refine ⟨.ref t, rfl, t, _, dx, _, rfl, ht2, T.c_PlayerTrial, T.n_PlayerTrial_kept, (by show 2 < 1000; decide), ?_⟩
    have nt : ∀ {l : Addr} {xs : List V}, H2 l = some (.lst xs) → l ≠ t := fun h => ne_of h ht2 (fun z => nomatch z)
    have nx : x ≠ t := fun z => by
      rw [z, ht] at hx
      cases hx
    refine ⟨.ref t, rfl, t, _, dx, _, .ref a, rfl, upd_same, T.c_PlayerTrial, T.n_PlayerTrial_subject, rfl, k _ x dz l1 l2 l3 (fun b o h => ?_) upd_same ?_ hx (fr n1) (fr n2) (fr n3) d1 d2 d3 ?_ ?_ ?_⟩
    · obtain ⟨n, hb⟩ := of_del h
      rw [upd_ne n]
      exact e3 _ _ hb
    · rw [upd_ne nx]
      exact hn2
    · rw [upd_ne (nt q1)]
      exact q1
    · rw [upd_ne (nt q2)]
      exact q2
    · rw [upd_ne (nt q3)]
      exact q3
theorem L_enter {K : PySem.W.Frag} : ∀ (vs : List V) (H : Hp) (Q : VK) (E : XK), spEnter K vs H Q E → vs.length = 1 := fun vs H Q E ⟨_, _, _, _, _, _, _, _, _, _, _, _, h, _⟩ => by rw [h] <;> rfl
/-- the same with its binding -/
theorem O_enter (T : TX K mg) : ∃ fd, FnOk P w K mg bs CX0 3 (He.ma K (He.ga K "PlayerTrial") "__enter__") fd ["self"] (spEnter K) ∧ Binds K fd ["self"] [] := by
  obtain ⟨fd, F⟩ := T.f_Trial_enter
  exact ⟨fd, F.ok S_Trial_enter L_enter (body0 (B_enter T)), F.bindsN fun _ _ _ _ _ _ us hl => match us, hl with | [_], _ => rfl⟩
end SfW
namespace SfW
open PySem PySem.Spec PyProof.Rows L2
/-! repr of tuples and lists of texts and numbers -/
mutual
/-- the value v stands for the data d -/
inductive DatA (H : Hp) : V → PyData → Prop
  | int (i : Int) : DatA H (.int i) (.int i)
  | str (x : Str) : DatA H (.str x) (.str x)
  | tup {a : Addr} {xs : List V} {ds : List PyData} : H a = some (.tup xs) → DatAs H xs ds → DatA H (.ref a) (.tuple ds)
  | lst {a : Addr} {xs : List V} {ds : List PyData} : H a = some (.lst xs) → DatAs H xs ds → DatA H (.ref a) (.list ds)
inductive DatAs (H : Hp) : List V → List PyData → Prop
  | nil : DatAs H [] []
  | cons {v : V} {d : PyData} {vs : List V} {ds : List PyData} : DatA H v d → DatAs H vs ds → DatAs H (v :: vs) (d :: ds)
end
section
variable {X : Cx} {pins : List (Addr × Obj)} {σ : L2.St} {H : Hp} {s : Shared}
mutual
theorem DatA.reads (I : Inv X pins σ H s) : ∀ {v : V} {d : PyData} {u : Value}, DatA H v d → RelV v u → ∃ as, Reads s.heap u d as
  | _, _, _, .int i, ⟨t, e⟩ => e ▸ ⟨_, .int i t⟩
  | _, _, _, .str x, ⟨t, e⟩ => e ▸ ⟨_, .str x t⟩
  | _, _, _, .tup ha hs, e => by
    obtain ⟨its, r, ⟨o, ho, hc, n, hd⟩, _⟩ := I.tuple (.inl (.inl ha))
    obtain ⟨as, q⟩ := DatAs.reads I hs r
    exact (show _ = Value.ref _ from e) ▸ ⟨_, .tuple ho hc hd q⟩
  | _, _, _, .lst ha hs, e => by
    obtain ⟨its, r, ⟨o, n, ho, hc, _, hd⟩, _⟩ := I.list (.inl (.inl ha))
    obtain ⟨as, q⟩ := DatAs.reads I hs r
    exact (show _ = Value.ref _ from e) ▸ ⟨_, .list ho hc hd q⟩
theorem DatAs.reads (I : Inv X pins σ H s) : ∀ {vs : List V} {ds : List PyData} {us : List Value}, DatAs H vs ds → Vals vs us → ∃ as, ReadsAll s.heap us ds as
  | _, _, _, .nil, .nil => ⟨_, .nil⟩
  | _, _, _, .cons h t, .cons r q => by
    obtain ⟨a, x⟩ := DatA.reads I h r
    obtain ⟨b, y⟩ := DatAs.reads I t q
    exact ⟨_, .cons x y⟩
end
end
/-- what is asked of the data that are shown -/
structure Shows (d : PyData) : Prop where
  ok : d.showable = true
  no : d.hasDict = false
  dp : d.depth ≤ 8
  lv : d.leavesShort 13 = true
  wt : d.weight ≤ 2 ^ 20
def rRepr (xs : List V) (H : Hp) (Q : VK) : Prop := ∃ a d, xs = [.ref a] ∧ DatA H (.ref a) d ∧ Shows d ∧ Q (.str d.shown) H
theorem call_repr {X : Cx} (hG : X.A.guards = some []) (hu : X.A.units + 9 < cLine) : CallR X (.builtin "repr") rRepr := by
  intro pins s σ H xs us Q I r h
  obtain ⟨a, d, rfl, hd, S, q⟩ := h
  cases r with
  | @cons _ u _ _ ru rr =>
  cases rr
  obtain rfl : u = Value.ref a := ru
  obtain ⟨as, R⟩ := hd.reads I rfl
  refine repr_of_reads' R S.ok (PyData.noDict_hsm S.no) hG (by have := S.dp; omega) (fun _ _ e => e) (fun h' u tk hk => ?_) (PyData.shown_fits (by decide) (by decide) S.lv S.wt)
  exact ⟨.str d.shown, H, I.kept (t' := tk) hk, ⟨u, rfl⟩, q⟩
end SfW
namespace SfW
open PySem PySem.Spec PyProof.Rows
open L2 hiding del del_ne del_same
open Evl (Ex RetV)
open NdefX (NScope envF ncx startF CellsAt inv_startN NF)
/-! an own error whose __init__ says super().__init__(text) -/
section
variable {X : Cx} {pins : List (Addr × Obj)} {σ : L2.St} {H : Hp} {s : Shared} {a C u : Addr} {us : List Value} {Q : Value → Shared → Prop} {E : Value → Shared → Prop} {A : Around}
/-- ValueError.__init__, bound to an error that is being made, called -/
theorem bound_ve (T : OexC X.K C) (I : Inv X pins σ H s) (e : H a = some (exo a C none)) (hu : s.heap.get? u = some (PySem.W.kxs_mw "ValueError.__init__" a)) (hl : us.length ≤ sizeLine) (h : ∀ s', Inv X pins σ H s' → Q .none s') :
    wpAny (model X.prog X.w) A (call (.ref u) us) Q E s := by
  obtain ⟨nm, q, N, bs, bm, sn, sub, ab, col, dd, k0, k1, k2, k3, k5, hC, hbm⟩ := T.cls
  obtain ⟨t1, ho⟩ := exo_at I.hok e
  have eu : upd H a (exo a C none) = H := by
    funext b
    by_cases hb : b = a
    · rw [hb, upd_same, e]
    · rw [upd_ne hb]
  obtain ⟨hp, g, d, t, os⟩ := s
  have hcls := I.kIn _ _ hC
  refine wpAny_call (codeAny_of_tree ?_)
  show wpAny _ (A.in1) (callAny (.ref u) ⟨us, []⟩) _ _ _
  simp only [callAny]
  refine wpAny_bind (wpAny_load hu ?_)
  simp only [PySem.W.kxs_mw, (by decide : (Value.type "method-wrapper" == Value.type "method" || Value.type "method-wrapper" == Value.type "builtin_function_or_method" || Value.type "method-wrapper" == Value.type "method-wrapper") = true), if_true]
  refine PySem.W.KFB.if_so (by decide) (wpAny_bind (PySem.ESX.check_bound F.excBase_ValueError hcls ho rfl (wpAny_bind (wpAny_pure (wpAny_pure ?_)))))
  refine ⟨plainId_quiet F.excBase_ValueError.init.plain _, codeAny_builtin F.excBase_ValueError.initEntry ?_⟩
  refine PySem.W.exc_init_tree (cls := .ref C) (t0 := t1) (dv := none) (c2 := .none) (c3 := .none) (b4 := .bool false) ho hl fun h' k e' _ => ?_
  have J := I.write (t' := t) (x := a) (e := a) (o := exo a C none) (by rw [e]; exact True.intro) (.inl rfl) k ⟨_, e'⟩ (exo_ok e')
  rw [eu] at J
  exact h _ J
end
/-- what stands around super().__init__ in the __init__ of the own error class at C -/
structure SupX (P : Program) (K : PySem.W.Frag) (mg : Str → Option Value) (env : Env) (p0 : Str) (C : Addr) : Prop where
  kS : env.kindOf ("super" : Str) = some .globalImplicit
  kC : env.kindOf ("__class__" : Str) = some .free
  kf : env.scope.kind = .function
  fn : ∃ (f : Addr) (oc : Value) (od : Option Addr) (fd : FuncData) (osl : Array (Option Value)) (ar : Arg), env.func = some f ∧ K.lookup f = some ⟨oc, od, .func fd, osl⟩ ∧ (fd.params.posonlyargs ++ fd.params.args).head? = some ar ∧ ar.arg = p0
  co : ∃ (c : Addr) (oc : Obj) (vs : Array Value) (file : Str) (tf : Tok), env.code = .ref c ∧ K.lookup c = some oc ∧ oc.data = .fields vs ∧ vs[2]? = some (.str file tf) ∧ ((P.main.file : Str) == file) = true
  top : (P.main.scope.names.lookup ("super" : Str)).isSome = false
  mS : mg ("super" : Str) = none
  cell : ∃ (cc : Addr) (o : Obj), env.cells.lookup ("__class__" : Str) = some cc ∧ K.lookup cc = some o ∧ o.data = .cell (some (.ref C))
  cls : ∃ cd, PySem.W.clsIn K C = some cd
  sub : PySem.W.mroIn K C (.ref C) = some true
  ga : PySem.W.nsIn K cStatics "thirdparty.any" = some none
  m : PySem.W.ks_superIn K C C "__init__" = some (some (.builtin "ValueError.__init__"))
  ve : PySem.W.subIn K (.ref C) (.type "ValueError") = some true
def tSupX (C : Addr) (i : Nat) (ta : TA) : TS := fun D σ H => ∃ a, σ[i]? = some (some (.ref a)) ∧ H a = some (exo a C none) ∧ ta σ H fun vs H1 => vs.length ≤ 1000 ∧ H1 a = some (exo a C none) ∧ D.nx σ H1
theorem ps_superX {X : Cx} {i : Nat} {p0 : Str} {C : Addr} {body : List Stmt} {e : Expr} {es : List Expr} {ta : TA} {q0 q1 apos pos epos : Pos} {pl : Sem Bool} (S : SupX X.prog X.K X.mg X.env p0 C) (T : OexC X.K C)
    (hN : X.N[i]? = some p0) (hv : X.env.scope.names.lookup p0 = some .local) (ha : PA X (e :: es) ta)
    (hst : starEach (e :: es) X.env = (false, eval e X.env) :: starEach es X.env := by rfl) (hpl : (backTo pos (starEach es X.env)).any (·.1) = false := by rfl)
    (he : eval (.Call (.Attribute (.Call (.Name "super" q0) [] [] q1) "__init__" apos) (e :: es) [] pos) X.env = (do
      let ov ← attributeBase (.Call (.Name "super" q0) [] [] q1) "__init__" X.env (eval (.Call (.Name "super" q0) [] [] q1) X.env)
      standAt apos.atName
      let (f, first) ← holding [ov] (getMethod ov "__init__" pl)
      callWith pos f first (backTo pos (starEach (e :: es) X.env)) []) := by rfl)
    (hsw : swapsWith (.Call (.Attribute (.Call (.Name "super" q0) [] [] q1) "__init__" apos) (e :: es) [] pos) none epos.line X.env = pure false := by rfl) :
    PSAt X (.func body X.env) (.Expr (.Call (.Attribute (.Call (.Name "super" q0) [] [] q1) "__init__" apos) (e :: es) [] pos) epos) (tSupX C i ta) := by
  refine ⟨fun pins s σ H Dn I h => ?_⟩
  obtain ⟨a, hσ, hH, h⟩ := h
  obtain ⟨f, oc, od, fd, osl, ar, hfu, hlk, hhd, har⟩ := S.fn
  obtain ⟨cda, ocd, vs, file, tf, hco, hck, hcd, hvs, hfile⟩ := S.co
  obtain ⟨cc, occ, hcl, hcK, hcD⟩ := S.cell
  obtain ⟨cdC, hC⟩ := S.cls
  have kin := I.kIn
  obtain ⟨oD, hD1, hD2⟩ : ∃ oD, s.heap.get? C = some oD ∧ oD.data = .cls cdC := by
    have z := hC
    unfold PySem.W.clsIn at z
    split at z
    · rename_i c d cd' sl ho
      cases z
      exact ⟨_, kin _ _ ho, rfl⟩
    · cases z
  refine ks_wpAt_Expr_any (ks_wpAt_MethodCall (pl := pl) ?_ he) I.quiet hsw
  refine ks_wpAt_super_base S.kS S.kC (by decide +kernel) hfu (kin _ _ hlk) rfl hhd hco (kin _ _ hck) hcd hvs hfile S.top ?_
  obtain ⟨mb, b1, b2⟩ := I.mod.blt
  refine PySem.W.ks_loadName_global S.kf S.kS (Calls.loadGlobal_builtin (by rw [I.ok.glob]; exact I.mod.glob.keeps I.bk) S.mS (by rw [I.ok.blt]; exact b1.keeps I.bk) ((b2 _ (by decide +kernel)).trans (show bootBuiltins "super" = some (.type "super") by kernel_rfl)) ⟨rfl, ?_⟩)
  refine wpAny_loadName_free S.kf S.kC hcl ⟨occ, kin _ _ hcK, hcD⟩ ?_
  obtain ⟨m, hn, hl⟩ := I.loc
  obtain ⟨u, ru, lu⟩ := hl i p0 _ hN hσ (.inl hv)
  obtain rfl : u = Value.ref a := ru
  have hm : m p0 = some (.ref a) := by
    rcases lu with ⟨_, z⟩ | ⟨z, _⟩
    · exact z
    · rcases z with z | z
      · rw [show X.env.kindOf p0 = some .local from hv] at z
        cases z
      · rw [show X.env.kindOf p0 = some .local from hv] at z
        cases z
  rw [har]
  refine wpAny_loadName_local S.kf hv hn hm ?_
  refine ks_wpAny_isType_cls hD1 hD2 ⟨rfl, ?_⟩
  obtain ⟨t1, ho⟩ := exo_at I.hok hH
  have J : PySem.W.InstAt s.heap a { cls := .ref C, dict := none, data := .fields #[.ref t1, .none, .none, .none, .bool false, .none] } C none := ⟨ho, rfl, rfl, trivial⟩
  obtain ⟨hp, g, d, t, os⟩ := s
  refine ks_wpAny_call_super hD1 hD2 J.at_ J.cls (fun c z => ?_) (PySem.W.looks_mroIn kin S.sub) fun h' hs' k' => ?_
  · have := J.no
    unfold PySem.W.notCls at this
    rw [z] at this
    exact Bool.noConfusion this
  have I1 : Inv X pins σ H ⟨h', g, d, t, os⟩ := I.kept (t' := t) k'
  have kin1 := I1.kIn
  have al : PySem.W.alongIn X.K "__init__" ((cdC.mro.dropWhile (· != .ref C)).drop 1) = some (some (.builtin "ValueError.__init__")) := by
    have z := S.m
    unfold PySem.W.ks_superIn at z
    rw [hC] at z
    exact z
  have J1 : PySem.W.InstAt h' a _ C none := ⟨k' _ _ ho, rfl, rfl, trivial⟩
  refine PySem.W.kxs_getMethod PySem.W.kxs_ValueError (l₀ := cdC.mro) hs' (PySem.W.looks_opaque kin1 S.ga) (fun A Q E s k q => wpAny_bind ((PySem.W.looks_clsIn kin1 hC) A _ E s k (wpAny_pure q))) rfl kin1 al (J1.type.andThen (PySem.W.looks_subIn kin1 S.ve)) (PySem.W.ks_ne kin J hC) (by decide +kernel) ?_
  have hbm : (h'.push (PySem.W.kxs_mw "ValueError.__init__" a)).get? h'.objs.size = some (PySem.W.kxs_mw "ValueError.__init__" a) := Heap.get?_push_at rfl rfl
  have I2 : Inv X pins σ H ⟨h'.push (PySem.W.kxs_mw "ValueError.__init__" a), g, d, t + 1, os⟩ := I1.kept (t' := t + 1) fun b o z => Heap.get?_push_of_some _ z
  have hlt : X.env.locals < h'.objs.size := I1.lt
  have I3 : Inv X ((h'.objs.size, PySem.W.kxs_mw "ValueError.__init__" a) :: pins) σ H ⟨h'.push (PySem.W.kxs_mw "ValueError.__init__" a), g, d, t + 1, os⟩ := I2.pins_of fun p hp => by
    rcases List.mem_cons.mp hp with rfl | hp
    · exact ⟨hbm, I1.hok.fresh (Nat.le_refl _), Nat.ne_of_gt hlt, I1.nofs (Nat.le_refl _), fun v z => by cases z⟩
    · exact I2.pin p (List.mem_append_right _ hp)
  have go := ha.run pos _ _ σ H _ I3 h
  have go2 : wpAny (model X.prog X.w) X.A (spliced (backTo pos (starEach (e :: es) X.env))) (fun us s2 => PySem.W.KxsAt "ValueError.__init__" h'.objs.size a s2.heap ∧ wpAny (model X.prog X.w) X.A (call (.ref h'.objs.size) ([] ++ us)) (fun _ => SP X pins Dn .next) X.xe s2) X.xe ⟨h'.push (PySem.W.kxs_mw "ValueError.__init__" a), g, d, t + 1, os⟩ := by
    refine thn go fun us s2 ⟨vs2, H2, I4, r, hz, he2, q2⟩ => ?_
    have hbm2 : s2.heap.get? h'.objs.size = some (PySem.W.kxs_mw "ValueError.__init__" a) := (I4.pin (h'.objs.size, _) (List.mem_append_right _ List.mem_cons_self)).1
    have I5 : Inv X pins σ H2 s2 := I4.pins_of fun p hp => I4.pin p (List.mem_append_right _ (List.mem_cons_of_mem _ hp))
    have hus : us.length ≤ sizeLine := by
      rw [← Paired.length r, sizeLine_eq]
      omega
    exact ⟨hbm2, bound_ve T I5 he2 hbm2 hus fun s3 I6 => ⟨σ, H2, I6, q2⟩⟩
  rw [hst] at go2 ⊢
  refine PySem.W.kxs_callWith (i := "ValueError.__init__") (x := a) (by show (false || (backTo pos (starEach es X.env)).any (·.1)) = false; rw [hpl]; rfl) (Calls.evalArgs_plain go2)
/-- the error made by its own __init__ -/
def tMkR (C : Addr) (sp : Sp) (ta : TA) : L2.St → Hp → XK → Prop := fun σ H Q => ta σ H fun vs H1 => vs.length ≤ 1000 ∧ ∀ a, H1 a = none → sp (.ref a :: vs) (upd H1 a (exo a C none))
  (fun v H2 => v = .non ∧ ∃ (d : Addr) (fs : List (Str × V)), H2 a = some (exo a C (some d)) ∧ H2 d = some (exd d fs) ∧ H1 d = none ∧ Q (.ref C) (some d) (upd (L2.del H2 a) d (.xd fs))) (fun _ _ _ => False)
theorem pmk_oexR {X : Cx} {CX : CXT} {e : Expr} {es : List Expr} {ta : TA} {p pos : Pos} {x : Str} {C fI : Addr} {k : Nat} {sp : Sp} (T : OexC X.K C) (iC : PySem.W.findIn X.K (.ref C) "__init__" = some (some (.ref fI))) (tI : PySem.W.typeIn X.K (.ref fI) = some (.type "function"))
    (F1 : FnR X.prog X.w X.K X.mg X.base CX k fI sp) (hr : Room (k + 1) X.A) (hx : Passes CX X (fun _ _ _ => False)) (hg : Gl X x) (hm : X.mg x = some (.ref C)) (ha : PA X (e :: es) ta)
    (hdb : (x == ("__debug__" : Str)) = false := by decide) (he : starEach (e :: es) X.env = (false, eval e X.env) :: starEach es X.env := by rfl) (hpl : (backTo pos (starEach es X.env)).any (·.1) = false := by rfl) :
    PMk X (.Call (.Name x p) (e :: es) [] pos) (tMkR C sp ta) := by
  intro pins s σ H Q I h
  obtain ⟨nm, q, N, bs, bm, sn, sub, ab, col, dd, k0, k1, k2, k3, k5, hC, hbm⟩ := T.cls
  refine wpAny_Call_Name_kw (ld_glob I hg hm ?_ hdb)
  refine PySem.W.callWith_K (h₀ := X.base) I.ok.mod.kin T.kC (thn (ha.run pos pins s σ H _ I h) fun us s1 ⟨vs, H1, I1, r1, hz, q1⟩ => ⟨I1.kIn, ?_⟩) he hpl
  show wpAny _ _ (call (.ref C) us) _ _ (_ : Shared)
  obtain ⟨hp, g, dr, tk, os⟩ := s1
  have hsz : hp.objs.size ≤ hp.objs.size + 1 := Nat.le_succ _
  have hn : H1 (hp.objs.size + 1) = none := I1.hok.fresh hsz
  have hq := q1 (hp.objs.size + 1) hn
  have kk : ∀ b o, hp.get? b = some o → ((hp.push (PySem.W.kdv_tup us)).push (PySem.HandSPX.excO C hp.objs.size)).get? b = some o := fun b o e => Heap.get?_push_of_some _ (Heap.get?_push_of_some _ e)
  have hget : ((hp.push (PySem.W.kdv_tup us)).push (PySem.HandSPX.excO C hp.objs.size)).get? (hp.objs.size + 1) = some (PySem.HandSPX.excO C hp.objs.size) := by heap_get
  have I2 : Inv X pins σ (upd H1 (hp.objs.size + 1) (exo (hp.objs.size + 1) C none)) ⟨(hp.push (PySem.W.kdv_tup us)).push (PySem.HandSPX.excO C hp.objs.size), g, dr, tk, os⟩ :=
    I1.laid (t' := tk) (a := hp.objs.size + 1) (o := exo (hp.objs.size + 1) C none) (h' := (hp.push (PySem.W.kdv_tup us)).push (PySem.HandSPX.excO C hp.objs.size)) kk hsz (exo_ok hget)
  have r2 : Vals (V.ref (hp.objs.size + 1) :: vs) (Value.ref (hp.objs.size + 1) :: us) := .cons rfl r1
  have hus : us.length ≤ sizeLine := by
    rw [← Paired.length r1, sizeLine_eq]
    omega
  refine wpAny_call (PySem.HandSPX.call_own F.excBase_ValueError (fun Y => PySem.HandSPX.refsVE_contains Y bm hbm) (I1.kIn _ _ hC) (PySem.W.looks_findIn I1.kIn iC) (fun self => PySem.W.bind_fn I1.kIn self tI) hus
    (codeAny_mono (F1 _ X.stack _ _ _ _ _ (fun _ _ _ => False) (hr.make C us []) (I2.env0.make C us []) r2 hq) fun r s' hq' => ?_))
  cases r with
  | error er => exact hx pins σ _ _ er s' I2 hq'
  | ok fl =>
    cases fl with
    | ret u =>
      obtain ⟨v, H2, os2, bare2, un2, hok2, rv, ev, d, fs, ea, ed, hd1, q2⟩ := hq'
      subst ev
      obtain ⟨h2, g2, d2, t2, os'⟩ := s'
      exact ⟨rv, mk_end (raises_own T.exC T.tyC) I1 hsz kk un2 hok2 os2 bare2 ea ed hd1 q2⟩
    | next => exact False.elim hq'
    | brk => exact False.elim hq'
    | cont => exact False.elim hq'
/-! ### NoHost -/
variable {P : Program} {w : World} {K : PySem.W.Frag} {mg : Str → Option Value} {bs : Heap}
/-- what is known of NoHost -/
structure TZ (P : Program) (K : PySem.W.Frag) : Prop where
  oex : OexC K (He.ga K "NoHost")
  fn : ClsFn P K (He.ma K (He.ga K "NoHost") "__init__") "__init__" "NoHost.__init__" s_NoHost_init (He.ga K "NoHost")
  cls : ∃ cd, PySem.W.clsIn K (He.ga K "NoHost") = some cd
  sub : PySem.W.mroIn K (He.ga K "NoHost") (.ref (He.ga K "NoHost")) = some true
  sup : PySem.W.ks_superIn K (He.ga K "NoHost") (He.ga K "NoHost") "__init__" = some (some (.builtin "ValueError.__init__"))
  ve : PySem.W.subIn K (.ref (He.ga K "NoHost")) (.type "ValueError") = some true
  no : PySem.W.findIn K (.ref (He.ga K "NoHost")) "name" = some none
  ini : PySem.W.findIn K (.ref (He.ga K "NoHost")) "__init__" = some (some (.ref (He.ma K (He.ga K "NoHost") "__init__")))
  ty : PySem.W.typeIn K (.ref (He.ma K (He.ga K "NoHost") "__init__")) = some (.type "function")
  xf : XfC K (He.ga K "NoHost")
abbrev N_NoHost_init : List Str := ["self", "name", "__class__"]
theorem S_NoHost_init : NScope N_NoHost_init ["self", "name"] ["__class__"] (defScope s_NoHost_init) := NdefX.nscope_by (by decide +kernel)
def spNoHost (K : PySem.W.Frag) : Sp := fun vs H Q _ => ∃ (a : Addr) (h : Str), vs = [.ref a, .str h] ∧ H a = some (exo a (He.ga K "NoHost") none) ∧
  ∀ dx, H dx = none → dx ≠ a → Q .non (upd (upd H dx (exd dx [("name", .str h)])) a (exo a (He.ga K "NoHost") (some dx)))
theorem F_NoHost (T : TX K mg) (U : TY P K) (Z : TZ P K) : FnR P w K mg bs CX0 1 (He.ma K (He.ga K "NoHost") "__init__") (spNoHost K) := by
  obtain ⟨oc, od, osl, kV, doc, pm, an, c, ct, cc, o, oc2, vs0, file, tf, lk, hcd, hcc, hcl, hc2, hd2, hv2, hf⟩ := Z.fn.at_
  refine fnS_of (N := N_NoHost_init) lk hcd hcc hcl S_NoHost_init (fun vs H Q E ⟨_, _, h, _⟩ => by rw [h] <;> rfl) (fun us hl => match us, hl with | [_, _], _ => rfl) fun A outer s H vs Q E hr q => ?_
  obtain ⟨a, h, rfl, ha, k⟩ := q
  have SUP : SupX P K mg (envF ⟨"__init__", "NoHost.__init__", defArgs s_NoHost_init, defBody s_NoHost_init, defScope s_NoHost_init, [("__class__", cc)], c⟩ (He.ma K (He.ga K "NoHost") "__init__") s.heap.objs.size) "self" (He.ga K "NoHost") :=
    ⟨rfl, rfl, rfl, ⟨_, _, _, _, _, _, rfl, lk, rfl, rfl⟩, ⟨c, oc2, vs0, file, tf, rfl, hc2, hd2, hv2, hf⟩, U.top, T.b_super, ⟨cc, o, rfl, hcc, hcl⟩, Z.cls, Z.sub, U.any, Z.sup, Z.ve⟩
  refine ⟨_, (at_cons (ps_superX (i := 0) SUP Z.oex rfl rfl (pa_cons pe_str pa_nil)) (at_cons (psat_of (ps_ost (pv 0) (pv 1))) at_nil)), ?_⟩
  exact ⟨a, rfl, ha, by decide, ha, .str h, rfl, .ref a, rfl, a, _, rfl, Z.oex, Z.no, .inl ⟨ha, fun dx n ne => k dx n ne⟩⟩
end SfW
namespace SfW
open PySem PySem.Spec PyProof.Rows
open L2 hiding del del_ne del_same
open LamX (CodeO TabS Tabs ExtN TabB lamEnv)
/-! promises where no repr is under way; lambdas of one parameter -/
/-- a promise told of the very state -/
abbrev SpS := List Env → Shared → List V → Hp → VK → XK → Prop
def FnG (P : Program) (w : World) (K : PySem.W.Frag) (mg : Str → Option Value) (base : Heap) (CX : CXT) (k : Nat) (f : Addr) (sp : SpS) : Prop :=
  ∀ (A : Around) (outer : List Env) (s : Shared) (H : Hp) (us : List Value) (vs : List V) (Q : VK) (E : XK), A.guards = some [] → Room k A → Env0 P w K mg base A outer s H → Vals vs us → sp outer s vs H Q E →
    codeAny (model P w) A (.call (.ref f) ⟨us, []⟩) (CR CX outer P w H s Q E) s
/-- the same of a promise that doesn't look at the state -/
abbrev FnGR (P : Program) (w : World) (K : PySem.W.Frag) (mg : Str → Option Value) (base : Heap) (CX : CXT) (k : Nat) (f : Addr) (sp : Sp) : Prop := FnG P w K mg base CX k f fun _ _ => sp
section
variable {P : Program} {w : World} {K : PySem.W.Frag} {mg : Str → Option Value} {base : Heap} {CX : CXT} {j k : Nat} {f : Addr} {sp : SpS} {x qual : Str} {st : Stmt} {a : Addr} {N ps : List Str}
theorem FnG.mono (F : FnG P w K mg base CX j f sp) (h : j ≤ k) : FnG P w K mg base CX k f sp := fun A outer s H us vs Q E hG hr => F A outer s H us vs Q E hG (hr.mono h)
theorem FnAt.fnG (F : FnAt K a x qual st []) (S : FnScope N ps (defScope st)) (len : ∀ outer s vs H Q E, sp outer s vs H Q E → vs.length = ps.length)
    (hb : ∀ (kV doc pm : Value) (an : Option Addr) (cdv ct : Value) (us : List Value), us.length = ps.length → bindArgs (PySem.W.fnOf x qual (defArgs st) (defBody st) (defScope st) .none kV doc pm an cdv ct) ⟨us, []⟩ = pure (ps.zip us))
    (hbody : ∀ (cdv : Value) (A : Around) (outer : List Env) (s : Shared) (H : Hp) (vs : List V) (Q : VK) (E : XK), A.guards = some [] → Room k (A.deeper (envOfC qual (defScope st) s.heap.objs.size a cdv)) → sp outer s vs H Q E →
      ∃ t, PSs (cxOf CX P w K mg base N qual (defScope st) a cdv A outer s H E) (defBody st) t ∧ t { nx := fun _ H' => Q .non H', rt := Q } (start N vs) H) : FnG P w K mg base CX (k + 1) a sp := by
  obtain ⟨fd, F⟩ := F
  intro A outer s H us vs Q E hG hr e0 r hs
  have hl := len _ _ _ _ _ _ hs
  have hB := F.bindsA hb s us (by rw [← r.length]; exact hl)
  obtain ⟨oc, od, dV, kV, doc, pm, an, cdv, ct, osl, rfl, lk, hcd, hD, hK⟩ := F.ex
  exact LamX.run_ofS lk hcd S hr e0 hB r hl fun hr' => hbody cdv A outer s H vs Q E hG hr' hs
end
/-! ### calls of such -/
section
variable {X : Cx} {CX : CXT} {k i : Nat} {f C p g : Addr} {spS : SpS} {sp : Sp} {E : XK} {x m : Str} {pp pos apos : Pos} {e o : Expr} {es : List Expr} {ta : TE} {t : TA} {pl : Sem Bool} {pins : List (Addr × Obj)} {σ : L2.St} {H : Hp} {s : Shared}
theorem run_fnG {Q : VK} {us : List Value} {vs : List V} (F : FnG X.prog X.w X.K X.mg X.base CX k f spS) (hG : X.A.guards = some []) (hr : Room k X.A) (hx : Passes CX X E) (I : Inv X pins σ H s) (r : Vals vs us) (h : spS X.stack s vs H Q E) :
    codeAny (model X.prog X.w) X.A (.call (.ref f) ⟨us, []⟩) (fun r s' => match r with | .ok (.ret v) => EP X pins σ Q v s' | .ok _ => False | .error e => X.xe e s') s := by
  refine codeAny_mono (F X.A X.stack s H us vs Q E hG hr I.env0 r h) fun r s' hq => ?_
  cases r with
  | ok fl =>
    cases fl with
    | ret u => exact I.after hq
    | next => exact hq.elim
    | brk => exact hq.elim
    | cont => exact hq.elim
  | error e => exact hx pins σ H s e s' I hq
theorem pe_callG (F : FnGR X.prog X.w X.K X.mg X.base CX k f sp) (hG : X.A.guards = some []) (hr : Room k X.A) (hk : PySem.W.keepIn X.K (.ref f) = true) (hm : X.mg x = some (.ref f)) (hx : Passes CX X E) (ha : PA X (e :: es) t)
    (hg : Gl X x := by rfl) (hdb : (x == ("__debug__" : Str)) = false := by decide) (he : starEach (e :: es) X.env = (false, eval e X.env) :: starEach es X.env := by rfl) (hpl : (backTo pos (starEach es X.env)).any (·.1) = false := by rfl) :
    PE X (.Call (.Name x pp) (e :: es) [] pos) (tCallR sp E t) := by
  refine ⟨fun pins s σ H Q I h => wpAny_Call_Name_kw (ld_glob I hg hm ?_ hdb)⟩
  refine PySem.W.callWith_K (h₀ := X.base) I.ok.mod.kin hk (thn (ha.run pos pins s σ H _ I h) fun us s1 ⟨vs, H1, I1, r, q⟩ => ⟨I1.kIn, wpAny_call (run_fnG F hG hr hx I1 r q)⟩) he hpl
/-! ### a lambda that was handed in -/
/-- the lambda at f, made at the state s0 by the frames outer0, keeps sp wherever it is called later -/
structure LamOk (P : Program) (w : World) (K : PySem.W.Frag) (mg : Str → Option Value) (base : Heap) (k : Nat) (outer0 : List Env) (s0 : Shared) (H0 : Hp) (f : Addr) (sp : Sp) : Prop where
  at_ : ∀ (H : Hp) (h : Heap), Un (frs outer0) [] H0 H s0.heap h → PySem.W.FnAt f h
  run : ∀ (A : Around) (outer : List Env) (s : Shared) (H : Hp) (us : List Value) (vs : List V) (Q : VK) (E : XK), A.guards = some [] → Room k A → Env0 P w K mg base A outer s H → Un (frs outer0) [] H0 H s0.heap s.heap → Vals vs us → sp vs H Q E →
    codeAny (model P w) A (.call (.ref f) ⟨us, []⟩) (CR (L2.CX P w) outer P w H s Q E) s
def tWork (i : Nat) (f : Addr) (sp : Sp) (E : XK) (t : TA) : TE := fun σ H Q => σ[i]? = some (some (.ref f)) ∧ t σ H fun vs H1 => sp vs H1 Q E
/-- it is called, in the def that got it -/
theorem pe_work (L : LamOk X.prog X.w X.K X.mg X.base k X.outer X.s_0 X.H_0 f sp) (hex : X.ex = []) (hG : X.A.guards = some []) (hr : Room k X.A) (hx : Passes (L2.CX X.prog X.w) X E) (hN : X.N[i]? = some x) (hv : Vis X.env.scope x) (ha : PA X (e :: es) t)
    (hdb : (x == ("__debug__" : Str)) = false := by decide) (hcd : (x == ("__classdict__" : Str)) = false := by decide)
    (he : starEach (e :: es) X.env = (false, eval e X.env) :: starEach es X.env := by rfl) (hpl : (backTo pos (starEach es X.env)).any (·.1) = false := by rfl) : PE X (.Call (.Name x pp) (e :: es) [] pos) (tWork i f sp E t) := by
  refine ⟨fun pins s σ H Q I h => ?_⟩
  obtain ⟨hs, ht⟩ := h
  refine wpAny_Call_Name_kw (thn ((pe_var (pos := pp) hN hv hdb hcd).run pins s σ H (fun v H1 => v = .ref f ∧ H1 = H) I ⟨.ref f, hs, rfl, rfl⟩) fun u s1 ⟨v, H1, I1, r1, q1⟩ => ?_)
  obtain ⟨rfl, rfl⟩ := q1
  cases r1
  have un : ∀ {σ' H' s'}, Inv X pins σ' H' s' → Un (frs X.outer) [] X.H_0 H' X.s_0.heap s'.heap := fun {σ' H' s'} J => by
    have z := J.base
    rw [hex] at z
    exact z
  refine PySem.W.callWith_F (first := []) (L.at_ _ _ (un I1)) ?_ he hpl
  refine thn (ha.run pos pins s1 σ _ _ I1 ht) fun us s2 ⟨vs, H2, I2, r, q⟩ => ⟨L.at_ _ _ (un I2), wpAny_call ?_⟩
  refine codeAny_mono (L.run X.A X.stack s2 H2 us vs Q E hG hr I2.env0 (un I2) r q) fun r s' hq => ?_
  cases r with
  | ok fl =>
    cases fl with
    | ret u => exact I2.after hq
    | next => exact hq.elim
    | brk => exact hq.elim
    | cont => exact hq.elim
  | error e => exact hx pins σ H2 s2 e s' I2 hq
end
/-! ### a lambda of one parameter is made -/
/-- one parameter p, captured names and globals besides -/
structure LamS1 (p : Str) (sc scope : Scope) : Prop where
  kind : scope.kind = .function
  co : scope.isCoroutine = false
  gen : scope.isGenerator = false
  own : ∀ y ∈ scope.names, y.2 ≠ .cell
  loc : ∀ y ∈ scope.names, y.2 = .local → y.1 = p
  par : scope.names.lookup p = some .local
  free : ∀ y ∈ scope.names, y.2 = .free → sc.names.lookup y.1 = some .cell ∨ sc.names.lookup y.1 = some .free
def lamS1B (p : Str) (sc scope : Scope) : Bool :=
  decide (scope.kind = .function) && !scope.isCoroutine && !scope.isGenerator && decide (scope.names.lookup p = some .local) && scope.names.all fun y => !decide (y.2 = .cell) && (!decide (y.2 = .local) || decide (y.1 = p)) && (!decide (y.2 = .free) || decide (sc.names.lookup y.1 = some .cell) || decide (sc.names.lookup y.1 = some .free))
theorem lamS1_by {p : Str} {sc scope : Scope} (h : lamS1B p sc scope = true) : LamS1 p sc scope := by
  unfold lamS1B at h
  simp only [Bool.and_eq_true, Bool.or_eq_true, Bool.not_eq_true', decide_eq_true_eq, decide_eq_false_iff_not, List.all_eq_true] at h
  obtain ⟨⟨⟨⟨h1, h2⟩, h3⟩, h4⟩, h5⟩ := h
  refine ⟨h1, h2, h3, fun y hy => (h5 y hy).1.1, fun y hy e => ?_, h4, fun y hy e => ?_⟩
  · rcases (h5 y hy).1.2 with z | z
    · exact absurd e z
    · exact z
  · rcases (h5 y hy).2 with (z | z) | z
    · exact absurd e z
    · exact .inl z
    · exact .inr z
theorem LamS1.has {p : Str} {X : Cx} {scope : Scope} (L : LamS1 p X.env.scope scope) (ok : X.Ok) : ∀ y ∈ scope.names, y.2 = .free → ∃ c, X.env.cells.lookup y.1 = some c := fun y hy e => by
  rcases L.free y hy e with k | k
  · exact ok.has _ (.inl k)
  · exact ok.has _ (.inr k)
/-- the context of its body, entered at s from the frames outer -/
def lamCx1 (p : Str) (X : Cx) (A : Around) (outer : List Env) (s : Shared) (H : Hp) (E : XK) (scope : Scope) (f c' : Addr) : Cx := { LamX.lamCx X A outer s H E scope f c' with N := p :: X.N }
section
variable {X : Cx} {pins : List (Addr × Obj)} {σ : L2.St} {H HZ : Hp} {s s1 : Shared} {p : Str}
theorem lam_start1 {A : Around} {outer : List Env} {E : XK} {scope : Scope} {f c' : Addr} {h₁ : Heap} {tk : Nat} {v0 : V} {u0 : Value} (I : Inv X pins σ H s) (L : LamS1 p X.env.scope scope) (hp : p ∉ X.N) (e0 : Env0 X.prog X.w X.K X.mg X.base A outer s1 HZ) (hd : A.handled = none)
    (un : Un (frs X.stack) [] H HZ s.heap s1.heap) (rv : RelV v0 u0) (hns : h₁.Ns s1.heap.objs.size fun y => ([(p, u0)] : List (Str × Value)).reverse.lookup y) (kp : ∀ b o, s1.heap.get? b = some o → h₁.get? b = some o) :
    Inv (lamCx1 p X A outer s1 HZ E scope f c') [] (some v0 :: σ) HZ { s1 with heap := h₁, toks := tk } := by
  have hfree := L.has I.ok
  have cm : ∀ {y c}, (cloFrom X.env.cells scope.names []).lookup y = some c → X.env.cells.lookup y = some c := fun {y c} e => by
    rcases cloFrom_mem (PySem.mem_of_lookup e) with hm | ⟨h1, h2⟩
    · cases hm
    · obtain ⟨c1, hc⟩ := hfree _ h1 rfl
      have e2 : c = c1 := by
        rw [h2, show X.env.cells.lookup y = some c1 from hc] <;> rfl
      rw [e2]
      exact hc
  have look : ∀ {y}, scope.names.lookup y = some .free → ∃ c, (cloFrom X.env.cells scope.names []).lookup y = some c := fun {y} hl =>
    mem_lookup (cloFrom_has (cells := X.env.cells) (acc := []) (PySem.mem_of_lookup hl : (y, NameKind.free) ∈ scope.names))
  have cellK : ∀ {c : Addr} {v : Option Value}, H c = none → s.heap.IsCell c v → h₁.IsCell c v := fun {c v} n ⟨o, ho, hd⟩ => by
    obtain ⟨sl, q⟩ := un.any ho n (by simp)
    exact ⟨_, kp _ _ q, hd⟩
  have noA : ∀ b : Addr, b ∉ (lamCx1 p X A outer s1 HZ E scope f c').ex := fun b z => absurd (show b ∈ ([] : List Addr) from z) (by simp)
  refine ⟨⟨e0.mod, L.kind, rfl, rfl, Nat.le_refl _, fun y z c e1 e2 => I.ok.inj y z c (cm e1) (cm e2), fun y hy => ?_, fun y c z _ => ?_, fun _ => hd, Around.frames_deeper e0.frames, .inr ⟨rfl, rfl⟩, fun b z => absurd z (noA b), e0.bs, e0.bsz, fun b _ _ => noA b,
      fun b z => absurd z (noA b), e0.funs, e0.frf⟩,
    rfl, e0.bare, Un.kept kp, ⟨_, hns, fun i y v e1 e2 e3 => ?_⟩, fun y c e => ?_, e0.hok.fresh (Nat.le_refl _), fun y c e => ?_, fun q hq => absurd (show q ∈ ([] : List (Addr × Obj)) ++ [] from hq) (by simp), e0.hok.kept kp, congrArg (· + 1) I.len⟩
  · have hy : scope.names.lookup y = some .cell ∨ scope.names.lookup y = some .free := hy
    rcases hy with hy | hy
    · exact absurd rfl (L.own _ (PySem.mem_of_lookup hy))
    · exact look hy
  · exact Bool.noConfusion (show false = true from z)
  · have e3 : Vis scope y := e3
    cases i with
    | zero =>
      obtain rfl : p = y := Option.some.inj (show some p = some y from e1)
      obtain rfl : v0 = v := Option.some.inj (Option.some.inj (show some (some v0) = some (some v) from e2))
      exact ⟨u0, rv, .inl ⟨L.par, by simp [List.lookup]⟩⟩
    | succ i =>
      have e1 : X.N[i]? = some y := e1
      have e2 : σ[i]? = some (some v) := e2
      rcases e3 with k | k | k
      · have := L.loc _ (PySem.mem_of_lookup k) rfl
        exact absurd (List.mem_of_getElem? e1) (by rw [show y = p from this]; exact hp)
      · exact absurd rfl (L.own _ (PySem.mem_of_lookup k))
      · obtain ⟨m, hn, hl⟩ := I.loc
        have hvis : Vis X.env.scope y := (L.free _ (PySem.mem_of_lookup k) rfl).elim (fun k => .inr (.inl k)) (fun k => .inr (.inr k))
        obtain ⟨w', r, q⟩ := hl i y v e1 e2 hvis
        obtain ⟨c2, h2⟩ := look k
        refine ⟨w', r, .inr ⟨.inr k, c2, h2, ?_⟩⟩
        have c1 := cm h2
        rcases q with ⟨k', _⟩ | ⟨_, c3, e', z⟩
        · have k' : X.env.scope.names.lookup y = some .local := k'
          rcases L.free _ (PySem.mem_of_lookup k) rfl with k2 | k2 <;> rw [show X.env.scope.names.lookup y = _ from k2] at k' <;> cases k'
        · rw [c1] at e'
          cases e'
          exact cellK (I.freeC y _ c1) z
  · obtain ⟨w', z⟩ := I.cell y c (cm e)
    exact ⟨w', cellK (I.freeC y c (cm e)) z⟩
  · obtain ⟨v, o, ho, hd⟩ := I.cell y c (cm e)
    exact un.free c o ho (I.freeC y c (cm e)) (by simp)
/-- what the lambda promises, by its body's reading tb in the maker's slots -/
def spLam (c' : Addr) (q : Str) (tb : XK → TE) (σ : L2.St) : Sp := fun vs H Q E => ∃ v, vs = [v] ∧ H c' = some (CodeO c' q) ∧ tb E (some v :: σ) H Q
theorem lam_ok {scope : Scope} {params : Arguments} {body : Expr} {f c' : Addr} {pm ctv : Value} {k : Nat} {tb : XK → TE} (I : Inv X pins σ H s) (L : LamS1 p X.env.scope scope) (hp : p ∉ X.N)
    (hf : s.heap.get? f = some (PySem.W.kla_obj "<lambda>" (X.env.qual ++ "<lambda>") params body scope (cloFrom X.env.cells scope.names []) pm c' ctv)) (hfn : H f = none) (hfr : f ∉ frs X.stack)
    (hbind : ∀ (u : Value) (q : Str) (cl : List (Str × Addr)) (pm cv ctv : Value), bindArgs (PySem.W.kla_fn "<lambda>" q params body scope cl pm cv ctv) ⟨[u], []⟩ = pure [(p, u)])
    (hbody : ∀ (A : Around) (outer : List Env) (s : Shared) (H : Hp) (E : XK) (f c' : Addr), A.guards = some [] → Room k (A.deeper (lamEnv X scope s.heap.objs.size f c')) → PE (lamCx1 p X A outer s H E scope f c') body (tb E)) :
    LamOk X.prog X.w X.K X.mg X.base (k + 1) X.stack s H f (spLam c' (X.env.qual ++ "<lambda>") tb σ) := by
  have of1 : ∀ (H1 : Hp) (h : Heap), Un (frs X.stack) [] H H1 s.heap h → h.get? f = some (PySem.W.kla_obj "<lambda>" (X.env.qual ++ "<lambda>") params body scope (cloFrom X.env.cells scope.names []) pm c' ctv) := fun H1 h un => un.keep f _ hf hfn hfr (by simp)
  refine ⟨fun H1 h un => ⟨_, _, _, _, of1 H1 h un⟩, fun A outer s1 HZ us vs Q E hG hr e0 un r hq => ?_⟩
  obtain ⟨v, rfl, hc, ht⟩ := hq
  cases r with
  | @cons _ u _ ur ra rw' =>
  cases rw'
  obtain ⟨⟨oc, vs, t, hoc, hdc, hvc⟩, _, _⟩ := e0.hok c' _ hc
  refine PySem.W.kla_callFunE hr.depth (of1 _ _ un) rfl L.co L.gen rfl ⟨c', oc, vs, t, rfl, hoc, hdc, hvc⟩ ?_
  rw [hbind]
  refine wpAny_pure (wpAny_newFunctionEnv (fun y hy => L.own y hy) (fun y hy => ?_) (fun h₁ hns hsb => ⟨(e0.mod.nolimit.keeps fun b o e => (e0.bs b o e).1).fresh _ hsb, ?_⟩) L.kind)
  · rw [List.mem_singleton] at hy
    rw [hy]
    exact L.par
  show codeAny _ _ (.expr body (lamEnv X scope s1.heap.objs.size f c')) _ _
  have kp : ∀ b o, s1.heap.get? b = some o → h₁.get? b = some o := fun b o e => hsb.extBut b o (Nat.ne_of_lt (Heap.lt_size e)) (Heap.get?_push_of_some _ e)
  have J : Inv (lamCx1 p X A outer s1 HZ E scope f c') [] (some v :: σ) HZ { s1 with heap := h₁, toks := s1.toks + ([(p, u)] : List (Str × Value)).length } := lam_start1 I L hp e0 hr.hd un ra hns kp
  refine PySem.W.kla_codeExpr (wpAny_mono ((hbody A outer s1 HZ E f c' hG (hr.deeper _)).run [] _ _ HZ Q J ht) (fun v s' hq => ?_) fun e s' hq => hq)
  obtain ⟨w', H', J', rv, q⟩ := hq
  exact ⟨w', H', J'.os, J'.bare, J'.base, J'.hok, rv, q⟩
end
end SfW
namespace SfW
open PySem PySem.Spec PyProof.Rows
open L2 hiding del del_ne del_same
open Evl (Ex RetV)
/-! networks: blocks left -/
variable {P : Program} {w : World} {K : PySem.W.Frag} {mg : Str → Option Value} {bs : Heap}
/-- the network and the block behind an exit -/
def backAt (K : PySem.W.Frag) (H : Hp) (t dt a dy w p l1 l2 l3 : Addr) : Hp := upd (upd H a (.ins (He.ga K "Network") dy (netFs w p l1 l2 l3))) t (.ins (He.ga K "PlayerTrial") dt [("subject", .ref a), ("kept", .non)])
def spExit (K : PySem.W.Frag) : Sp := fun vs H Q _ => ∃ (t dt a dy w p n dn l1 l2 l3 ls lt lo : Addr) (x y z : V), vs = [.ref t, x, y, z] ∧ H t = some (.ins (He.ga K "PlayerTrial") dt [("subject", .ref a), ("kept", .ref n)]) ∧ H n = some (.ins (He.ga K "PlayerNote") dn (noteFs l1 l2 l3 .non)) ∧
  H a = some (.ins (He.ga K "Network") dy (netFs w p ls lt lo)) ∧ Q .non (backAt K H t dt a dy w p l1 l2 l3)
theorem L_exit {K : PySem.W.Frag} : ∀ (vs : List V) (H : Hp) (Q : VK) (E : XK), spExit K vs H Q E → vs.length = 4 := fun vs H Q E ⟨_, _, _, _, _, _, _, _, _, _, _, _, _, _, _, _, _, h, _⟩ => by rw [h] <;> rfl
theorem B_exit (T : TX K mg) : Body0 P w K mg bs 2 (He.ma K (He.ga K "PlayerTrial") "__exit__") "PlayerTrial.__exit__" s_Trial_exit N_Trial_exit (spExit K) := fun cdv A outer s H vs Q E hr q => by
    obtain ⟨t, dt, a, dy, w1, p, n, dn, l1, l2, l3, ls, lt, lo, x, y, z, rfl, ht, hn, ha, k⟩ := q
    refine ⟨_, (pss_cons (ps_fld (pe_fld (pv 0) rfl) (pe_fld (pe_fld (pv 0) rfl) rfl) rfl) (pss_cons (ps_fld (pe_fld (pv 0) rfl) (pe_fld (pe_fld (pv 0) rfl) rfl) rfl) (pss_cons (ps_fld (pe_fld (pv 0) rfl) (pe_fld (pe_fld (pv 0) rfl) rfl) rfl) (pss_one (ps_fld (pv 0) (pe_fld (pe_fld (pv 0) rfl) rfl) rfl))))), ?_⟩
    have nt : t ≠ a := ne_of ht ha (fun z => by injection z with _ _ z; cases z)
    have nn : n ≠ a := ne_of hn ha (fun z => by injection z with _ _ z; cases z)
    refine ⟨.ref t, rfl, t, _, dt, _, .ref n, rfl, ht, T.c_PlayerTrial, T.n_PlayerTrial_kept, rfl, n, _, dn, _, .ref l1, rfl, hn, T.c_PlayerNote, T.n_PlayerNote_states, rfl, .ref t, rfl, t, _, dt, _, .ref a, rfl, ht, T.c_PlayerTrial, T.n_PlayerTrial_subject, rfl, a, _, dy, _, rfl, ha, T.c_Network, T.n_Network_states, (by show 6 < 1000; decide), ?_⟩
    generalize hG : upd H a _ = G1
    have a1 : G1 a = some (.ins (He.ga K "Network") dy (netFs w1 p l1 lt lo)) := by rw [← hG] <;> exact upd_same
    have t1 : G1 t = some (.ins (He.ga K "PlayerTrial") dt [("subject", .ref a), ("kept", .ref n)]) := by rw [← hG, upd_ne nt] <;> exact ht
    have n1 : G1 n = some (.ins (He.ga K "PlayerNote") dn (noteFs l1 l2 l3 .non)) := by rw [← hG, upd_ne nn] <;> exact hn
    refine ⟨.ref t, rfl, t, _, dt, _, .ref n, rfl, t1, T.c_PlayerTrial, T.n_PlayerTrial_kept, rfl, n, _, dn, _, .ref l2, rfl, n1, T.c_PlayerNote, T.n_PlayerNote_sent, rfl, .ref t, rfl, t, _, dt, _, .ref a, rfl, t1, T.c_PlayerTrial, T.n_PlayerTrial_subject, rfl, a, _, dy, _, rfl, a1, T.c_Network, T.n_Network_sent, (by show 6 < 1000; decide), ?_⟩
    generalize hG2 : upd G1 a _ = G2
    have a2 : G2 a = some (.ins (He.ga K "Network") dy (netFs w1 p l1 l2 lo)) := by rw [← hG2] <;> exact upd_same
    have t2 : G2 t = some (.ins (He.ga K "PlayerTrial") dt [("subject", .ref a), ("kept", .ref n)]) := by rw [← hG2, upd_ne nt] <;> exact t1
    have n2 : G2 n = some (.ins (He.ga K "PlayerNote") dn (noteFs l1 l2 l3 .non)) := by rw [← hG2, upd_ne nn] <;> exact n1
    refine ⟨.ref t, rfl, t, _, dt, _, .ref n, rfl, t2, T.c_PlayerTrial, T.n_PlayerTrial_kept, rfl, n, _, dn, _, .ref l3, rfl, n2, T.c_PlayerNote, T.n_PlayerNote_own_sights, rfl, .ref t, rfl, t, _, dt, _, .ref a, rfl, t2, T.c_PlayerTrial, T.n_PlayerTrial_subject, rfl, a, _, dy, _, rfl, a2, T.c_Network, T.n_Network_own_sights, (by show 6 < 1000; decide), ?_⟩
    have t3 : upd G2 a (.ins (He.ga K "Network") dy (netFs w1 p l1 l2 l3)) t = some (.ins (He.ga K "PlayerTrial") dt [("subject", .ref a), ("kept", .ref n)]) := by rw [upd_ne nt] <;> exact t2
    have n3 : upd G2 a (.ins (He.ga K "Network") dy (netFs w1 p l1 l2 l3)) n = some (.ins (He.ga K "PlayerNote") dn (noteFs l1 l2 l3 .non)) := by rw [upd_ne nn] <;> exact n2
    refine ⟨.ref t, rfl, t, _, dt, _, .ref n, rfl, t3, T.c_PlayerTrial, T.n_PlayerTrial_kept, rfl, n, _, dn, _, .non, rfl, n3, T.c_PlayerNote, T.n_PlayerNote_outer, rfl, .ref t, rfl, t, _, dt, _, rfl, t3, T.c_PlayerTrial, T.n_PlayerTrial_kept, (by show 2 < 1000; decide), ?_⟩
    have eq : upd G2 a (.ins (He.ga K "Network") dy (netFs w1 p l1 l2 l3)) = upd H a (.ins (He.ga K "Network") dy (netFs w1 p l1 l2 l3)) := by rw [← hG2, upd_upd, ← hG, upd_upd]
    show Q .non (upd (upd G2 a (.ins (He.ga K "Network") dy (netFs w1 p l1 l2 l3))) t (.ins (He.ga K "PlayerTrial") dt [("subject", .ref a), ("kept", .non)]))
    rw [eq]
    exact k
theorem O_exit (T : TX K mg) : ∃ fd, FnOk P w K mg bs CX0 3 (He.ma K (He.ga K "PlayerTrial") "__exit__") fd ["self", "kind", "value", "trace"] (spExit K) ∧ FnE P w K mg bs 3 (He.ma K (He.ga K "PlayerTrial") "__exit__") fd ["self", "kind", "value", "trace"] (spExit K) ∧
    Binds K fd ["self", "kind", "value", "trace"] [] := by
  obtain ⟨fd, F⟩ := T.f_Trial_exit
  have hb := F.bindsN (ps := ["self", "kind", "value", "trace"]) fun _ _ _ _ _ _ us hl => match us, hl with | [_, _, _, _], _ => rfl
  have ok := F.ok (P := P) (w := w) (mg := mg) (base := bs) S_Trial_exit L_exit (body0 (B_exit (P := P) (w := w) (bs := bs) T))
  obtain ⟨oc, od, dV, kV, doc, pm, an, cdv, ct, osl, rfl, lk, hcd, _, _⟩ := F.ex
  refine ⟨_, ok, fnE_of lk hcd S_Trial_exit L_exit fun A outer s H vs Q pp q => ?_, hb⟩
  obtain ⟨t, dt, a, dy, w1, p, n, dn, l1, l2, l3, ls, lt, lo, x, y, z, rfl, ht, hn, ha, k⟩ := q
  refine ⟨_, (pss_cons (ps_fld (pe_fld (pv 0) rfl) (pe_fld (pe_fld (pv 0) rfl) rfl) rfl) (pss_cons (ps_fld (pe_fld (pv 0) rfl) (pe_fld (pe_fld (pv 0) rfl) rfl) rfl) (pss_cons (ps_fld (pe_fld (pv 0) rfl) (pe_fld (pe_fld (pv 0) rfl) rfl) rfl) (pss_one (ps_fld (pv 0) (pe_fld (pe_fld (pv 0) rfl) rfl) rfl))))), ?_⟩
  have nt : t ≠ a := ne_of ht ha (fun z => by injection z with _ _ z; cases z)
  have nn : n ≠ a := ne_of hn ha (fun z => by injection z with _ _ z; cases z)
  refine ⟨.ref t, rfl, t, _, dt, _, .ref n, rfl, ht, T.c_PlayerTrial, T.n_PlayerTrial_kept, rfl, n, _, dn, _, .ref l1, rfl, hn, T.c_PlayerNote, T.n_PlayerNote_states, rfl, .ref t, rfl, t, _, dt, _, .ref a, rfl, ht, T.c_PlayerTrial, T.n_PlayerTrial_subject, rfl, a, _, dy, _, rfl, ha, T.c_Network, T.n_Network_states, (by show 6 < 1000; decide), ?_⟩
  generalize hG : upd H a _ = G1
  have a1 : G1 a = some (.ins (He.ga K "Network") dy (netFs w1 p l1 lt lo)) := by rw [← hG] <;> exact upd_same
  have t1 : G1 t = some (.ins (He.ga K "PlayerTrial") dt [("subject", .ref a), ("kept", .ref n)]) := by rw [← hG, upd_ne nt] <;> exact ht
  have n1 : G1 n = some (.ins (He.ga K "PlayerNote") dn (noteFs l1 l2 l3 .non)) := by rw [← hG, upd_ne nn] <;> exact hn
  refine ⟨.ref t, rfl, t, _, dt, _, .ref n, rfl, t1, T.c_PlayerTrial, T.n_PlayerTrial_kept, rfl, n, _, dn, _, .ref l2, rfl, n1, T.c_PlayerNote, T.n_PlayerNote_sent, rfl, .ref t, rfl, t, _, dt, _, .ref a, rfl, t1, T.c_PlayerTrial, T.n_PlayerTrial_subject, rfl, a, _, dy, _, rfl, a1, T.c_Network, T.n_Network_sent, (by show 6 < 1000; decide), ?_⟩
  generalize hG2 : upd G1 a _ = G2
  have a2 : G2 a = some (.ins (He.ga K "Network") dy (netFs w1 p l1 l2 lo)) := by rw [← hG2] <;> exact upd_same
  have t2 : G2 t = some (.ins (He.ga K "PlayerTrial") dt [("subject", .ref a), ("kept", .ref n)]) := by rw [← hG2, upd_ne nt] <;> exact t1
  have n2 : G2 n = some (.ins (He.ga K "PlayerNote") dn (noteFs l1 l2 l3 .non)) := by rw [← hG2, upd_ne nn] <;> exact n1
  refine ⟨.ref t, rfl, t, _, dt, _, .ref n, rfl, t2, T.c_PlayerTrial, T.n_PlayerTrial_kept, rfl, n, _, dn, _, .ref l3, rfl, n2, T.c_PlayerNote, T.n_PlayerNote_own_sights, rfl, .ref t, rfl, t, _, dt, _, .ref a, rfl, t2, T.c_PlayerTrial, T.n_PlayerTrial_subject, rfl, a, _, dy, _, rfl, a2, T.c_Network, T.n_Network_own_sights, (by show 6 < 1000; decide), ?_⟩
  have t3 : upd G2 a (.ins (He.ga K "Network") dy (netFs w1 p l1 l2 l3)) t = some (.ins (He.ga K "PlayerTrial") dt [("subject", .ref a), ("kept", .ref n)]) := by rw [upd_ne nt] <;> exact t2
  have n3 : upd G2 a (.ins (He.ga K "Network") dy (netFs w1 p l1 l2 l3)) n = some (.ins (He.ga K "PlayerNote") dn (noteFs l1 l2 l3 .non)) := by rw [upd_ne nn] <;> exact n2
  refine ⟨.ref t, rfl, t, _, dt, _, .ref n, rfl, t3, T.c_PlayerTrial, T.n_PlayerTrial_kept, rfl, n, _, dn, _, .non, rfl, n3, T.c_PlayerNote, T.n_PlayerNote_outer, rfl, .ref t, rfl, t, _, dt, _, rfl, t3, T.c_PlayerTrial, T.n_PlayerTrial_kept, (by show 2 < 1000; decide), ?_⟩
  have eq : upd G2 a (.ins (He.ga K "Network") dy (netFs w1 p l1 l2 l3)) = upd H a (.ins (He.ga K "Network") dy (netFs w1 p l1 l2 l3)) := by rw [← hG2, upd_upd, ← hG, upd_upd]
  show Q .non (upd (upd G2 a (.ins (He.ga K "Network") dy (netFs w1 p l1 l2 l3))) t (.ins (He.ga K "PlayerTrial") dt [("subject", .ref a), ("kept", .non)]))
  rw [eq]
  exact k
def spTrial (K : PySem.W.Frag) : Sp := fun vs H Q _ => ∃ (a dy : Addr) (fs : List (Str × V)), vs = [.ref a] ∧ H a = some (.ins (He.ga K "Network") dy fs) ∧ ∀ t dt H2, Ex H H2 → H t = none → H2 t = some (.ins (He.ga K "PlayerTrial") dt [("subject", .ref a), ("kept", .non)]) → Q (.ref t) H2
theorem F_trial (T : TX K mg) : FnR P w K mg bs CX0 3 (He.ma K (He.ga K "Network") "trial") (spTrial K) :=
  T.f_trial.fn S_trial (fun vs H Q E ⟨_, _, _, h, _⟩ => by rw [h] <;> rfl) (fun _ _ _ _ _ _ us hl => match us, hl with | [_], _ => rfl) (body0 fun cdv A outer s H vs Q E hr q => by
    obtain ⟨a, dy, fs, rfl, ha, k⟩ := q
    refine ⟨_, (pss_one (ps_ret (StX.pe_makeR T.k_PlayerTrial (F_Trial T) (hr.mono (by decide)) (by rfl) T.g_PlayerTrial pass0 (pa_cons (pv 0) pa_nil)))), ?_⟩
    refine ⟨.ref a, rfl, fun x dz hx hdz hne => ?_⟩
    exact ⟨x, dz, a, rfl, upd_same, fun H2 e2 h2 => ⟨rfl, k _ _ _ (mk_ex hx hdz e2) hx h2⟩⟩)
/-- what a trial asks of what is done in it -/
def spTriedK (K : PySem.W.Frag) (spW : Sp) (a : Addr) (H : Hp) (Q : VK) (E : XK) : Prop := ∃ (dy w p ls lt lo : Addr) (ss fs os : List V), H a = some (.ins (He.ga K "Network") dy (netFs w p ls lt lo)) ∧ H ls = some (.lst ss) ∧ H lt = some (.lst fs) ∧ H lo = some (.lst os) ∧
  ∀ H2 t dt n dn l1 l2 l3, Ex H H2 → H t = none → H n = none → H l1 = none → H l2 = none → H l3 = none → l1 ≠ l2 → l1 ≠ l3 → l2 ≠ l3 → H2 t = some (.ins (He.ga K "PlayerTrial") dt [("subject", .ref a), ("kept", .ref n)]) →
    H2 n = some (.ins (He.ga K "PlayerNote") dn (noteFs l1 l2 l3 .non)) → H2 l1 = some (.lst ss) → H2 l2 = some (.lst fs) → H2 l3 = some (.lst os) →
    spW [.ref a] H2 (fun v H3 => spExit K [.ref t, .non, .non, .non] H3 (fun _ H4 => Q v H4) E0) fun cls d H3 => (∃ k : V, RelV k cls) ∧ ∀ x y z : V, spExit K [.ref t, x, y, z] H3 (fun r H4 => r = .non ∧ E cls d H4) E0
theorem exit_ok {H3 : Hp} {Q : VK} {E : XK} {t dt a dy w p n dn l1 l2 l3 ls lt lo : Addr} {x y z : V} (k1 : H3 t = some (.ins (He.ga K "PlayerTrial") dt [("subject", .ref a), ("kept", .ref n)])) (k2 : H3 n = some (.ins (He.ga K "PlayerNote") dn (noteFs l1 l2 l3 .non)))
    (k3 : H3 a = some (.ins (He.ga K "Network") dy (netFs w p ls lt lo))) (q : Q .non (backAt K H3 t dt a dy w p l1 l2 l3)) : spExit K [.ref t, x, y, z] H3 Q E := ⟨t, dt, a, dy, w, p, n, dn, l1, l2, l3, ls, lt, lo, x, y, z, rfl, k1, k2, k3, q⟩
def spTried (P : Program) (w : World) (K : PySem.W.Frag) (mg : Str → Option Value) (bs : Heap) (k : Nat) : SpS := fun outer s vs H Q E => ∃ (a f : Addr) (spW : Sp), vs = [.ref a, .ref f] ∧ LamOk P w K mg bs (k + 3) outer s H f spW ∧ spTriedK K spW a H Q E
theorem B_tried (T : TX K mg) (k : Nat) (cdv : Value) (A : Around) (outer : List Env) (s : Shared) (H : Hp) (vs : List V) (Q : VK) (E : XK) (hG : A.guards = some []) (hr : Room (k + 3) (A.deeper (envOfC "Player.tried" (defScope s_tried) s.heap.objs.size (He.ma K (He.ga K "Network") "tried") cdv)))
    (q : spTried P w K mg bs k outer s vs H Q E) : ∃ t, PSs (cxOf (L2.CX P w) P w K mg bs N_tried "Player.tried" (defScope s_tried) (He.ma K (He.ga K "Network") "tried") cdv A outer s H E) (defBody s_tried) t ∧ t { nx := fun _ H' => Q .non H', rt := Q } (start N_tried vs) H := by
    obtain ⟨a, f, spW, rfl, L, dy, w1, p, ls, lt, lo, ss, fs, os, ha, h1, h2, h3, go⟩ := q
    obtain ⟨fdI, FI, bI⟩ := O_enter (P := P) (w := w) (bs := bs) T
    obtain ⟨fdX, FX, FE, bX⟩ := O_exit (P := P) (w := w) (bs := bs) T
    refine ⟨_, pss_one (ps_with (C := He.ga K "PlayerTrial") (i := 2) (Wout := fun cls d _ H => E cls d H) (tb := fun W D σ H => ∃ Ech : XK, (∀ cls d σ' H', Ech cls d H' → W cls d σ' H') ∧ tWork 1 f spW Ech (tCons (tVar 2) tNil) σ H D.rt) rfl rfl rfl (takes_of rfl rfl rfl rfl)
      (pe_methR0 (pv 0) T.c_Network T.m_Network_trial (F_trial T) (hr.mono (by omega)) pass0) T.c_PlayerTrial ⟨T.m_PlayerTrial_enter.at_, T.m_PlayerTrial_enter.fn, T.m_PlayerTrial_exit.at_, T.m_PlayerTrial_exit.fn⟩ FI (hr.mono (by omega)) bI FX FE bX S_tried.nd rfl (Or.inl rfl) (Or.inl rfl)
      (fun W pn xe tk => ?_)), ?_⟩
    · refine ⟨fun pins s' σ H' D I h' => ?_⟩
      obtain ⟨Ech, hW, h'⟩ := h'
      exact (pss_one (ps_ret (pe_work (i := 1) (E := Ech) L rfl hG hr (passes_call tk hW) rfl (Or.inl rfl) (pa_cons (pv 2) pa_nil)))).run pins s' σ H' D I h'
    refine ⟨.ref a, rfl, a, dy, _, rfl, ha, netFs_no (by decide +kernel), a, dy, _, rfl, ha, fun t dt H1 e1 nt ht => ⟨t, dt, _, rfl, ht, ?_⟩⟩
    refine ⟨t, dt, a, dy, w1, p, ls, lt, lo, ss, fs, os, rfl, ht, e1 _ _ ha, e1 _ _ h1, e1 _ _ h2, e1 _ _ h3, fun H2 n dn l1 l2 l3 e2 t2 n2 fn f1 f2 f3 d1 d2 d3 q1 q2 q3 => ?_⟩
    have old : ∀ {b : Addr} {o : HO}, H b = some o → b ≠ t := fun {b o} h z => by
      rw [z, nt] at h
      cases h
    have e02 : Ex H H2 := fun b o h => e2 _ _ (by rw [del_ne (old h)]; exact e1 _ _ h)
    have fr : ∀ {l : Addr}, H1 l = none → H l = none := fun h => Evl.fresh_back e1 h
    exact ⟨_, fun cls d σ' H3 h => h, rfl, .ref a, rfl, go H2 t dt n dn l1 l2 l3 e02 nt (fr fn) (fr f1) (fr f2) (fr f3) d1 d2 d3 t2 n2 q1 q2 q3⟩
theorem L_tried {k : Nat} : ∀ (outer : List Env) (s : Shared) (vs : List V) (H : Hp) (Q : VK) (E : XK), spTried P w K mg bs k outer s vs H Q E → vs.length = 2 := fun outer s vs H Q E ⟨_, _, _, h, _⟩ => by rw [h] <;> rfl
theorem F_tried (T : TX K mg) (k : Nat) : FnG P w K mg bs (L2.CX P w) (k + 4) (He.ma K (He.ga K "Network") "tried") (spTried P w K mg bs k) :=
  T.f_tried.fnG S_tried L_tried (fun _ _ _ _ _ _ us hl => match us, hl with | [_, _], _ => rfl) (B_tried T k)
/-- tried(work = ..) -/
theorem F_triedK (T : TX K mg) (k : Nat) (A : Around) (outer : List Env) (s : Shared) (H : Hp) (u v : Value) (vs : List V) (Q : VK) (E : XK) (hG : A.guards = some []) (hr : Room (k + 4) A) (e0 : Env0 P w K mg bs A outer s H) (r : Vals vs [u, v]) (h : spTried P w K mg bs k outer s vs H Q E) :
    codeAny (model P w) A (.call (.ref (He.ma K (He.ga K "Network") "tried")) ⟨[u], [("work", v)]⟩) (CR (L2.CX P w) outer P w H s Q E) s := by
  obtain ⟨fd, F⟩ := T.f_tried
  obtain ⟨oc, od, dV, kV, doc, pm, an, cdv, ct, osl, rfl, lk, hcd, hD, hK⟩ := F.ex
  have hB : BindsTo s (PySem.W.fnOf "tried" "Player.tried" (defArgs s_tried) (defBody s_tried) (defScope s_tried) dV kV doc pm an cdv ct) ⟨[u], [("work", v)]⟩ ((["self", "work"] : List Str).zip [u, v]) := by
    rcases hD with ⟨_, rfl⟩ | ⟨e, _⟩
    · exact .of_eq rfl
    · exact absurd rfl e
  exact LamX.run_ofS lk hcd S_tried hr e0 hB r (L_tried _ _ _ _ _ _ h) fun hr' => B_tried T k cdv A outer s H vs Q E hG hr' h
end SfW
namespace SfW
open PySem PySem.Spec PyProof.Rows
open L2 hiding del del_ne del_same
open Evl (Ex RetV)
/-! a frame that no host of the network sends: NoHost -/
variable {P : Program} {w : World} {K : PySem.W.Frag} {mg : Str → Option Value} {bs : Heap}
/-- the error with this name leaves, nothing is changed -/
def NoHostE (K : PySem.W.Frag) (h : Str) (H : Hp) (E : XK) : Prop := ∀ d H2, Ex H H2 → H2 d = some (.xd [("name", .str h)]) → E (.ref (He.ga K "NoHost")) (some d) H2
theorem NoHostE.ex {h : Str} {H H1 : Hp} {E : XK} (k : NoHostE K h H E) (e : Ex H H1) : NoHostE K h H1 E := fun d H2 e2 h2 => k d H2 (e.trans e2) h2
def spNeedHostX (K : PySem.W.Frag) : Sp := fun vs H _ E => ∃ (a : Addr) (W : WD) (h : Str), vs = [.ref a, .str h] ∧ NetI K H a W ∧ h ∉ W.hs ∧ NoHostE K h H E
theorem made_ex {H : Hp} {a d : Addr} {o o' u v : HO} (ha : H a = none) (hd : H d = none) (n : d ≠ a) : Ex H (upd (L2.del (upd (upd (upd H a o) d u) a o') a) d v) := fun b q h => by
  have n1 : b ≠ a := fun z => by
    rw [z, ha] at h
    cases h
  have n2 : b ≠ d := fun z => by
    rw [z, hd] at h
    cases h
  rw [upd_ne n2, L2.del_ne n1, upd_ne n1, upd_ne n2, upd_ne n1]
  exact h
theorem X_need_host (T : TX K mg) (U : TY P K) (Z : TZ P K) : FnR P w K mg bs (L2.CX P w) 3 (He.ma K (He.ga K "Network") "need_host") (spNeedHostX K) :=
  T.f_need_host.fn S_need_host (fun vs H Q E ⟨_, _, _, h, _⟩ => by rw [h] <;> rfl) (fun _ _ _ _ _ _ us hl => match us, hl with | [_, _], _ => rfl) fun cdv A outer s H vs Q E hr q => by
    obtain ⟨a, W, h, rfl, ⟨dx, w1, pH, ls, lt, lo, ha, hW, hpH⟩, hm, k⟩ := q
    refine ⟨_, (pss_one (ps_if (PW.pt (pw_or (pt_not (pt_val (pe_callB call_isi (by rfl) T.b_isinstance (by decide +kernel) (pa_cons (pv 1) (pa_cons (pe_bltn (v := .ty "str") (by rfl) T.b_str (by decide +kernel) rfl) pa_nil))))) (pw_or1 (pt_cmpR op_notIn_seq (pv 1) (pe_fld (pv 0) rfl) (by rfl))))) (pss_one (ps_raise rfl (takes_of rfl rfl rfl rfl) (pmk_oexR Z.oex Z.ini Z.ty (F_NoHost T U Z) (hr.mono (by decide)) pass0 rfl T.g_NoHost (pa_cons (pv 1) pa_nil)))) pss_nil)), ?_⟩
    refine ⟨.str h, rfl, .str h, .ty "str", .type "str", .type "str", true, rfl, .ty _, .base (.str _), kit_ty (by decide +kernel), true, rfl, iteF ?_⟩
    refine ⟨.str h, rfl, .ref a, rfl, a, _, dx, _, .ref pH, rfl, ha, T.c_Network, T.n_Network_own_hosts, rfl, pH, _, rfl, .inr (.inl (.inl hpH)), rfl, flat_txs _, _, rfl, ?_⟩
    show if (!inV (.str h) (txs W.hs)) = true then _ else _
    rw [inV_txs, decide_eq_false hm]
    refine iteT ⟨.str h, rfl, (by show 1 ≤ 1000; decide), fun x hx => ⟨x, h, rfl, upd_same, fun d nd ne => ⟨rfl, d, [("name", .str h)], upd_same, ?_, ?_, ?_⟩⟩⟩
    · rw [upd_ne ne, upd_same]
    · rw [upd_ne ne] at nd
      exact nd
    · rw [upd_ne ne] at nd
      exact k d _ (made_ex hx nd ne) upd_same
def spNeedFrameX (K : PySem.W.Frag) : Sp := fun vs H _ E => ∃ (a fr : Addr) (W : WD) (h : Str) (t : Option Str), vs = [.ref a, .ref fr] ∧ NetI K H a W ∧ FrAt K H fr h t ∧ h ∉ W.hs ∧ NoHostE K h H E
theorem X_need_frame (T : TX K mg) (U : TY P K) (Z : TZ P K) : FnR P w K mg bs (L2.CX P w) 4 (He.ma K (He.ga K "Network") "need_frame") (spNeedFrameX K) :=
  T.f_need_frame.fn S_need_frame (fun vs H Q E ⟨_, _, _, _, _, h, _⟩ => by rw [h] <;> rfl) (fun _ _ _ _ _ _ us hl => match us, hl with | [_, _], _ => rfl) fun cdv A outer s H vs Q E hr q => by
    obtain ⟨a, fr, W, sd, tg, rfl, hN, hF, fin, k⟩ := q
    refine ⟨_, (pss_cons (ps_if (pt_not (pt_val (pe_callB call_isi (by rfl) T.b_isinstance (by decide +kernel) (pa_cons (pv 1) (pa_cons (pe_glob (v := .ref (He.ga K "Frame")) (by rfl) T.g_Frame rfl) pa_nil))))) pss_never pss_nil) (pss_cons (ps_expr (pe_methR (pv 0) T.c_Network T.m_Network_need_host (X_need_host T U Z) (hr.mono (by decide)) (passes_call (takes_of rfl rfl rfl rfl) fun _ _ _ _ h => h) (pa_cons (pe_fld (pv 1) rfl) pa_nil))) (pss_one (ps_if (pt_cmpR op_notN (pe_fld (pv 1) rfl) pe_non (nomark _)) (pss_one (ps_expr (pe_methR (pv 0) T.c_Network T.m_Network_need_host (X_need_host T U Z) (hr.mono (by decide)) (passes_call (takes_of rfl rfl rfl rfl) fun _ _ _ _ h => h) (pa_cons (pe_fld (pv 1) rfl) pa_nil)))) pss_nil)))), ?_⟩
    obtain ⟨dx, w1, pH, ls, lt, lo, ha, hW, hpH⟩ := id hN
    obtain ⟨dxf, hF1⟩ := hF
    refine ⟨.ref fr, rfl, .ref fr, .ref (He.ga K "Frame"), .ref (He.ga K "Frame"), .ref (He.ga K "Frame"), true, rfl, .own _, ty_ins hF1 T.c_Frame T.q_Frame, T.is_Frame_Frame, true, rfl, iteF ?_⟩
    exact ⟨.ref a, rfl, a, dx, _, rfl, ha, netFs_no (by decide +kernel), .ref fr, rfl, fr, _, dxf, _, .str sd, rfl, hF1, T.c_Frame, T.n_Frame_sender, rfl, a, W, sd, rfl, hN, fin, k⟩
theorem X_send (T : TX K mg) (U : TY P K) (Z : TZ P K) : FnR P w K mg bs (L2.CX P w) 5 (He.ma K (He.ga K "Network") "send") (spNeedFrameX K) :=
  T.f_send.fn S_send (fun vs H Q E ⟨_, _, _, _, _, h, _⟩ => by rw [h] <;> rfl) (fun _ _ _ _ _ _ us hl => match us, hl with | [_, _], _ => rfl) fun cdv A outer s H vs Q E hr q => by
    obtain ⟨a, fr, W, sd, tg, rfl, hN, hF, fin, k⟩ := q
    refine ⟨_, (pss_cons (ps_expr (pe_methR (pv 0) T.c_Network T.m_Network_need_frame (X_need_frame T U Z) (hr.mono (by decide)) (passes_call (takes_of rfl rfl rfl rfl) fun _ _ _ _ h => h) (pa_cons (pv 1) pa_nil))) (pss_cons (ps_set (i := 2) S_send.nd rfl (Or.inl rfl) (pe_ix ix_list (pe_fld (pv 0) rfl) (pe_un un_neg pe_int) (fun _ _ => rfl))) (pss_cons (ps_set (i := 3) S_send.nd rfl (Or.inl rfl) (pe_methR (pv 0) T.c_Network T.m_Network_sight_at (F_sight_at T) (hr.mono (by decide)) pass0 (pa_cons (pv 2) (pa_cons (pv 1) pa_nil)))) (pss_cons (ps_expr (pe_bm PySem.F.plainAttrs_list PySem.F.slot_list_append PySem.F.type_list_append mt_append (pe_fld (pv 0) rfl) (pa_cons (pe_methR (pv 0) T.c_Network T.m_Network_state_behind (F_state_behind T) (hr.mono (by decide)) pass0 (pa_cons (pv 2) (pa_cons (pv 1) (pa_cons (pv 3) pa_nil)))) pa_nil))) (pss_cons (ps_expr (pe_bm PySem.F.plainAttrs_list PySem.F.slot_list_append PySem.F.type_list_append mt_append (pe_fld (pv 0) rfl) (pa_cons (pv 1) pa_nil))) (pss_cons (ps_expr (pe_bm PySem.F.plainAttrs_list PySem.F.slot_list_append PySem.F.type_list_append mt_append (pe_fld (pv 0) rfl) (pa_cons (pv 3) pa_nil))) (pss_one (ps_ret (pv 3))))))))), ?_⟩
    obtain ⟨dx, w1, pH, ls, lt, lo, ha, hW, hpH⟩ := id hN
    exact ⟨.ref a, rfl, a, dx, _, rfl, ha, netFs_no (by decide +kernel), .ref fr, rfl, a, fr, W, sd, tg, rfl, hN, hF, fin, k⟩
end SfW
namespace SfW
open PySem PySem.Spec PyProof.Rows L2
open PySem.Builtin
/-! x != y by the own == of the class -/
section
variable {prog : Program} {w : World} {A : Around} {E : Value → Shared → Prop} {s : Shared} {K : PySem.W.Frag} {x C : Addr} {ox : Obj} {od : Option Obj}
theorem ifBound_ne {M : Model} {args : List Value} {Q : Option Value → Shared → Prop} (X : K.In s.heap) (I : PySem.W.InstAt s.heap x ox C od) (hs : PySem.W.findIn K (.ref C) "__ne__" = some (some (.builtin "object.__ne__")))
    (h : wpAny M A (call (.builtin "object.__ne__") (.ref x :: args)) (fun v => Q (some v)) E s) : wpAny M A (callSpecialIfBound? (.ref x) "__ne__" args) Q E s := by
  have hb := PySem.F.cmp_object.ne.bind (.ref x)
  simp only [callSpecialIfBound?, bindSpecialIfBound?]
  refine wpAny_holding (wpAny_bind (wpAny_bind (wpAny_bind (I.type.here ((PySem.W.looks_findIn X hs).here (wpAny_bind (wpAny_askSetting (wpAny_ite ?_))))))))
  have fin : wpAny M A (call (.builtin "object.__ne__") ([.ref x] ++ args) >>= fun v => pure (some v)) Q E s := wpAny_bind (wpAny_mono h (fun v s' h' => wpAny_pure h') fun _ _ h' => h')
  split
  · exact wpAny_bind (wpAny_of_eq hb (wpAny_pure (by exact fin)))
  · exact wpAny_tryCatch (wpAny_bind (wpAny_of_eq hb (wpAny_pure (by exact fin))))
end
section
variable {X : Cx} {n : Nat}
/-- both are instances of C and equal by its own == -/
theorem op_neR {CX : CXT} {C f : Addr} {R : Addr → Addr → Hp → Prop} {E : XK} (F : FnR X.prog X.w X.K X.mg X.base CX n f (spEq R)) (hr : Room (n + 1) X.A)
    (hs : PySem.W.findIn X.K (.ref C) "__eq__" = some (some (.ref f))) (hf : PySem.W.isFn X.K (.ref f) = true) (hn : PySem.W.findIn X.K (.ref C) "__ne__" = some (some (.builtin "object.__ne__"))) (ho : PySem.W.mroIn X.K C (.type "object") = some true)
    (hx : Passes CX X E) : OpR X (compareOp .NotEq) (fun x y H Q => DIns C R x y H ∧ ∀ H', Ext H H' → Q (.bl false) H') := by
  intro pins s σ H x y u v Q I rx ry hq
  obtain ⟨⟨a, b, dx, dy, fs, gs, h1, h2, ha, hb, hR⟩, q⟩ := hq
  subst h1 h2
  cases rx
  cases ry
  obtain ⟨mA, JA, _⟩ := ins_get I.hok ha
  obtain ⟨mB, JB, _⟩ := ins_get I.hok hb
  obtain ⟨od, JA, _⟩ := JA.look
  obtain ⟨od', JB, _⟩ := JB.look
  have sb : Sub X (n + 1) X.A := ⟨hr, rfl⟩
  have K0 := I.kIn
  have e := I.env0
  have eI : Env0 X.prog X.w X.K X.mg X.base X.A.in1 X.stack s H := ⟨e.frames, e.mod, e.bs, e.bsz, e.funs, e.frf, e.hok, e.bare⟩
  have hsp : spEq R [.ref a, .ref b] H (fun v H' => v = .bl true ∧ Ext H H') E := ⟨a, b, rfl, hR, fun H' e => ⟨rfl, e⟩⟩
  have one : wpAny (model X.prog X.w) X.A (tryCompare (.ref a) "__ne__" (.ref b)) (fun r s' => r = some (.bool false) ∧ ∃ H', Inv X pins σ H' s' ∧ Ext H H') X.xe s := by
    unfold tryCompare
    refine wpAny_bind (ifBound_ne K0 JA hn (wpAny_call (codeAny_call_builtin PySem.F.cmp_object.ne.plain PySem.F.cmpEntry_ne (PySem.W.check_slot PySem.F.cmpKind_ne PySem.F.cmpSplit_ne (JA.type.andThen (PySem.W.looks_mroIn K0 ho)) (PySem.F.cmpArgs_ne _ _) ?_))))
    unfold Builtin.«object.__ne__»
    repeat (first
      | with_reducible refine wpAny_cRoomFor sb.in1.room.units0 ?_
      | (refine wpAny_bind (m := callSpecialIfBound? (.ref a) (Str.ofString "__eq__") [.ref b]) (PySem.W.ifBound_K K0 JA hs hf ?_))
      | wp_step)
    refine codeAny_mono (F X.A.in1 X.stack s H [.ref a, .ref b] [.ref a, .ref b] _ E sb.in1.room eI (.cons rfl (.cons rfl .nil)) hsp) fun r s' hq => ?_
    cases r with
    | error er => exact hx pins σ H s er s' I hq
    | ok fl =>
      cases fl with
      | ret w =>
        obtain ⟨z, H', I', rz, ez, ex⟩ := I.after hq
        subst ez
        cases rz
        refine wpAny_bind (wpAny_truthy_bool ?_)
        show wpAny _ _ (ret (Value.bool (!true))) _ _ _
        first
          | exact wpAny_pure (wpAny_pure ⟨rfl, H', I', ex⟩)
          | exact wpAny_pure ⟨rfl, H', I', ex⟩
          | (refine wpAny_pure ?_; exact wpAny_pure ⟨rfl, H', I', ex⟩)
      | next => exact False.elim hq
      | brk => exact False.elim hq
      | cont => exact False.elim hq
  show wpAny (model X.prog X.w) X.A (richCompare .NotEq (.ref a) (.ref b)) (EP X pins σ Q) X.xe s
  unfold richCompare
  simp only [oneThing_ref]
  refine wpAny_holding (wpAny_bind (wpAny_cRoomFor hr.units0 ?_))
  rw [cmpInfo_NotEq]
  refine wpAny_bind (JA.type.here (wpAny_bind (JB.type.here ?_)))
  rw [show (Value.ref C != Value.ref C) = false from by simp]
  simp only [Bool.false_eq_true, if_false]
  refine wpAny_bind (wpAny_pure ?_)
  simp only [Bool.false_eq_true, if_false]
  refine wpAny_bind (wpAny_mono one (fun r s' z => ?_) fun _ _ e => e)
  obtain ⟨rfl, H', I', ex⟩ := z
  exact wpAny_pure ⟨.bl false, H', I', rfl, q H' ex⟩
end
end SfW
namespace SfW
open PySem PySem.Spec PyProof.Rows
open L2 hiding del del_ne del_same
open Evl (Ex RetV)
/-! the law draws -/
variable {P : Program} {w : World} {K : PySem.W.Frag} {mg : Str → Option Value} {bs : Heap}
/-- the pen: at most n numbers were drawn -/
def PenAt (G H : Hp) (pen : Addr) (n : Nat) : Prop := ∃ (cl : Addr) (cs : List Int) (at_ rest : Int), H pen = some (.lst [.ref cl, .int at_, .int rest]) ∧ G cl = some (.lst (cs.map V.int)) ∧ cs.length ≤ 63 ∧ 0 ≤ at_ ∧ at_ ≤ n
theorem PenAt.mono {G G' H H' : Hp} {pen : Addr} {n n' : Nat} (h : PenAt G H pen n) (g : Ex G G') (e : ∀ o, H pen = some o → H' pen = some o) (hn : n ≤ n') : PenAt G' H' pen n' := by
  obtain ⟨cl, cs, a, r, h1, h2, h3, h4, h5⟩ := h
  exact ⟨cl, cs, a, r, e _ h1, g _ _ h2, h3, h4, by omega⟩
theorem dp_ints {H : Hp} : ∀ (cs : List Int), DpAll K H (cs.map V.int) (cs.map PyData.int)
  | [] => .nil
  | i :: cs => .cons (.int i) (dp_ints cs)
theorem shaped_ints (cs : List Int) : SeqAt.shaped (.list (cs.map PyData.int)) = true := by
  have h : PyData.canLayAll0 (cs.map PyData.int) = true ∧ PyData.depthAll (cs.map PyData.int) = 0 := by
    induction cs with
    | nil => exact ⟨rfl, rfl⟩
    | cons i cs ih =>
      refine ⟨?_, ?_⟩
      · show (true && PyData.canLayAll0 (cs.map PyData.int)) = true
        rw [ih.1]
        rfl
      · show max 0 (PyData.depthAll (cs.map PyData.int)) = 0
        rw [ih.2]
        rfl
  show (PyData.canLayAll0 (cs.map PyData.int) && decide (PyData.depthAll (cs.map PyData.int) + 1 ≤ 64)) = true
  rw [h.1, h.2]
  rfl
theorem del_ex2 {H : Hp} (a : Addr) (o : HO) : Ex (del a H) (upd H a o) := fun b u h => by
  obtain ⟨n, h1⟩ := of_del h
  rw [upd_ne n]
  exact h1
theorem dec2 {c A B : Prop} [Decidable c] (h1 : c → A) (h2 : ¬ c → B) : if decide c = true then A else B := by
  by_cases h : c
  · exact iteY h (h1 h)
  · exact iteZ h (h2 h)
theorem bnd1 (x a : Int) (h0 : 0 ≤ a) (h1 : a ≤ 1000000) : (x % 2147483579 + 50227 * a + 113).natAbs < 2 ^ 64 := by
  have := Int.emod_nonneg x (b := 2147483579) (by decide)
  have := Int.emod_lt_of_pos x (b := 2147483579) (by decide)
  omega
theorem bnd2 (x a : Int) (h0 : 0 ≤ a) (h1 : a ≤ 1000000) : ((x % 2147483629) * (2 * a + 103) + 61153 * a * a + 43).natAbs < 2 ^ 64 := by
  have e0 := Int.emod_nonneg x (b := 2147483629) (by decide)
  have e1 := Int.emod_lt_of_pos x (b := 2147483629) (by decide)
  generalize x % 2147483629 = y at e0 e1
  have p1 : y * (2 * a + 103) ≤ 2147483629 * 2000103 := Int.mul_le_mul (by omega) (by omega) (by omega) (by decide)
  have p2 : 0 ≤ y * (2 * a + 103) := Int.mul_nonneg e0 (by omega)
  have p3 : 61153 * a * a ≤ 61153000000 * 1000000 := Int.mul_le_mul (by omega) (by omega) h0 (by decide)
  have p4 : 0 ≤ 61153 * a * a := Int.mul_nonneg (by omega) h0
  omega
theorem emod64 (x : Int) : -(2 ^ 64) < x % 2147483629 ∧ x % 2147483629 < 2 ^ 64 := by
  have e0 := Int.emod_nonneg x (b := 2147483629) (by decide)
  have e1 := Int.emod_lt_of_pos x (b := 2147483629) (by decide)
  omega
theorem put_pen {H H2 : Hp} {pen : Addr} {o : HO} (x : Ex (del pen H) H2) : Ex (del pen H) (upd H2 pen o) := fun b u h => by
  rw [upd_ne (of_del h).1]
  exact x _ _ h
def spDraw : Sp := fun vs H Q _ => ∃ (G : Hp) (pen : Addr) (n : Nat) (m : Int), vs = [.ref pen, .int m] ∧ PenAt G H pen n ∧ Ex G H ∧ G pen = none ∧ n < 1000000 ∧ 0 < m ∧ m < 1000 ∧
  ∀ r H2, 0 ≤ r → r < m → Ex (del pen H) H2 → PenAt G H2 pen (n + 1) → Q (.int r) H2
theorem F_law_draw (T : TX K mg) : FnR P w K mg bs CX0 1 (He.ga K "_law_draw") spDraw :=
  T.f_law_draw.fn S_law_draw (fun vs H Q E ⟨_, _, _, _, h, _⟩ => by rw [h] <;> rfl) (fun _ _ _ _ _ _ us hl => match us, hl with | [_, _], _ => rfl) (body0 fun cdv A outer s H vs Q E hr q => by
    obtain ⟨G, pen, n, m, rfl, ⟨cl, cs, at_, rest, hp, hc, hcs, h0, hn⟩, ex, np, hn2, hm0, hm1, k⟩ := q
    have hu := hu_of hr
    refine ⟨_, (pss_cons (ps_if (pt_cmpR op_gt (pe_ix ix_list (pv 0) pe_int (fun _ _ => rfl)) pe_int (nomark _)) (pss_cons (ps_set (i := 2) S_law_draw.nd rfl (Or.inl rfl) (pe_op op_mod (pe_callTy call_int1 (by rfl) T.b_int (by decide +kernel) (pa_cons (pe_ix ix_list (pv 0) pe_int (fun _ _ => rfl)) pa_nil)) (pv 1))) (pss_cons (ps_asg (pe_op op_fdiv (pe_callTy call_int1 (by rfl) T.b_int (by decide +kernel) (pa_cons (pe_ix ix_list (pv 0) pe_int (fun _ _ => rfl)) pa_nil)) (pv 1)) (pg_sub (pv 0) pe_int set_list)) (pss_one (ps_ret (pv 2))))) pss_nil) (pss_cons (ps_set (i := 3) S_law_draw.nd rfl (Or.inl rfl) (pe_ix ix_list (pv 0) pe_int (fun _ _ => rfl))) (pss_cons (ps_asg (pe_op op_add (pv 3) pe_int) (pg_sub (pv 0) pe_int set_list)) (pss_cons (ps_set (i := 4) S_law_draw.nd rfl (Or.inl rfl) (pe_op op_add (pe_op op_mul pe_int (pv 3)) pe_int)) (pss_cons (ps_if (pt_cmpR (op_neD (hu64 hr)) (pe_ix ix_list (pv 0) pe_int (fun _ _ => rfl)) (pe_lst pa_nil) (nomark _)) (pss_one (ps_set (i := 4) S_law_draw.nd rfl (Or.inl rfl) (pe_ix ix_list (pe_ix ix_list (pv 0) pe_int (fun _ _ => rfl)) (pe_op op_mod (pe_callTy call_int1 (by rfl) T.b_int (by decide +kernel) (pa_cons (pv 3) pa_nil)) (pe_callB call_len_seq (by rfl) T.b_len PySem.boot_len (pa_cons (pe_ix ix_list (pv 0) pe_int (fun _ _ => rfl)) pa_nil))) (fun _ _ => rfl)))) pss_nil) (pss_cons (ps_if (PW.pt (pw_and (pt_cmpR op_lt (pv 3) (pe_callB call_len_seq (by rfl) T.b_len PySem.boot_len (pa_cons (pe_ix ix_list (pv 0) pe_int (fun _ _ => rfl)) pa_nil)) (nomark _)) (pw_and1 (pt_cmpR op_ge (pe_callB call_abs (by rfl) T.b_abs (by decide +kernel) (pa_cons (pv 4) pa_nil)) (pe_op op_pow pe_int pe_int) (nomark _))))) (pss_cons (ps_set (i := 5) S_law_draw.nd rfl (Or.inl rfl) (pe_op op_add (pe_op op_mul pe_int (pe_op op_sub (pe_callB call_abs (by rfl) T.b_abs (by decide +kernel) (pa_cons (pv 4) pa_nil)) (pe_op op_pow pe_int pe_int))) (pe_callTy call_int1 (by rfl) T.b_int (by decide +kernel) (pa_cons (pe_cmpR op_lt (pv 4) pe_int (nomark _)) pa_nil)))) (pss_cons (ps_asg (pe_op op_fdiv (pe_callTy call_int1 (by rfl) T.b_int (by decide +kernel) (pa_cons (pv 5) pa_nil)) (pv 1)) (pg_sub (pv 0) pe_int set_list)) (pss_one (ps_ret (pe_op op_mod (pe_callTy call_int1 (by rfl) T.b_int (by decide +kernel) (pa_cons (pv 5) pa_nil)) (pv 1)))))) pss_nil) (pss_cons (ps_set (i := 6) S_law_draw.nd rfl (Or.inl rfl) (pe_op op_mod (pe_callTy call_int1 (by rfl) T.b_int (by decide +kernel) (pa_cons (pe_op op_pow (pe_op op_add (pe_op op_add (pe_op op_mod (pe_callTy call_int1 (by rfl) T.b_int (by decide +kernel) (pa_cons (pv 4) pa_nil)) pe_int) (pe_op op_mul pe_int (pv 3))) pe_int) pe_int) pa_nil)) pe_int)) (pss_cons (ps_set (i := 6) S_law_draw.nd rfl (Or.inl rfl) (pe_op op_mod (pe_callTy call_int1 (by rfl) T.b_int (by decide +kernel) (pa_cons (pe_op op_pow (pe_op op_add (pe_op op_add (pe_op op_mul (pv 6) (pe_op op_add (pe_op op_mul pe_int (pv 3)) pe_int)) (pe_op op_mul (pe_op op_mul pe_int (pv 3)) (pv 3))) pe_int) pe_int) pa_nil)) pe_int)) (pss_one (ps_ret (pe_op op_mod (pe_callTy call_int1 (by rfl) T.b_int (by decide +kernel) (pa_cons (pe_op op_fdiv (pv 6) pe_int) pa_nil)) (pv 1)))))))))))), ?_⟩
    refine ⟨.ref pen, rfl, pen, _, 2, .int rest, rfl, rfl, .inl (.inl hp), rfl, rest, 0, rfl, rfl, _, rfl, ?_⟩
    have cp : cl ≠ pen := fun z => by
      rw [z, np] at hc
      cases hc
    have cl1 : ∀ {H1 : Hp}, Ex (del pen H) H1 → H1 cl = some (.lst (cs.map V.int)) := fun e => e _ _ (by rw [del_ne cp] <;> exact ex _ _ hc)
    have exG : ∀ {H1 : Hp}, Ex (del pen H) H1 → Ex G H1 := fun e b o h => e _ _ (by rw [del_ne (fun z => by rw [z, np] at h; cases h)] <;> exact ex _ _ h)
    by_cases c : 0 < rest
    · refine iteY c ?_
      refine ⟨.ref pen, rfl, pen, _, 2, .int rest, rfl, rfl, .inl (.inl hp), rfl, .inl ⟨rest, rfl, .int m, rfl, rest, m, rfl, rfl, hm0, ?_⟩⟩
      refine ⟨.ref pen, rfl, pen, _, 2, .int rest, rfl, rfl, .inl (.inl hp), rfl, .inl ⟨rest, rfl, .int m, rfl, rest, m, rfl, rfl, ⟨hm0, by omega⟩, ?_⟩⟩
      refine ⟨.ref pen, rfl, pen, _, 2, 2, rfl, rfl, hp, rfl, ?_⟩
      refine ⟨.int (rest % m), rfl, k _ _ (Int.emod_nonneg _ (by omega)) (Int.emod_lt_of_pos _ hm0) (del_ex2 _ _) ⟨cl, cs, at_, _, upd_same, hc, hcs, h0, by omega⟩⟩
    refine iteZ c ?_
    refine ⟨.ref pen, rfl, pen, _, 1, .int at_, rfl, rfl, .inl (.inl hp), rfl, ?_⟩
    refine ⟨.int at_, rfl, at_, 1, rfl, rfl, ?_⟩
    refine ⟨.ref pen, rfl, pen, _, 1, 1, rfl, rfl, hp, rfl, ?_⟩
    generalize hG1 : upd H pen _ = H1
    have p1 : H1 pen = some (.lst [.ref cl, .int (at_ + 1), .int rest]) := by rw [← hG1] <;> exact upd_same
    have x1 : Ex (del pen H) H1 := by rw [← hG1] <;> exact del_ex2 _ _
    clear hG1
    refine ⟨.int at_, rfl, 8219, at_, rfl, rfl, .inl ⟨by decide, by decide⟩, 8219 * at_, 577, rfl, rfl, ?_⟩
    refine ⟨.ref pen, rfl, pen, _, 0, .ref cl, rfl, rfl, .inl (.inl p1), rfl, Evl.sz_of (by show 0 ≤ 100000; decide), fun l hl => ⟨.list (cs.map PyData.int), .list [], .lst (.inl (.inl ((Ex.new hl) _ _ (cl1 x1)))) (dp_ints cs), .lst (.inl (.inl upd_same)) .nil, shaped_ints cs, rfl, _, rfl, ?_⟩⟩
    have xz : Ex (del pen H) (upd H1 l (.lst [])) := x1.trans (Ex.new hl)
    have pz : upd H1 l (.lst []) pen = some (.lst [.ref cl, .int (at_ + 1), .int rest]) := (Ex.new hl) _ _ p1
    revert xz pz
    generalize upd H1 l (.lst []) = H2
    intro xz pz
    by_cases e : cs = []
    · subst e
      refine iteF ?_
      generalize 8219 * at_ + 577 = cell
      refine ⟨.int at_, rfl, .ref pen, rfl, pen, _, 0, .ref cl, rfl, rfl, .inl (.inl pz), rfl, cl, _, rfl, .inl (.inl (.inl (cl1 xz))), at_, _, rfl, rfl, _, rfl, ?_⟩
      refine dec2 (fun c1 => ?_) fun c1 => ?_
      · refine ⟨_, rfl, _, rfl, 10, 18, rfl, rfl, ⟨by decide, by decide, by decide⟩, _, _, rfl, rfl, _, rfl, ?_⟩
        refine dec2 (fun c2 => ?_) fun c2 => ?_
        · refine ⟨_, rfl, _, rfl, 10, 18, rfl, rfl, ⟨by decide, by decide, by decide⟩, _, _, rfl, rfl, 2, _, rfl, rfl, .inl ⟨by decide, by decide⟩, _, rfl, _, 0, rfl, rfl, .inr ⟨_, rfl, _, _, rfl, rfl, ?_⟩⟩
          refine ⟨_, rfl, .inl ⟨_, rfl, .int m, rfl, _, m, rfl, rfl, ⟨hm0, by omega⟩, .ref pen, rfl, pen, _, 2, 2, rfl, rfl, pz, rfl, ?_⟩⟩
          exact ⟨_, rfl, .inl ⟨_, rfl, .int m, rfl, _, m, rfl, rfl, hm0, k _ _ (Int.emod_nonneg _ (by omega)) (Int.emod_lt_of_pos _ hm0) (put_pen xz) ⟨cl, _, at_ + 1, _, upd_same, hc, hcs, by omega, by omega⟩⟩⟩
        refine ⟨_, rfl, .inl ⟨_, rfl, _, 2147483579, rfl, rfl, (show (0 : Int) < 2147483579 by decide), .int at_, rfl, 50227, at_, rfl, rfl, .inl ⟨by decide, by decide⟩, _, _, rfl, rfl, _, 113, rfl, rfl, _, 3, rfl, rfl, ⟨by decide, by decide, bnd1 _ _ h0 (by omega)⟩, .inl ⟨_, rfl, _, 2147483629, rfl, rfl, (show (0 : Int) < 2147483629 by decide), ?_⟩⟩⟩
        refine ⟨_, rfl, .int at_, rfl, 2, at_, rfl, rfl, .inl ⟨by decide, by decide⟩, _, 103, rfl, rfl, _, _, rfl, rfl, .inl (emod64 _), .int at_, rfl, 61153, at_, rfl, rfl, .inl ⟨by decide, by decide⟩, .int at_, rfl, _, at_, rfl, rfl, .inr ⟨by omega, by omega⟩, _, _, rfl, rfl, _, 43, rfl, rfl, _, 5, rfl, rfl, ⟨by decide, by decide, bnd2 _ _ h0 (by omega)⟩, .inl ⟨_, rfl, _, 2147483587, rfl, rfl, (show (0 : Int) < 2147483587 by decide), ?_⟩⟩
        exact ⟨_, rfl, _, 16, rfl, rfl, ⟨by decide, by decide⟩, .inl ⟨_, rfl, .int m, rfl, _, m, rfl, rfl, hm0, k _ _ (Int.emod_nonneg _ (by omega)) (Int.emod_lt_of_pos _ hm0) xz ⟨cl, _, at_ + 1, rest, pz, hc, hcs, by omega, by omega⟩⟩⟩
      · refine ⟨_, rfl, .inl ⟨_, rfl, _, 2147483579, rfl, rfl, (show (0 : Int) < 2147483579 by decide), .int at_, rfl, 50227, at_, rfl, rfl, .inl ⟨by decide, by decide⟩, _, _, rfl, rfl, _, 113, rfl, rfl, _, 3, rfl, rfl, ⟨by decide, by decide, bnd1 _ _ h0 (by omega)⟩, .inl ⟨_, rfl, _, 2147483629, rfl, rfl, (show (0 : Int) < 2147483629 by decide), ?_⟩⟩⟩
        refine ⟨_, rfl, .int at_, rfl, 2, at_, rfl, rfl, .inl ⟨by decide, by decide⟩, _, 103, rfl, rfl, _, _, rfl, rfl, .inl (emod64 _), .int at_, rfl, 61153, at_, rfl, rfl, .inl ⟨by decide, by decide⟩, .int at_, rfl, _, at_, rfl, rfl, .inr ⟨by omega, by omega⟩, _, _, rfl, rfl, _, 43, rfl, rfl, _, 5, rfl, rfl, ⟨by decide, by decide, bnd2 _ _ h0 (by omega)⟩, .inl ⟨_, rfl, _, 2147483587, rfl, rfl, (show (0 : Int) < 2147483587 by decide), ?_⟩⟩
        exact ⟨_, rfl, _, 16, rfl, rfl, ⟨by decide, by decide⟩, .inl ⟨_, rfl, .int m, rfl, _, m, rfl, rfl, hm0, k _ _ (Int.emod_nonneg _ (by omega)) (Int.emod_lt_of_pos _ hm0) xz ⟨cl, _, at_ + 1, rest, pz, hc, hcs, by omega, by omega⟩⟩⟩
    · have e2 : (!PyData.eqv (.list (cs.map PyData.int)) (.list [])) = true := by
        cases cs with
        | nil => exact absurd rfl e
        | cons c cs => rfl
      rw [e2]
      refine iteT ?_
      have hlen : 0 < cs.length := List.length_pos_iff.mpr e
      have hj : (at_ % ((cs.map V.int).length : Nat)).toNat < cs.length := by
        have a1 := Int.emod_lt_of_pos at_ (b := (((cs.map V.int).length : Nat) : Int)) (by rw [List.length_map]; omega)
        have a2 := Int.emod_nonneg at_ (b := (((cs.map V.int).length : Nat) : Int)) (by rw [List.length_map]; omega)
        rw [List.length_map] at a1 a2 ⊢
        omega
      have hat : atI (cs.map V.int) (at_ % ((cs.map V.int).length : Nat)) = some (V.int (cellOf cs (at_ % ((cs.map V.int).length : Nat)).toNat)) := by
        have a2 := Int.emod_nonneg at_ (b := (((cs.map V.int).length : Nat) : Int)) (by rw [List.length_map]; omega)
        have z := atI_cell hj
        rwa [Int.toNat_of_nonneg a2] at z
      refine ⟨.ref pen, rfl, pen, _, 0, .ref cl, rfl, rfl, .inl (.inl pz), rfl, .int at_, rfl, .inl ⟨at_, rfl, .ref pen, rfl, pen, _, 0, .ref cl, rfl, rfl, .inl (.inl pz), rfl, cl, _, rfl, .inl (.inl (.inl (cl1 xz))), at_, _, rfl, rfl, (by rw [List.length_map]; omega), cl, _, _, _, rfl, rfl, .inl (.inl (cl1 xz)), hat, ?_⟩⟩
      refine ⟨.int at_, rfl, .ref pen, rfl, pen, _, 0, .ref cl, rfl, rfl, .inl (.inl pz), rfl, cl, _, rfl, .inl (.inl (.inl (cl1 xz))), at_, _, rfl, rfl, _, rfl, ?_⟩
      refine dec2 (fun c1 => ?_) fun c1 => ?_
      · refine ⟨_, rfl, _, rfl, 10, 18, rfl, rfl, ⟨by decide, by decide, by decide⟩, _, _, rfl, rfl, _, rfl, ?_⟩
        refine dec2 (fun c2 => ?_) fun c2 => ?_
        · refine ⟨_, rfl, _, rfl, 10, 18, rfl, rfl, ⟨by decide, by decide, by decide⟩, _, _, rfl, rfl, 2, _, rfl, rfl, .inl ⟨by decide, by decide⟩, _, rfl, _, 0, rfl, rfl, .inr ⟨_, rfl, _, _, rfl, rfl, ?_⟩⟩
          refine ⟨_, rfl, .inl ⟨_, rfl, .int m, rfl, _, m, rfl, rfl, ⟨hm0, by omega⟩, .ref pen, rfl, pen, _, 2, 2, rfl, rfl, pz, rfl, ?_⟩⟩
          exact ⟨_, rfl, .inl ⟨_, rfl, .int m, rfl, _, m, rfl, rfl, hm0, k _ _ (Int.emod_nonneg _ (by omega)) (Int.emod_lt_of_pos _ hm0) (put_pen xz) ⟨cl, _, at_ + 1, _, upd_same, hc, hcs, by omega, by omega⟩⟩⟩
        refine ⟨_, rfl, .inl ⟨_, rfl, _, 2147483579, rfl, rfl, (show (0 : Int) < 2147483579 by decide), .int at_, rfl, 50227, at_, rfl, rfl, .inl ⟨by decide, by decide⟩, _, _, rfl, rfl, _, 113, rfl, rfl, _, 3, rfl, rfl, ⟨by decide, by decide, bnd1 _ _ h0 (by omega)⟩, .inl ⟨_, rfl, _, 2147483629, rfl, rfl, (show (0 : Int) < 2147483629 by decide), ?_⟩⟩⟩
        refine ⟨_, rfl, .int at_, rfl, 2, at_, rfl, rfl, .inl ⟨by decide, by decide⟩, _, 103, rfl, rfl, _, _, rfl, rfl, .inl (emod64 _), .int at_, rfl, 61153, at_, rfl, rfl, .inl ⟨by decide, by decide⟩, .int at_, rfl, _, at_, rfl, rfl, .inr ⟨by omega, by omega⟩, _, _, rfl, rfl, _, 43, rfl, rfl, _, 5, rfl, rfl, ⟨by decide, by decide, bnd2 _ _ h0 (by omega)⟩, .inl ⟨_, rfl, _, 2147483587, rfl, rfl, (show (0 : Int) < 2147483587 by decide), ?_⟩⟩
        exact ⟨_, rfl, _, 16, rfl, rfl, ⟨by decide, by decide⟩, .inl ⟨_, rfl, .int m, rfl, _, m, rfl, rfl, hm0, k _ _ (Int.emod_nonneg _ (by omega)) (Int.emod_lt_of_pos _ hm0) xz ⟨cl, _, at_ + 1, rest, pz, hc, hcs, by omega, by omega⟩⟩⟩
      · refine ⟨_, rfl, .inl ⟨_, rfl, _, 2147483579, rfl, rfl, (show (0 : Int) < 2147483579 by decide), .int at_, rfl, 50227, at_, rfl, rfl, .inl ⟨by decide, by decide⟩, _, _, rfl, rfl, _, 113, rfl, rfl, _, 3, rfl, rfl, ⟨by decide, by decide, bnd1 _ _ h0 (by omega)⟩, .inl ⟨_, rfl, _, 2147483629, rfl, rfl, (show (0 : Int) < 2147483629 by decide), ?_⟩⟩⟩
        refine ⟨_, rfl, .int at_, rfl, 2, at_, rfl, rfl, .inl ⟨by decide, by decide⟩, _, 103, rfl, rfl, _, _, rfl, rfl, .inl (emod64 _), .int at_, rfl, 61153, at_, rfl, rfl, .inl ⟨by decide, by decide⟩, .int at_, rfl, _, at_, rfl, rfl, .inr ⟨by omega, by omega⟩, _, _, rfl, rfl, _, 43, rfl, rfl, _, 5, rfl, rfl, ⟨by decide, by decide, bnd2 _ _ h0 (by omega)⟩, .inl ⟨_, rfl, _, 2147483587, rfl, rfl, (show (0 : Int) < 2147483587 by decide), ?_⟩⟩
        exact ⟨_, rfl, _, 16, rfl, rfl, ⟨by decide, by decide⟩, .inl ⟨_, rfl, .int m, rfl, _, m, rfl, rfl, hm0, k _ _ (Int.emod_nonneg _ (by omega)) (Int.emod_lt_of_pos _ hm0) xz ⟨cl, _, at_ + 1, rest, pz, hc, hcs, by omega, by omega⟩⟩⟩)
end SfW
namespace SfW
open PySem PySem.Spec PyProof.Rows
open L2 hiding del del_ne del_same
open Evl (Ex RetV)
/-! the law's pen, picks and names -/
variable {P : Program} {w : World} {K : PySem.W.Frag} {mg : Str → Option Value} {bs : Heap}
theorem vals_at2 : ∀ (ys : List V) (us : List Value), ys.length = us.length → (∀ (j : Nat) (y : V) (u : Value), ys[j]? = some y → us[j]? = some u → RelV y u) → Vals ys us
  | [], [], _, _ => .nil
  | [], u :: us, h, _ => by cases h
  | y :: ys, [], h, _ => by cases h
  | y :: ys, u :: us, h, k => .cons (k 0 y u rfl rfl) (vals_at2 ys us (Nat.succ.inj h) fun j y' u' h1 h2 => k (j + 1) y' u' h1 h2)
def signV (x : Str) : List V := x.cps.toList.map fun c => .str ⟨#[c]⟩
/-- list(text) -/
theorem call_list_text {X : Cx} (hc : X.calm = true) : CallR X (.type "list") (fun xs H Q => ∃ x : Str, xs = [.str x] ∧ x.cps.size ≤ 1000 ∧ ∀ l, H l = none → Q (.ref l) (upd H l (.lst (signV x)))) := by
  intro pins s σ H xs us Q I r h
  obtain ⟨x, rfl, hz, q⟩ := h
  obtain ⟨u, rfl, t, rfl⟩ := vals1 r
  have hz2 : x.cps.size ≤ sizeLine := by
    rw [sizeLine_eq]
    omega
  refine call_list_str (I.ok.hd hc) x t (hn := hz2) fun h' tk acc c' hk e' hi => ?_
  refine ⟨.ref s.heap.objs.size, upd H s.heap.objs.size (.lst (signV x)), I.laid hk (Nat.le_refl _) (show ObjOk X.prog X.w _ _ _ (.lst (signV x)) from ⟨?_, acc.toList, c', vals_at2 _ _ ?_ fun j y v h1 h2 => ?_, ?_⟩), rfl, q _ (I.hok.fresh (Nat.le_refl _))⟩
  · unfold signV
    rw [List.length_map, Array.length_toList]
    exact hz2
  · unfold signV
    rw [List.length_map, Array.length_toList, Array.length_toList]
    exact hi.1.symm
  · obtain ⟨c, t2, e1, e2⟩ := hi.2 j v (by rw [← h2, Array.getElem?_toList])
    unfold signV at h1
    rw [List.getElem?_map, Array.getElem?_toList, e1] at h1
    cases h1
    exact ⟨t2, e2⟩
  · rw [Array.toArray_toList]
    exact e'
def spPen (K : PySem.W.Frag) : Sp := fun vs H Q _ => ∃ (l : Addr) (ns : List Int), vs = [.ref l] ∧ SqL K H l (ns.map V.int) ∧ ns.length ≤ 63 ∧
  ∀ (cl pen : Addr) (zs : List Int) (H2 : Hp), H cl = none → H pen = none → cl ≠ pen → Ex H H2 → zs.length ≤ 63 → H2 cl = some (.lst (zs.map V.int)) → H2 pen = some (.lst [.ref cl, .int 0, .int 0]) → Q (.ref pen) H2
theorem F_law_pen (T : TX K mg) : FnR P w K mg bs CX0 1 (He.ga K "_law_pen") (spPen K) :=
  T.f_law_pen.fn S_law_pen (fun vs H Q E ⟨_, _, h, _⟩ => by rw [h] <;> rfl) (fun _ _ _ _ _ _ us hl => match us, hl with | [_], _ => rfl) (body0 fun cdv A outer s H vs Q E hr q => by
    obtain ⟨l, ns, rfl, hl, few, k⟩ := q
    refine ⟨_, (pss_one (ps_ret (pe_lst (pa_cons (pe_callTy call_list_of (by rfl) T.b_list (by decide +kernel) (pa_cons (pe_slice sl_list (pv 0) po_none (po_some pe_int)) pa_nil)) (pa_cons pe_int (pa_cons pe_int pa_nil)))))), ?_⟩
    obtain ⟨zs, hz, lz⟩ : ∃ zs : List Int, cutV (ns.map V.int) none (some 63) = zs.map V.int ∧ zs.length ≤ 63 := by
      refine ⟨(ns.drop (HT.sIx (ns.map V.int).length 0 none)).take (HT.sIx (ns.map V.int).length (ns.map V.int).length (some 63) - HT.sIx (ns.map V.int).length 0 none), ?_, ?_⟩
      · unfold cutV
        rw [List.map_take, List.map_drop]
      · rw [List.length_take, List.length_drop]
        omega
    refine ⟨.ref l, rfl, 63, rfl, l, _, rfl, hl, fun p hp => ?_⟩
    rw [hz]
    refine ⟨p, zs.map V.int, rfl, .inl (.inl (.inl upd_same)), fun cl hcl => ⟨Evl.sz_of (by show 3 ≤ 100000; decide), fun pen hpen => ?_⟩⟩
    have n1 : H cl = none := Evl.fresh_back (Ex.new hp) hcl
    have n2 : H pen = none := Evl.fresh_back ((Ex.new hp).trans (Ex.new hcl)) hpen
    have ne : cl ≠ pen := fun z => by
      rw [← z, upd_same] at hpen
      cases hpen
    exact k cl pen zs _ n1 n2 ne (((Ex.new hp).trans (Ex.new hcl)).trans (Ex.new hpen)) lz (by rw [upd_ne ne]; exact upd_same) upd_same)
def spPick : Sp := fun vs H Q _ => ∃ (G : Hp) (pen : Addr) (n : Nat) (l : Addr) (xs : List V), vs = [.ref pen, .ref l] ∧ PenAt G H pen n ∧ Ex G H ∧ G pen = none ∧ n < 1000000 ∧ H l = some (.lst xs) ∧ l ≠ pen ∧ 0 < xs.length ∧ xs.length < 1000 ∧
  ∀ v H2, v ∈ xs → Ex (del pen H) H2 → PenAt G H2 pen (n + 1) → Q v H2
theorem F_law_pick (T : TX K mg) : FnR P w K mg bs CX0 2 (He.ga K "_law_pick") spPick :=
  T.f_law_pick.fn S_law_pick (fun vs H Q E ⟨_, _, _, _, _, h, _⟩ => by rw [h] <;> rfl) (fun _ _ _ _ _ _ us hl => match us, hl with | [_, _], _ => rfl) (body0 fun cdv A outer s H vs Q E hr q => by
    obtain ⟨G, pen, n, l, xs, rfl, hp, ex, np, hn, hl, ne, h0, h1, k⟩ := q
    refine ⟨_, (pss_one (ps_ret (pe_ix ix_list (pv 1) (pe_callR (F_law_draw T) (hr.mono (by decide)) T.f_law_draw.kp T.g__law_draw pass0 (pa_cons (pv 0) (pa_cons (pe_callB call_len_seq (by rfl) T.b_len PySem.boot_len (pa_cons (pv 1) pa_nil)) pa_nil))) (fun _ _ => rfl)))), ?_⟩
    refine ⟨.ref l, rfl, .ref pen, rfl, .ref l, rfl, l, xs, rfl, .inl (.inl (.inl hl)), G, pen, n, (xs.length : Nat), rfl, hp, ex, np, hn, by omega, by omega, fun r H2 r0 r1 e2 p2 => ?_⟩
    have hj : r.toNat < xs.length := by omega
    have hat : atI xs r = some xs[r.toNat] := by
      have z := atI_nat (xs := xs) (j := r.toNat) (List.getElem?_eq_getElem hj)
      rwa [Int.toNat_of_nonneg r0] at z
    exact ⟨l, xs, r, _, rfl, rfl, .inl (.inl (e2 _ _ (by rw [del_ne ne] <;> exact hl))), hat, k _ _ (List.getElem_mem hj) e2 p2⟩)
theorem erase_map {α β : Type} (f : α → β) : ∀ (l : List α) (j : Nat), (l.map f).eraseIdx j = (l.eraseIdx j).map f
  | [], _ => rfl
  | _ :: _, 0 => rfl
  | x :: l, j + 1 => congrArg (f x :: ·) (erase_map f l j)
theorem erase_perm {α : Type} : ∀ (l : List α) (j : Nat) (h : j < l.length), (l[j] :: l.eraseIdx j).Perm l
  | [], _, h => absurd h (Nat.not_lt_zero _)
  | _ :: _, 0, _ => List.Perm.refl _
  | x :: l, j + 1, h => (List.Perm.swap x _ _).trans ((erase_perm l j (Nat.lt_of_succ_lt_succ h)).cons x)
/-- the names that are drawn from -/
def pool1 : List Str := ["a", "b", "c", "d", "e", "f", "g", "h"]
def pool2 : List Str := ["x", "xx", "xxx", "xy", "xyz", "y", "yx", "z"]
def pool3 : List Str := ["all", "web", "host", "link", "none", "tree", "zzzzzzzz", "aaaaaaaa"]
def poolsOk : Bool := [pool1, pool2, pool3].all fun p => p.length == 8 && decide p.Nodup && p.all fun x => decide (1 ≤ x.length) && decide (x.length ≤ 8) && decide (x ≠ "nobody") && x.cps.toList.all fun c => decide (97 ≤ c) && decide (c < 123)
theorem pool_ok {p : List Str} (h : p ∈ [pool1, pool2, pool3]) : p.length = 8 ∧ p.Nodup ∧ ∀ x ∈ p, NameOk x ∧ x ≠ "nobody" := by
  have z : poolsOk = true := by decide +kernel
  have q := List.all_eq_true.mp z p h
  simp only [Bool.and_eq_true, decide_eq_true_eq, List.all_eq_true, beq_iff_eq] at q
  obtain ⟨⟨q1, q2⟩, q3⟩ := q
  refine ⟨q1, q2, fun x hx => ?_⟩
  obtain ⟨⟨⟨a, b⟩, c⟩, d⟩ := q3 x hx
  exact ⟨⟨a, b, fun k hk => ⟨k - 97, by have := d k hk; omega, by have := d k hk; omega⟩⟩, c⟩
def spWords : Sp := fun vs H Q _ => ∃ (G : Hp) (pen : Addr) (n m : Nat), vs = [.ref pen, .int (m : Nat)] ∧ PenAt G H pen n ∧ Ex G H ∧ G pen = none ∧ n + 20 < 1000000 ∧ m ≤ 6 ∧
  ∀ (l : Addr) (ws : List Str) (H2 : Hp), H l = none → ws.length = m → ws.Nodup → (∀ x ∈ ws, NameOk x ∧ x ≠ "nobody") → H2 l = some (.lst (txs ws)) → Ex (del pen H) H2 → PenAt G H2 pen (n + 7) → Q (.ref l) H2
theorem F_law_words (T : TX K mg) : FnR P w K mg bs CX0 3 (He.ga K "_law_words") spWords :=
  T.f_law_words.fn S_law_words (fun vs H Q E ⟨_, _, _, _, h, _⟩ => by rw [h] <;> rfl) (fun _ _ _ _ _ _ us hl => match us, hl with | [_, _], _ => rfl) (body0 fun cdv A outer s H vs Q E hr q => by
    obtain ⟨G, pen, n, m, rfl, hp, ex, np, hn, hm, k⟩ := q
    refine ⟨_, (pss_cons (ps_set (i := 2) S_law_words.nd rfl (Or.inl rfl) (pe_lst (pa_cons (pe_callTy (call_list_text rfl) (by rfl) T.b_list (by decide +kernel) (pa_cons pe_str pa_nil)) (pa_cons (pe_lst (pa_cons pe_str (pa_cons pe_str (pa_cons pe_str (pa_cons pe_str (pa_cons pe_str (pa_cons pe_str (pa_cons pe_str (pa_cons pe_str pa_nil))))))))) pa_nil)))) (pss_cons (ps_expr (pe_bm PySem.F.plainAttrs_list PySem.F.slot_list_append PySem.F.type_list_append mt_append (pv 2) (pa_cons (pe_lst (pa_cons pe_str (pa_cons pe_str (pa_cons pe_str (pa_cons pe_str (pa_cons pe_str (pa_cons pe_str (pa_cons pe_str (pa_cons pe_str pa_nil))))))))) pa_nil))) (pss_cons (ps_set (i := 3) S_law_words.nd rfl (Or.inr rfl) (pe_callTy call_list_of (by rfl) T.b_list (by decide +kernel) (pa_cons (pe_callR (F_law_pick T) (hr.mono (by decide)) T.f_law_pick.kp T.g__law_pick pass0 (pa_cons (pv 0) (pa_cons (pv 2) pa_nil))) pa_nil))) (pss_cons (ps_if (pt_cmpR op_gt (pv 1) pe_int (nomark _)) (pss_one ps_never) pss_nil) (pss_one (ps_ret (pe_lc (own := [("_law_lap", 5)]) rfl S_law_words.nd (pi_range1 (by rfl) T.b_range (pa_cons (pv 1) pa_nil)) (blkOk_by (N := N_law_words) (sc := defScope s_law_words) (by decide +kernel)) (fun _ _ _ _ _ => (pg_name (i := 5) S_law_words.nd rfl (Or.inl rfl))) (fun _ _ _ _ _ => pts_nil) (fun _ _ _ _ _ => (pe_at (K := K) (R := fun k => tBM k "list" rPopAt _ _) (pe_bm PySem.F.plainAttrs_list PySem.F.slot_list_pop PySem.F.type_list_pop mt_popAt (pv 3) (pa_cons (pe_callR (F_law_draw T) (hr.mono (by decide)) T.f_law_draw.kp T.g__law_draw pass0 (pa_cons (pv 0) (pa_cons (pe_at (K := K) (R := fun k => tCB (fun xs H Q => ∃ p ys, xs = [.ref p] ∧ (SqL k H p ys ∨ SqT k H p ys) ∧ Q (.int ys.length) H) _) (pe_callB call_len_seq (by rfl) T.b_len PySem.boot_len (pa_cons (pv 3) pa_nil)) rfl) pa_nil))) pa_nil)) rfl))))))))), ?_⟩
    refine ⟨"abcdefgh", rfl, by decide, fun l1 hl1 => ?_⟩
    refine ⟨Evl.sz_of (by show 8 ≤ 100000; decide), fun l2 hl2 => ⟨Evl.sz_of (by show 2 ≤ 100000; decide), fun lp hlp => ?_⟩⟩
    refine ⟨.ref lp, rfl, .inl ⟨rfl, _, .inl (.inl upd_same)⟩, Evl.sz_of (by show 8 ≤ 100000; decide), fun l3 hl3 => ⟨lp, _, .ref l3, rfl, rfl, (Ex.new hl3) _ _ upd_same, Evl.sz_lt (by show 2 < 100000; decide), ?_⟩⟩
    have x1 : Ex H (upd H l1 (.lst (txs pool1))) := Ex.new hl1
    have x2 := x1.trans (Ex.new (o := .lst (txs pool2)) hl2)
    have x3 := x2.trans (Ex.new (o := .lst [.ref l1, .ref l2]) hlp)
    have x4 := x3.trans (Ex.new (o := .lst (txs pool3)) hl3)
    have g1 : upd (upd H l1 (.lst (txs pool1))) l2 (.lst (txs pool2)) l1 = some (.lst (txs pool1)) := (Ex.new hl2) _ _ upd_same
    have n12 : l1 ≠ lp := fun z => by
      rw [← z] at hlp
      exact nomatch (show some (HO.lst (txs pool1)) = none from g1.symm.trans hlp)
    have n22 : l2 ≠ lp := fun z => by
      rw [← z] at hlp
      exact nomatch (show some (HO.lst (txs pool2)) = none from upd_same.symm.trans hlp)
    have n32 : l3 ≠ lp := fun z => by
      rw [z] at hl3
      exact nomatch (show some (HO.lst [V.ref l1, V.ref l2]) = none from upd_same.symm.trans hl3)
    have nL : H lp = none := Evl.fresh_back x2 hlp
    have nP : ∀ {b : Addr}, H b = none → b ≠ pen := fun {b} h z => by
      obtain ⟨cl, cs, a, r, h1, _⟩ := hp
      rw [z, h1] at h
      cases h
    have m1 : H l1 = none := hl1
    have m2 : H l2 = none := Evl.fresh_back x1 hl2
    have m3 : H l3 = none := Evl.fresh_back x3 hl3
    generalize hH4 : upd _ lp _ = H4
    have e4 : Ex H H4 := fun b o h => by
      rw [← hH4, upd_ne (fun z => by rw [z, nL] at h; cases h)]
      exact x4 _ _ h
    have c1 : H4 l1 = some (.lst (txs pool1)) := by
      rw [← hH4, upd_ne n12]
      exact (Ex.new hl3) _ _ ((Ex.new hlp) _ _ g1)
    have c2 : H4 l2 = some (.lst (txs pool2)) := by
      rw [← hH4, upd_ne n22]
      exact (Ex.new hl3) _ _ ((Ex.new hlp) _ _ upd_same)
    have c3 : H4 l3 = some (.lst (txs pool3)) := by
      rw [← hH4, upd_ne n32]
      exact upd_same
    have c4 : H4 lp = some (.lst [.ref l1, .ref l2, .ref l3]) := by rw [← hH4] <;> exact upd_same
    clear hH4
    refine ⟨.ref pen, rfl, .ref lp, rfl, G, pen, n, lp, _, rfl, hp.mono (Ex.refl _) (fun o h => e4 _ _ h) (Nat.le_refl _), ex.trans e4, np, by omega, c4, nP nL, (by decide : 0 < 3), (by decide : 3 < 1000), fun v H5 hv e5 p5 => ?_⟩
    obtain ⟨li, p, rfl, hpo, h5⟩ : ∃ li p, v = .ref li ∧ p ∈ [pool1, pool2, pool3] ∧ H5 li = some (.lst (txs p)) := by
      rcases List.mem_cons.mp hv with rfl | hv
      · exact ⟨l1, pool1, rfl, by simp, e5 _ _ (by rw [del_ne (nP m1)]; exact c1)⟩
      rcases List.mem_cons.mp hv with rfl | hv
      · exact ⟨l2, pool2, rfl, by simp, e5 _ _ (by rw [del_ne (nP m2)]; exact c2)⟩
      rcases List.mem_cons.mp hv with rfl | hv
      · exact ⟨l3, pool3, rfl, by simp, e5 _ _ (by rw [del_ne (nP m3)]; exact c3)⟩
      · cases hv
    obtain ⟨p8, pnd, pok⟩ := pool_ok hpo
    have e05 : Ex (del pen H) H5 := (del_mono e4).trans e5
    refine ⟨li, txs p, rfl, .inl (.inl (.inl h5)), fun l hl => ?_⟩
    refine ⟨.int m, rfl, m, 8, rfl, rfl, _, rfl, iteZ (by omega) ?_⟩
    have e06 := e05.trans (Ex.new (o := .lst (txs p)) hl)
    have p6 := p5.mono (Ex.refl G) (fun o h => (Ex.new (o := .lst (txs p)) hl) _ _ h) (Nat.le_refl _)
    have q6 : upd H5 l (.lst (txs p)) l = some (.lst (txs p)) := upd_same
    have lp5 : l ≠ pen := fun z => by
      obtain ⟨cl, cs, a, r, h1, _⟩ := p5
      rw [z, h1] at hl
      cases hl
    revert e06 p6 q6
    generalize upd H5 l (.lst (txs p)) = H6
    intro e06 p6 q6
    have exG : ∀ {Hy : Hp}, Ex (del pen H) Hy → Ex G Hy := fun e b o h => e _ _ (by rw [del_ne (fun z => by rw [z, np] at h; cases h)]; exact ex _ _ h)
    refine ⟨.int m, rfl, (m : Nat), rfl, by omega, by omega, fun D hD => ?_⟩
    have DP : D ≠ pen := fun z => by
      obtain ⟨cl, cs, a, r, h1, _⟩ := p6
      rw [z, h1] at hD
      cases hD
    have Dl : D ≠ l := fun z => by
      rw [z, q6] at hD
      cases hD
    have nD : H D = none := by
      cases hh : H D with
      | none => rfl
      | some o =>
        have := e06 _ _ (show del pen H D = some o by rw [del_ne DP]; exact hh)
        rw [this] at hD
        cases hD
    refine lc_it (walk_range (lo := 0) (n := m)) (fun i Hy => ∃ ws rs, Hy D = some (.lst (txs ws)) ∧ ws.length = i ∧ Hy l = some (.lst (txs rs)) ∧ (ws ++ rs).Perm p ∧ PenAt G Hy pen (n + 1 + i) ∧ Ex (del pen H) Hy) ⟨[], p, upd_same, rfl, (Ex.new hD) _ _ q6, List.Perm.refl _, p6.mono (Ex.refl G) (fun o h => (Ex.new hD) _ _ h) (Nat.le_refl _), e06.trans (Ex.new hD)⟩ (fun _ _ _ _ => trivial) ?_ ?_
    · intro i x Hy Hz hi ⟨ws, rs, h1, h2, h3, h4, h5, h6⟩ ⟨hz, _⟩
      subst hz
      have hlen : ws.length + rs.length = 8 := by rw [← List.length_append, h4.length_eq, p8]
      refine ⟨rfl, yes ⟨.ref l, rfl, .inl ⟨rfl, _, .inl (.inl h3)⟩, .ref pen, rfl, .ref l, rfl, l, txs rs, rfl, .inl (.inl (.inl h3)), G, pen, n + 1 + i, ((txs rs).length : Nat), rfl, h5, exG h6, np, by omega, by rw [txs_len]; omega, by rw [txs_len]; omega, fun r H2 r0 r1 e2 p2 => ?_⟩⟩
      rw [txs_len] at r1
      have hj : r.toNat < (txs rs).length := by rw [txs_len]; omega
      have hat : atI (txs rs) r = some (txs rs)[r.toNat] := by
        have z := atI_nat (xs := txs rs) (j := r.toNat) (List.getElem?_eq_getElem hj)
        rwa [Int.toNat_of_nonneg r0] at z
      obtain ⟨j, g1, g2, g3, _, _⟩ := atI_get hat
      obtain ⟨y, gy, ey⟩ := txs_get g2
      have hD2 : H2 D = some (.lst (txs ws)) := e2 _ _ (by rw [del_ne DP]; exact h1)
      have hl2 : H2 l = some (.lst (txs rs)) := e2 _ _ (by rw [del_ne lp5]; exact h3)
      refine ⟨l, txs rs, r, j, _, rfl, rfl, hl2, by omega, by omega, g1, g2, txs ws, by rw [upd_ne Dl]; exact hD2, Evl.sz_lt (by rw [txs_len]; omega), ws ++ [y], rs.eraseIdx j, ?_, by rw [List.length_append, h2]; rfl, ?_, ?_, ?_, ?_⟩
      · rw [upd_same, ey]
        show _ = some (HO.lst (List.map V.str (ws ++ [y])))
        rw [List.map_append] <;> rfl
      · rw [upd_ne (Ne.symm Dl), upd_same]
        show some (HO.lst ((rs.map V.str).eraseIdx j)) = some (HO.lst ((rs.eraseIdx j).map V.str))
        rw [erase_map]
      · have hjr : j < rs.length := by
          rw [txs_len] at g3
          exact g3
        have ey2 : rs[j] = y := by
          rw [List.getElem?_eq_getElem hjr] at gy
          exact Option.some.inj gy
        have pz := erase_perm rs j hjr
        rw [ey2] at pz
        have : (ws ++ [y] ++ rs.eraseIdx j).Perm (ws ++ rs) := by
          rw [List.append_assoc]
          exact List.Perm.append_left ws pz
        exact this.trans h4
      · obtain ⟨cl, cs, a, r, h1, h2, h3, h4, h5⟩ := p2
        exact ⟨cl, cs, a, r, by rw [upd_ne (Ne.symm DP), upd_ne (Ne.symm lp5)]; exact h1, h2, h3, h4, by omega⟩
      · intro b o hb
        have nb : b ≠ pen := (of_del hb).1
        rw [upd_ne (fun z => by rw [z] at hb; rw [(of_del hb).2] at nD; cases nD), upd_ne (fun z => ?_)]
        · exact e2 _ _ (by rw [del_ne nb]; exact h6 _ _ hb)
        · rw [z] at hb
          have := e05 _ _ hb
          rw [this] at hl
          cases hl
    · intro Hy ⟨ws, rs, h1, h2, h3, h4, h5, h6⟩
      have sub : ∀ x ∈ ws, x ∈ p := fun x hx => h4.mem_iff.mp (List.mem_append_left _ hx)
      refine k D ws Hy nD h2 ?_ (fun x hx => pok x (sub x hx)) h1 h6 (h5.mono (Ex.refl G) (fun o h => h) (by omega))
      exact (List.nodup_append.mp (h4.nodup_iff.mpr pnd)).1)
end SfW
namespace SfW
open PySem PySem.Spec PyProof.Rows
open L2 hiding del del_ne del_same
open Evl (Ex RetV)
/-! the law's sites -/
variable {P : Program} {w : World} {K : PySem.W.Frag} {mg : Str → Option Value} {bs : Heap}
theorem PenAt.put {G H : Hp} {pen b : Addr} {o : HO} {n : Nat} (h : PenAt G H pen n) (nb : b ≠ pen) : PenAt G (upd H b o) pen n := by
  obtain ⟨cl, cs, a, r, h1, h2⟩ := h
  exact ⟨cl, cs, a, r, by rw [upd_ne (Ne.symm nb)]; exact h1, h2⟩
theorem PenAt.ne {G H : Hp} {pen b : Addr} {n : Nat} (h : PenAt G H pen n) (nb : H b = none) : b ≠ pen := fun z => by
  obtain ⟨cl, cs, a, r, h1, _⟩ := h
  rw [z, h1] at nb
  cases nb
/-- draws from the list at l into the list at D, i turns done -/
def PopI (G H : Hp) (pen l D : Addr) (n : Nat) (p : List V) (i : Nat) (Hy : Hp) : Prop := ∃ ws rs, Hy D = some (.lst ws) ∧ ws.length = i ∧ Hy l = some (.lst rs) ∧ (ws ++ rs).Perm p ∧ PenAt G Hy pen (n + i) ∧ Ex (del pen H) Hy
theorem pop_turn {G H Hy H2 : Hp} {pen l D : Addr} {n i : Nat} {ws rs : List V} {p : List V} {r : Int} (Dl : D ≠ l) (DP : D ≠ pen) (lP : l ≠ pen) (nD : H D = none) (nl : H l = none) (h1 : Hy D = some (.lst ws)) (h2 : ws.length = i) (h3 : Hy l = some (.lst rs)) (h4 : (ws ++ rs).Perm p) (h6 : Ex (del pen H) Hy)
    (r0 : 0 ≤ r) (r1 : r < rs.length) (e2 : Ex (del pen Hy) H2) (p2 : PenAt G H2 pen (n + i + 1)) :
    ∃ j y, seqIndex? r rs.length = some j ∧ rs[j]? = some y ∧ H2 l = some (.lst rs) ∧ H2 D = some (.lst ws) ∧ PopI G H pen l D n p (i + 1) (upd (upd H2 l (.lst (rs.eraseIdx j))) D (.lst (ws ++ [y]))) := by
  have hj : r.toNat < rs.length := by omega
  have hat : atI rs r = some rs[r.toNat] := by
    have z := atI_nat (xs := rs) (j := r.toNat) (List.getElem?_eq_getElem hj)
    rwa [Int.toNat_of_nonneg r0] at z
  obtain ⟨j, g1, g2, g3, _, _⟩ := atI_get hat
  refine ⟨j, _, g1, g2, e2 _ _ (by rw [del_ne lP]; exact h3), e2 _ _ (by rw [del_ne DP]; exact h1), ws ++ [_], rs.eraseIdx j, upd_same, by rw [List.length_append, h2]; rfl, by rw [upd_ne (Ne.symm Dl), upd_same], ?_, ((p2.put lP).put DP).mono (Ex.refl G) (fun o h => h) (by omega), fun b o hb => ?_⟩
  · have pz := erase_perm rs j g3
    have e : rs[j] = rs[r.toNat] := by
      rw [List.getElem?_eq_getElem g3] at g2
      exact Option.some.inj g2
    rw [e] at pz
    refine List.Perm.trans ?_ h4
    rw [List.append_assoc]
    exact List.Perm.append_left ws pz
  · have nb := of_del hb
    rw [upd_ne (fun z => by rw [z, nD] at nb; cases nb.2), upd_ne (fun z => by rw [z, nl] at nb; cases nb.2)]
    exact e2 _ _ (by rw [del_ne nb.1]; exact h6 _ _ hb)
theorem ints_of : ∀ {ws : List V} {zs : List Int}, (∀ v ∈ ws, v ∈ zs.map V.int) → ∃ xs : List Int, ws = xs.map V.int ∧ ∀ x ∈ xs, x ∈ zs
  | [], _, _ => ⟨[], rfl, fun _ h => nomatch h⟩
  | v :: ws, zs, h => by
    obtain ⟨x, hx, rfl⟩ := List.mem_map.mp (h v List.mem_cons_self)
    obtain ⟨xs, rfl, hxs⟩ := ints_of (ws := ws) (zs := zs) fun u hu => h u (List.mem_cons_of_mem _ hu)
    exact ⟨x :: xs, rfl, fun y hy => by
      rcases List.mem_cons.mp hy with rfl | hy
      · exact hx
      · exact hxs y hy⟩
theorem nodup_unmap {α β : Type} {f : α → β} : ∀ {l : List α}, (l.map f).Nodup → l.Nodup
  | [], _ => .nil
  | x :: l, h => by
    rw [List.map_cons, List.nodup_cons] at h
    rw [List.nodup_cons]
    exact ⟨fun z => h.1 (List.mem_map_of_mem z), nodup_unmap h.2⟩
theorem atI_in {xs : List Int} {r : Int} (r0 : 0 ≤ r) (r1 : r < xs.length) : ∃ v, atI (xs.map V.int) r = some (V.int v) ∧ xs[r.toNat]? = some v := by
  have hj : r.toNat < xs.length := by omega
  have z := atI_cell (ns := xs) hj
  rw [Int.toNat_of_nonneg r0] at z
  refine ⟨_, z, ?_⟩
  unfold L2.cellOf
  rw [List.getElem?_eq_getElem hj]
  simp [hj]
theorem way_in {a b c d way k : Int} (w0 : 0 ≤ way) (w1 : way < 4) (ha : 0 ≤ a ∧ a < k) (hb : 0 ≤ b ∧ b < k) (hc : 0 ≤ c ∧ c < k) (hd : 0 ≤ d ∧ d < k) : ∃ q, atI [V.int a, V.int b, V.int c, V.int d] way = some (V.int q) ∧ 0 ≤ q ∧ q < k := by
  have : way = 0 ∨ way = 1 ∨ way = 2 ∨ way = 3 := by omega
  rcases this with rfl | rfl | rfl | rfl
  · exact ⟨a, rfl, ha⟩
  · exact ⟨b, rfl, hb⟩
  · exact ⟨c, rfl, hc⟩
  · exact ⟨d, rfl, hd⟩
theorem put_ex {H Hx Hy : Hp} {pen : Addr} (a : Ex (del pen H) Hx) (b : Ex (del pen Hx) Hy) : Ex (del pen H) Hy := fun c o h => b _ _ (by rw [del_ne (of_del h).1]; exact a _ _ h)
theorem paired_ins {α β : Type} {R : α → β → Prop} {x : α} {y : β} (r : R x y) : ∀ {xs : List α} {ys : List β} (k : Nat), Paired R xs ys → Paired R (xs.take k ++ [x] ++ xs.drop k) (ys.take k ++ [y] ++ ys.drop k)
  | _, _, 0, h => .cons r h
  | _, _, k + 1, .nil => .cons r .nil
  | _, _, k + 1, .cons h t => .cons h (paired_ins r k t)
theorem perm_ins {α : Type} (l : List α) (e : α) (k : Nat) : (l.take k ++ [e] ++ l.drop k).Perm (l ++ [e]) := by
  have h1 : (l.take k ++ [e] ++ l.drop k).Perm (e :: (l.take k ++ l.drop k)) := by
    rw [List.append_assoc]
    exact List.perm_middle
  rw [List.take_append_drop] at h1
  exact h1.trans (List.perm_append_singleton e l).symm
theorem site_step {G H Hx He : Hp} {pen lt D tq : Addr} {N i r : Nat} {refs : List V} {L : List Lk} {Dd : Int → Int → Nat} {zs S : List Int} {e : Lk} {v u : Int} (ltP : lt ≠ pen) (nlt : H lt = none) (ltD : lt ≠ D) (nv : v ∉ S) (hu : u ∈ S) (he : e = (v, u) ∨ e = (u, v)) (vok : SwOk v) (uok : SwOk u)
    (g3 : LinksAt Hx refs L) (g4 : SfM.TreeL S (L.map SfM.norm) Dd) (g5 : L.length = i) (g6 : ∀ e ∈ L, LinkOk e) (ex : Ex (del pen Hx) He) (hpx : ∃ xs, Hx pen = some (.lst xs)) (lte : Hx lt = some (.lst refs)) (hq : He tq = some (.tup [.int e.1, .int e.2])) (hp : PenAt G He pen N) (e8 : Ex (del pen H) He)
    (hD : He D = some (.lst (zs.map V.int))) :
    ∃ refs2 L2 D2, (upd He lt (.lst (refs.take r ++ [.ref tq] ++ refs.drop r))) lt = some (.lst refs2) ∧ (upd He lt (.lst (refs.take r ++ [.ref tq] ++ refs.drop r))) D = some (.lst (zs.map V.int)) ∧ LinksAt (upd He lt (.lst (refs.take r ++ [.ref tq] ++ refs.drop r))) refs2 L2 ∧ SfM.TreeL (S ++ [v]) (L2.map SfM.norm) D2 ∧
      L2.length = i + 1 ∧ (∀ e ∈ L2, LinkOk e) ∧ PenAt G (upd He lt (.lst (refs.take r ++ [.ref tq] ++ refs.drop r))) pen N ∧ Ex (del pen H) (upd He lt (.lst (refs.take r ++ [.ref tq] ++ refs.drop r))) := by
  obtain ⟨xs, hpx⟩ := hpx
  have lteE : He lt = some (.lst refs) := ex _ _ (by rw [del_ne ltP]; exact lte)
  have uv : v ≠ u := fun z => nv (z ▸ hu)
  have tl : ∀ {p : Addr} {a b : Int}, He p = some (.tup [.int a, .int b]) → p ≠ lt := fun h => ne_of h lteE (fun z => nomatch z)
  have pz : (L.take r ++ [e] ++ L.drop r).Perm (L ++ [e]) := perm_ins L e r
  refine ⟨_, L.take r ++ [e] ++ L.drop r, SfM.leafD Dd v u, upd_same, by rw [upd_ne (Ne.symm ltD)]; exact hD, ?_, ?_, by rw [pz.length_eq, List.length_append, g5]; rfl, fun f hf => ?_, hp.put ltP, fun b o hb => ?_⟩
  · refine paired_ins ⟨tq, rfl, by rw [upd_ne (tl hq)]; exact hq⟩ r (Paired.mapP g3 fun w f ⟨b, h1, h2⟩ => ?_)
    have h3 := ex _ _ (show del pen Hx b = _ by rw [del_ne (ne_of h2 hpx (fun z => nomatch z))]; exact h2)
    exact ⟨b, h1, by rw [upd_ne (tl h3)]; exact h3⟩
  · refine SfM.TreeL.perm (L := L.map SfM.norm ++ [SfM.norm e]) (g4.leaf hu nv ?_) ?_
    · rcases SfM.norm_or e with q | q <;> rw [q] <;> rcases he with rfl | rfl <;> simp
    · have := (pz.map SfM.norm).symm
      rw [List.map_append] at this
      exact this
  · rcases List.mem_append.mp (pz.mem_iff.mp hf) with q | q
    · exact g6 f q
    · rw [List.mem_singleton] at q
      rw [q]
      rcases he with rfl | rfl
      · exact ⟨vok, uok, uv⟩
      · exact ⟨uok, vok, Ne.symm uv⟩
  · rw [upd_ne (fun z => by rw [z] at hb; rw [(of_del hb).2] at nlt; cases nlt)]
    exact e8 _ _ hb
theorem paired_in {α β : Type} {R S : α → β → Prop} : ∀ {xs : List α} {ys : List β}, Paired R xs ys → (∀ x y, y ∈ ys → R x y → S x y) → Paired S xs ys
  | _, _, .nil, _ => .nil
  | _, _, .cons h t, k => .cons (k _ _ List.mem_cons_self h) (paired_in t fun x y hy => k x y (List.mem_cons_of_mem _ hy))
theorem paired_map {α β γ : Type} {R : α → γ → Prop} {f : β → γ} : ∀ {xs : List α} {ys : List β}, Paired (fun x y => R x (f y)) xs ys → Paired R xs (ys.map f)
  | _, _, .nil => .nil
  | _, _, .cons h t => .cons h (paired_map t)
def spSite (K : PySem.W.Frag) : Sp := fun vs H Q _ => ∃ (G : Hp) (pen lw : Addr) (n : Nat) (ws : List Str), vs = [.ref pen, .int 7, .ref lw] ∧ PenAt G H pen n ∧ Ex G H ∧ G pen = none ∧ n + 100 < 1000000 ∧ H lw = some (.lst (txs ws)) ∧ ws.length ≤ 6 ∧ ws.Nodup ∧
  ∀ (t l d : Addr) (refs : List V) (L : List Lk) (S : List Int) (D : Int → Int → Nat) (pl : Str → Int) (H2 : Hp), Ex (del pen H) H2 → H2 t = some (.tup [.ref l, .ref d]) → H2 l = some (.lst refs) → LinksAt H2 refs L → H2 d = some (.dK (plK ws pl)) → SfM.TreeL S (L.map SfM.norm) D →
    (∀ e ∈ L, LinkOk e) → L.length ≤ 50 → S.length ≤ 50 → (∀ s ∈ S, SwOk s) → (∀ h ∈ ws, pl h ∈ S) → PenAt G H2 pen (n + 60) → Q (.ref t) H2
theorem F_law_site (T : TX K mg) : FnR P w K mg bs CX0 3 (He.ga K "_law_site") (spSite K) :=
  T.f_law_site.fn S_law_site (fun vs H Q E ⟨_, _, _, _, _, h, _⟩ => by rw [h] <;> rfl) (fun _ _ _ _ _ _ us hl => match us, hl with | [_, _, _], _ => rfl) (body0 fun cdv A outer s H vs Q E hr q => by
    obtain ⟨G, pen, lw, n, ws, rfl, hp, ex, np, hn, hw, w6, wnd, k⟩ := q
    refine ⟨_, (pss_cons (ps_asg (pe_tup (pa_cons (pe_op op_add pe_int (pe_callR (F_law_draw T) (hr.mono (by decide)) T.f_law_draw.kp T.g__law_draw pass0 (pa_cons (pv 0) (pa_cons (pv 1) pa_nil)))) (pa_cons (pe_listRg rfl (by rfl) T.b_list (prg_1 (by rfl) T.b_range pe_int)) pa_nil))) (pg_tup (n := 2) (by rfl) (pgs_cons (pg_name (i := 3) S_law_site.nd rfl (Or.inl rfl)) (pgs_cons (pg_name (i := 4) S_law_site.nd rfl (Or.inr rfl)) pgs_nil)))) (pss_cons (ps_setLc (i := 5) (own := [("_law_lap", 12)]) rfl S_law_site.nd rfl rfl (sw_true rfl rfl rfl (by decide +kernel)) (pi_range1 (by rfl) T.b_range (pa_cons (pv 3) pa_nil)) (blkOk_by (N := N_law_site) (sc := defScope s_law_site) (by decide +kernel)) (fun _ _ _ _ _ => (pg_name (i := 12) S_law_site.nd rfl (Or.inl rfl))) (fun _ _ _ _ _ => pts_nil) (fun _ _ _ _ _ => (pe_at (K := K) (R := fun k => tBM k "list" rPopAt _ _) (pe_bm PySem.F.plainAttrs_list PySem.F.slot_list_pop PySem.F.type_list_pop mt_popAt (pv 4) (pa_cons (pe_callR (F_law_draw T) (hr.mono (by decide)) T.f_law_draw.kp T.g__law_draw pass0 (pa_cons (pv 0) (pa_cons (pe_at (K := K) (R := fun k => tCB (fun xs H Q => ∃ p ys, xs = [.ref p] ∧ (SqL k H p ys ∨ SqT k H p ys) ∧ Q (.int ys.length) H) _) (pe_callB call_len_seq (by rfl) T.b_len PySem.boot_len (pa_cons (pv 4) pa_nil)) rfl) pa_nil))) pa_nil)) rfl))) (pss_cons (ps_par (i := 6) (j := 7) (by rfl) S_law_site.nd rfl rfl (by decide) rfl rfl (pa_cons (pe_callR (F_law_draw T) (hr.mono (by decide)) T.f_law_draw.kp T.g__law_draw pass0 (pa_cons (pv 0) (pa_cons pe_int pa_nil))) (pa_cons (pe_lst pa_nil) pa_nil)) (by rfl)) (pss_cons (ps_for PassesOwn.never rfl (pi_range2 (by rfl) T.b_range (pa_cons pe_int (pa_cons (pv 3) pa_nil))) (pg_name (i := 8) S_law_site.nd rfl (Or.inl rfl)) (pss_cons (ps_set (i := 9) S_law_site.nd rfl (Or.inl rfl) (pe_ix ix_list (pv 5) (pe_ix ix_list (pe_lst (pa_cons (pe_op op_sub (pv 8) pe_int) (pa_cons pe_int (pa_cons (pe_callR (F_law_draw T) (hr.mono (by decide)) T.f_law_draw.kp T.g__law_draw pass0 (pa_cons (pv 0) (pa_cons (pv 8) pa_nil))) (pa_cons (pe_callR (F_law_draw T) (hr.mono (by decide)) T.f_law_draw.kp T.g__law_draw pass0 (pa_cons (pv 0) (pa_cons (pv 8) pa_nil))) pa_nil))))) (pv 6) (fun _ _ => rfl)) (fun _ _ => rfl))) (pss_cons (ps_set (i := 10) S_law_site.nd rfl (Or.inl rfl) (pe_ifExp (pt_cmpR op_eq (pe_callR (F_law_draw T) (hr.mono (by decide)) T.f_law_draw.kp T.g__law_draw pass0 (pa_cons (pv 0) (pa_cons pe_int pa_nil))) pe_int (nomark _)) (pe_tup (pa_cons (pe_ix ix_list (pv 5) (pv 8) (fun _ _ => rfl)) (pa_cons (pv 9) pa_nil))) (pe_tup (pa_cons (pv 9) (pa_cons (pe_ix ix_list (pv 5) (pv 8) (fun _ _ => rfl)) pa_nil))))) (pss_one (ps_expr (pe_bm PySem.F.plainAttrs_list PySem.F.slot_list_insert PySem.F.type_list_insert mt_insert (pv 7) (pa_cons (pe_callR (F_law_draw T) (hr.mono (by decide)) T.f_law_draw.kp T.g__law_draw pass0 (pa_cons (pv 0) (pa_cons (pe_op op_add (pe_callB call_len_seq (by rfl) T.b_len PySem.boot_len (pa_cons (pv 7) pa_nil)) pe_int) pa_nil))) (pa_cons (pv 10) pa_nil)))))))) (pss_cons (ps_set (i := 11) S_law_site.nd rfl (Or.inr rfl) (pe_slice sl_list (pv 5) po_none (po_some (pe_op op_add pe_int (pe_callR (F_law_draw T) (hr.mono (by decide)) T.f_law_draw.kp T.g__law_draw pass0 (pa_cons (pv 0) (pa_cons (pv 3) pa_nil))))))) (pss_one (ps_ret (pe_tup (pa_cons (pv 7) (pa_cons (pe_callTy (call_dictP rfl) (by rfl) T.b_dict (by decide +kernel) (pa_cons (pe_lc (own := [("_law_word", 13)]) rfl S_law_site.nd (pi_list (pv 2)) (blkOk_by (N := N_law_site) (sc := defScope s_law_site) (by decide +kernel)) (fun _ _ _ _ _ => (pg_name (i := 13) S_law_site.nd rfl (Or.inl rfl))) (fun _ _ _ _ _ => pts_nil) (fun _ _ _ _ _ => (pe_tup (pa_cons (pv 13) (pa_cons (pe_callR (F_law_pick T) (hr.mono (by decide)) T.f_law_pick.kp T.g__law_pick pass0 (pa_cons (pv 0) (pa_cons (pv 11) pa_nil))) pa_nil))))) pa_nil)) pa_nil)))))))))), ?_⟩
    refine ⟨.ref pen, rfl, .int 7, rfl, G, pen, n, 7, rfl, hp, ex, np, by omega, by decide, by decide, fun r1 H1 a0 a1 e1 p1 => ?_⟩
    have ws6 : ∀ {b : Addr}, H b = none → b ≠ pen := fun h => hp.ne h
    obtain ⟨z100, hz100⟩ : ∃ z, z = (List.range 100).map (fun i => (0 : Int) + (i : Nat)) := ⟨_, rfl⟩
    have e100 : rgV 0 100 = z100.map V.int := by
      rw [hz100, List.map_map]
      rfl
    refine ⟨1, r1, rfl, rfl, 100, rfl, RgOk.of_le (by decide) (by decide) (by decide) (by decide), fun l hl => ⟨Evl.sz_of (by show 2 ≤ 100000; decide), fun tp htp => ⟨tp, _, rfl, .inl (.inl upd_same), rfl, ?_⟩⟩⟩
    rw [e100] at htp ⊢
    have x1 : Ex (del pen H) (upd H1 l (.lst (z100.map V.int))) := e1.trans (Ex.new hl)
    have lP : l ≠ pen := p1.ne hl
    have q1 : upd H1 l (.lst (z100.map V.int)) l = some (.lst (z100.map V.int)) := upd_same
    have p1' := p1.put (o := .lst (z100.map V.int)) lP
    have tP : tp ≠ pen := p1'.ne htp
    have nl : H l = none := by
      cases hh : H l with
      | none => rfl
      | some o =>
        have := e1 _ _ (show del pen H l = some o by rw [del_ne lP]; exact hh)
        rw [this] at hl
        cases hl
    generalize hH2 : upd (upd H1 l _) tp _ = H2
    have x2 : Ex (del pen H) H2 := by rw [← hH2] <;> exact x1.trans (Ex.new htp)
    have q2 : H2 l = some (.lst (z100.map V.int)) := by rw [← hH2] <;> exact (Ex.new htp) _ _ upd_same
    have p2 : PenAt G H2 pen (n + 1) := by rw [← hH2] <;> exact p1'.put tP
    clear hH2
    obtain ⟨m, hm⟩ : ∃ m : Nat, 1 + r1 = m := ⟨(1 + r1).toNat, by omega⟩
    show gCons (gName 3) (gCons (gName 4) gNil) [V.int (1 + r1), V.ref l] _ H2 _
    rw [hm]
    have m1 : 1 ≤ m := by omega
    have m7 : m ≤ 7 := by omega
    have exG : ∀ {Hy : Hp}, Ex (del pen H) Hy → Ex G Hy := fun e b o h => e _ _ (by rw [del_ne (fun z => by rw [z, np] at h; cases h)]; exact ex _ _ h)
    have fr : ∀ {Hy : Hp} {b : Addr}, Ex (del pen H) Hy → b ≠ pen → Hy b = none → H b = none := fun {Hy b} e nb h => by
      cases hh : H b with
      | none => rfl
      | some o =>
        have := e _ _ (show del pen H b = some o by rw [del_ne nb]; exact hh)
        rw [this] at h
        cases h
    refine ⟨_, _, rfl, _, _, rfl, rfl, .int m, rfl, (m : Nat), rfl, by omega, by omega, fun D hD => ?_⟩
    have DP : D ≠ pen := p2.ne hD
    have Dl : D ≠ l := fun z => by
      rw [z, q2] at hD
      cases hD
    have nD : H D = none := fr x2 DP hD
    refine lc_it (walk_range (lo := 0) (n := m)) (PopI G H pen l D (n + 1) (z100.map V.int)) ⟨[], _, upd_same, rfl, (Ex.new hD) _ _ q2, List.Perm.refl _, p2.put DP, x2.trans (Ex.new hD)⟩ (fun _ _ _ _ => trivial) ?_ ?_
    · intro i x Hy Hz hi ⟨us, rs, h1, h2, h3, h4, h5, h6⟩ ⟨hz, _⟩
      subst hz
      have hlen : us.length + rs.length = 100 := by rw [← List.length_append, h4.length_eq, List.length_map, hz100, List.length_map, List.length_range]
      refine ⟨rfl, yes ⟨.ref l, rfl, .inl ⟨rfl, _, .inl (.inl h3)⟩, .ref pen, rfl, .ref l, rfl, l, rs, rfl, .inl (.inl (.inl h3)), G, pen, n + 1 + i, (rs.length : Nat), rfl, h5, exG h6, np, by omega, by omega, by omega, fun r Hw r0 r1 e2 p3 => ?_⟩⟩
      obtain ⟨j, y, g1, g2, g3, g4, g5⟩ := pop_turn Dl DP lP nD nl h1 h2 h3 h4 h6 r0 r1 e2 p3
      exact ⟨l, rs, r, j, y, rfl, rfl, g3, by omega, by omega, g1, g2, us, by rw [upd_ne Dl]; exact g4, Evl.sz_lt (by omega), g5⟩
    intro Hy ⟨us, rs, h1, h2, h3, h4, h5, h6⟩
    obtain ⟨zs, rfl, hzs⟩ := ints_of (ws := us) (zs := z100) fun v hv => h4.mem_iff.mp (List.mem_append_left _ hv)
    have nd100 : (z100.map V.int).Nodup := by
      rw [hz100, List.map_map]
      exact nodup_map (fun a b h => by
        have h2 : V.int (0 + (a : Int)) = V.int (0 + (b : Int)) := h
        injection h2 with h3
        omega) List.nodup_range
    have znd : zs.Nodup := by
      exact nodup_unmap (List.nodup_append.mp (h4.nodup_iff.mpr nd100)).1
    have zok : ∀ z ∈ zs, SwOk z := fun z hz => by
      have := hzs z hz
      rw [hz100] at this
      obtain ⟨i, hi, rfl⟩ := List.mem_map.mp this
      have := List.mem_range.mp hi
      exact ⟨by omega, by omega⟩
    rw [List.length_map] at h2
    refine ⟨.ref pen, rfl, G, pen, n + 1 + m, 4, rfl, h5, exG h6, np, by omega, by decide, by decide, fun way H3 b0 b1 e3 p3 => ⟨Evl.sz_of (by show 0 ≤ 100000; decide), fun lt hlt => ⟨_, _, rfl, ?_⟩⟩⟩
    have h3D : H3 D = some (.lst (zs.map V.int)) := e3 _ _ (by rw [del_ne DP]; exact h1)
    have x3 : Ex (del pen H) H3 := fun b o h => e3 _ _ (by rw [del_ne (of_del h).1]; exact h6 _ _ h)
    have lt_P : lt ≠ pen := p3.ne hlt
    have nlt : H lt = none := fr x3 lt_P hlt
    have ltD : lt ≠ D := fun z => by
      rw [z, h3D] at hlt
      cases hlt
    have t0 : SfM.TreeL (zs.take (0 + 1)) (([] : List Lk).map SfM.norm) fun _ _ => 0 := by
      cases zs with
      | nil => exact absurd h2 (by show ¬ 0 = m; omega)
      | cons z r => exact SfM.TreeL.one z
    refine ⟨.int m, rfl, 1, (m : Nat), rfl, ⟨by decide, by decide, by omega, by omega⟩, ?_⟩
    refine for_it (walk_range (lo := 1) (n := ((m : Int) - 1).toNat)) (fun i σ' Hx => ∃ x8 x9 x10 refs L Dd, σ' = [some (.ref pen), some (.int 7), some (.ref lw), some (.int m), some (.ref l), some (.ref D), some (.int way), some (.ref lt), x8, x9, x10, none, none, none] ∧
      Hx lt = some (.lst refs) ∧ Hx D = some (.lst (zs.map V.int)) ∧ LinksAt Hx refs L ∧ SfM.TreeL (zs.take (i + 1)) (L.map SfM.norm) Dd ∧ L.length = i ∧ (∀ e ∈ L, LinkOk e) ∧ PenAt G Hx pen (n + 2 + m + 4 * i) ∧ Ex (del pen H) Hx)
      ⟨none, none, none, [], [], fun _ _ => 0, rfl, upd_same, (Ex.new hlt) _ _ h3D, .nil, t0, rfl, (fun e he => by cases he), (p3.put lt_P).mono (Ex.refl G) (fun o h => h) (by omega), x3.trans (Ex.new hlt)⟩ (fun _ _ _ _ _ => trivial) ?_ ?_
    · intro i x σ' Hq Hx hi ⟨x8, x9, x10, refs, L, Dd, hs, g1, g2, g3, g4, g5, g6, g7, g8⟩ ⟨hz, hx⟩
      subst hz hs hx
      have him : i + 1 < m := by omega
      refine ⟨.ref D, rfl, .int (1 + (i : Nat)), rfl, 1 + (i : Nat), 1, rfl, rfl, .ref pen, rfl, .int (1 + (i : Nat)), rfl, G, pen, _, 1 + (i : Nat), rfl, g7, exG g8, np, by omega, by omega, by omega, fun r2 Ha c0 c1 ea pa => ?_⟩
      refine ⟨.ref pen, rfl, .int (1 + (i : Nat)), rfl, G, pen, _, 1 + (i : Nat), rfl, pa, exG ?_, np, by omega, by omega, by omega, fun r3 Hb d0 d1 eb pb => ⟨Evl.sz_of (by show 4 ≤ 100000; decide), fun la hla => ?_⟩⟩
      · exact put_ex g8 ea
      have e8b : Ex (del pen H) Hb := put_ex (put_ex g8 ea) eb
      have eab : Ex (del pen Hx) Hb := put_ex ea eb
      have ltb : Hb lt = some (.lst refs) := eab _ _ (by rw [del_ne lt_P]; exact g1)
      have Db : Hb D = some (.lst (zs.map V.int)) := eab _ _ (by rw [del_ne DP]; exact g2)
      have la_P : la ≠ pen := pb.ne hla
      obtain ⟨q, hq, q0, qk⟩ := way_in (way := way) (k := 1 + (i : Nat)) (a := 1 + (i : Nat) - 1) (b := 0) (c := r2) (d := r3) b0 b1 ⟨by omega, by omega⟩ ⟨by omega, by omega⟩ ⟨c0, c1⟩ ⟨d0, d1⟩
      obtain ⟨u, hu, gu⟩ := atI_in (xs := zs) q0 (by omega)
      refine ⟨.int way, rfl, la, _, way, .int q, rfl, rfl, .inl (.inl upd_same), hq, D, _, q, .int u, rfl, rfl, .inl (.inl ((Ex.new hla) _ _ Db)), hu, ?_⟩
      have gu2 : u ∈ zs.take (i + 1) := List.mem_of_getElem? (i := q.toNat) (by rw [List.getElem?_take_of_lt (by omega)]; exact gu)
      obtain ⟨v, hv, gv⟩ := atI_in (xs := zs) (r := 1 + (i : Nat)) (by omega) (by omega)
      have gv : zs[i + 1]? = some v := by
        rw [show (1 + (i : Int)).toNat = i + 1 by omega] at gv
        exact gv
      have nv : v ∉ zs.take (i + 1) ∧ zs.take (i + 1 + 1) = zs.take (i + 1) ++ [v] := take_nodup znd gv
      generalize hHc : upd Hb la _ = Hc
      have e8c : Ex (del pen H) Hc := by rw [← hHc] <;> exact e8b.trans (Ex.new hla)
      have ec : Ex (del pen Hx) Hc := by rw [← hHc] <;> exact eab.trans (Ex.new hla)
      have pc : PenAt G Hc pen (n + 2 + m + 4 * i + 1 + 1) := by rw [← hHc] <;> exact pb.put la_P
      clear hHc hla ltb Db
      refine ⟨.ref pen, rfl, G, pen, _, 2, rfl, pc, exG e8c, np, by omega, by decide, by decide, fun r4 Hd f0 f1 ed pd => ⟨rfl, _, rfl, ?_⟩⟩
      have e8d : Ex (del pen H) Hd := put_ex e8c ed
      have ecd : Ex (del pen Hx) Hd := put_ex ec ed
      have ltd : Hd lt = some (.lst refs) := ecd _ _ (by rw [del_ne lt_P]; exact g1)
      have Dd2 : Hd D = some (.lst (zs.map V.int)) := ecd _ _ (by rw [del_ne DP]; exact g2)
      by_cases c : r4 = 0
      · rw [decide_eq_true (by rw [c])]
        refine ⟨.ref D, rfl, .int (1 + (i : Nat)), rfl, D, _, 1 + (i : Nat), .int v, rfl, rfl, .inl (.inl Dd2), hv, .int u, rfl, Evl.sz_of (by show 2 ≤ 100000; decide), fun tq htq => ?_⟩
        have e8e : Ex (del pen H) (upd Hd tq (.tup [.int ((v, u) : Lk).1, .int ((v, u) : Lk).2])) := e8d.trans (Ex.new htq)
        have ece := ecd.trans (Ex.new (o := .tup [.int ((v, u) : Lk).1, .int ((v, u) : Lk).2]) htq)
        have lte := (Ex.new (o := .tup [.int ((v, u) : Lk).1, .int ((v, u) : Lk).2]) htq) _ _ ltd
        have tq_P : tq ≠ pen := pd.ne htq
        have pe := pd.put (o := .tup [.int ((v, u) : Lk).1, .int ((v, u) : Lk).2]) tq_P
        have rl : refs.length = i := (Paired.length g3).trans g5
        refine ⟨.ref lt, rfl, .inl ⟨rfl, _, .inl (.inl lte)⟩, .ref pen, rfl, .ref lt, rfl, lt, refs, rfl, .inl (.inl (.inl lte)), (refs.length : Nat), 1, rfl, rfl, G, pen, _, (refs.length : Nat) + 1, rfl, pe, exG e8e, np, by omega, by omega, by omega, fun r5 He h0 h9 ee pe2 => ?_⟩
        have eE : Ex (del pen Hx) He := put_ex ece ee
        obtain ⟨refs2, L2, D2, s1, s2, s3, s4, s5, s6, s7, s8⟩ := site_step (r := r5.toNat) (e := (v, u)) lt_P nlt ltD nv.1 gu2 (.inl rfl) (zok v (List.mem_of_getElem? gv)) (zok u (List.mem_of_getElem? gu)) g3 g4 g5 g6 eE (by obtain ⟨cl, cs, a, b, z, _⟩ := g7; exact ⟨_, z⟩) g1 (ee _ _ (by rw [del_ne tq_P]; exact upd_same)) pe2 (put_ex e8e ee) (eE _ _ (by rw [del_ne DP]; exact g2))
        rw [← nv.2] at s4
        exact ⟨.ref tq, rfl, lt, refs, r5, .ref tq, rfl, rfl, eE _ _ (by rw [del_ne lt_P]; exact g1), Evl.sz_lt (by omega), h0, by omega, _, _, _, refs2, L2, D2, rfl, s1, s2, s3, s4, s5, s6, s7.mono (Ex.refl G) (fun o h => h) (by omega), s8⟩
      · rw [decide_eq_false (fun z => c (by injection z))]
        refine ⟨.int u, rfl, .ref D, rfl, .int (1 + (i : Nat)), rfl, D, _, 1 + (i : Nat), .int v, rfl, rfl, .inl (.inl Dd2), hv, Evl.sz_of (by show 2 ≤ 100000; decide), fun tq htq => ?_⟩
        have e8e : Ex (del pen H) (upd Hd tq (.tup [.int ((u, v) : Lk).1, .int ((u, v) : Lk).2])) := e8d.trans (Ex.new htq)
        have ece := ecd.trans (Ex.new (o := .tup [.int ((u, v) : Lk).1, .int ((u, v) : Lk).2]) htq)
        have lte := (Ex.new (o := .tup [.int ((u, v) : Lk).1, .int ((u, v) : Lk).2]) htq) _ _ ltd
        have tq_P : tq ≠ pen := pd.ne htq
        have pe := pd.put (o := .tup [.int ((u, v) : Lk).1, .int ((u, v) : Lk).2]) tq_P
        have rl : refs.length = i := (Paired.length g3).trans g5
        refine ⟨.ref lt, rfl, .inl ⟨rfl, _, .inl (.inl lte)⟩, .ref pen, rfl, .ref lt, rfl, lt, refs, rfl, .inl (.inl (.inl lte)), (refs.length : Nat), 1, rfl, rfl, G, pen, _, (refs.length : Nat) + 1, rfl, pe, exG e8e, np, by omega, by omega, by omega, fun r5 He h0 h9 ee pe2 => ?_⟩
        have eE : Ex (del pen Hx) He := put_ex ece ee
        obtain ⟨refs2, L2, D2, s1, s2, s3, s4, s5, s6, s7, s8⟩ := site_step (r := r5.toNat) (e := (u, v)) lt_P nlt ltD nv.1 gu2 (.inr rfl) (zok v (List.mem_of_getElem? gv)) (zok u (List.mem_of_getElem? gu)) g3 g4 g5 g6 eE (by obtain ⟨cl, cs, a, b, z, _⟩ := g7; exact ⟨_, z⟩) g1 (ee _ _ (by rw [del_ne tq_P]; exact upd_same)) pe2 (put_ex e8e ee) (eE _ _ (by rw [del_ne DP]; exact g2))
        rw [← nv.2] at s4
        exact ⟨.ref tq, rfl, lt, refs, r5, .ref tq, rfl, rfl, eE _ _ (by rw [del_ne lt_P]; exact g1), Evl.sz_lt (by omega), h0, by omega, _, _, _, refs2, L2, D2, rfl, s1, s2, s3, s4, s5, s6, s7.mono (Ex.refl G) (fun o h => h) (by omega), s8⟩
    · intro σ' Hx ⟨x8, x9, x10, refs, L, Dd, hs, g1, g2, g3, g4, g5, g6, g7, g8⟩
      subst hs
      have zt : zs.take (((m : Int) - 1).toNat + 1) = zs := List.take_of_length_le (by omega)
      rw [zt] at g4
      refine ⟨.ref D, rfl, .ref pen, rfl, .int m, rfl, G, pen, _, (m : Nat), rfl, g7, exG g8, np, by omega, by omega, by omega, fun r6 H6 i0 i1 e6 p6 => ⟨1, r6, rfl, rfl, 1 + r6, rfl, D, _, rfl, .inl (.inl (e6 _ _ (by rw [del_ne DP]; exact g2))), fun lz hlz => ?_⟩⟩
      obtain ⟨c, hc⟩ : ∃ c : Nat, 1 + r6 = c := ⟨(1 + r6).toNat, by omega⟩
      have cz : c ≤ zs.length := by omega
      have c1 : 1 ≤ c := by omega
      rw [hc, cut_take _ c (by rw [List.length_map]; exact cz), ← List.map_take]
      have lz_P : lz ≠ pen := p6.ne hlz
      generalize hH7 : upd H6 lz _ = H7
      have e67 : Ex (del pen Hx) H7 := by rw [← hH7] <;> exact e6.trans (Ex.new hlz)
      have z7 : H7 lz = some (.lst ((zs.take c).map V.int)) := by rw [← hH7] <;> exact upd_same
      have p7 : PenAt G H7 pen (n + 2 + m + 4 * ((m : Int) - 1).toNat + 1) := by rw [← hH7] <;> exact p6.put lz_P
      clear hH7
      have e7 : Ex (del pen H) H7 := put_ex g8 e67
      have lwP : lw ≠ pen := fun z => by
        obtain ⟨cl, cs, a, b, h, _, _, _⟩ := id hp
        rw [← z, hw] at h
        injection h with h
        injection h with h
        cases ws with
        | nil => cases h
        | cons x r =>
          injection h with h _
          cases h
      have w7 : H7 lw = some (.lst (txs ws)) := e7 _ _ (by rw [del_ne lwP]; exact hw)
      refine ⟨.ref lt, rfl, .ref lw, rfl, lw, rfl, ⟨_, .inl (.inl w7)⟩, fun D2 hD2 => ?_⟩
      have D2P : D2 ≠ pen := p7.ne hD2
      refine lc_it (walk_list (xs := txs ws)) (fun i Hy => ∃ (ps : List Addr) (pl : Str → Int), Hy D2 = some (.lst (ps.map V.ref)) ∧ ps.length = i ∧ Paired (fun p h => Hy p = some (.tup [.str h, .int (pl h)])) ps (ws.take i) ∧ (∀ h ∈ ws.take i, pl h ∈ zs) ∧ PenAt G Hy pen (n + 2 + m + 4 * ((m : Int) - 1).toNat + 1 + i) ∧ Ex (del pen H7) Hy)
        ⟨[], fun _ => 0, upd_same, rfl, .nil, (fun h hh => by cases hh), p7.put D2P, (fun b o h => (Ex.new hD2) _ _ (of_del h).2)⟩ (fun i Hy _ ⟨_, _, _, _, _, _, _, q⟩ => .inl (.inl (q _ _ (by rw [del_ne lwP]; exact w7)))) ?_ ?_
      · intro i x Hq Hy hi ⟨ps, pl, j1, j2, j3, j4, j5, j6⟩ ⟨hz, hx⟩
        subst hz
        obtain ⟨h, hh, rfl⟩ := txs_get hx
        obtain ⟨nm2, et⟩ := take_nodup wnd hh
        have zy : Hy lz = some (.lst ((zs.take c).map V.int)) := j6 _ _ (by rw [del_ne lz_P]; exact z7)
        have hlen : ((zs.take c).map V.int).length = c := by rw [List.length_map, List.length_take]; omega
        refine ⟨rfl, yes ⟨.str h, rfl, .ref pen, rfl, .ref lz, rfl, G, pen, _, lz, _, rfl, j5, exG (put_ex e7 j6), np, ?_, zy, lz_P, by omega, by omega, fun v Hz hv ez pz => ⟨Evl.sz_of (by show 2 ≤ 100000; decide), fun tq htq => ?_⟩⟩⟩
        · rw [txs_len] at hi
          omega
        obtain ⟨z, hz, rfl⟩ := List.mem_map.mp hv
        have tqP : tq ≠ pen := pz.ne htq
        have D2z : Hz D2 = some (.lst (ps.map V.ref)) := ez _ _ (by rw [del_ne D2P]; exact j1)
        have tqD : tq ≠ D2 := fun q => by
          rw [q, D2z] at htq
          cases htq
        have exT : Ex (del pen Hy) (upd Hz tq (.tup [.str h, .int z])) := ez.trans (Ex.new htq)
        rw [txs_len] at hi
        refine ⟨ps.map V.ref, (Ex.new htq) _ _ D2z, Evl.sz_lt (by rw [List.length_map]; omega), ps ++ [tq], fun x => if x = h then z else pl x, by rw [upd_same, List.map_append]; rfl, by rw [List.length_append, j2]; rfl, ?_, ?_, ?_, ?_⟩
        · rw [et]
          obtain ⟨cl, cs, a, b, hpy, _⟩ := id j5
          refine paired_snoc (paired_in j3 fun p x hx hp2 => ?_) ?_
          · have xn : x ≠ h := fun z => nm2 (z ▸ hx)
            have t2 := exT _ _ (show del pen Hy p = _ by rw [del_ne (ne_of hp2 hpy (fun z => nomatch z))]; exact hp2)
            show upd _ D2 _ p = some (HO.tup [V.str x, V.int (if x = h then z else pl x)])
            rw [upd_ne (ne_of t2 ((Ex.new htq) _ _ D2z) (fun z => nomatch z)), if_neg xn]
            exact t2
          · show upd _ D2 _ tq = some (HO.tup [V.str h, V.int (if h = h then z else pl h)])
            rw [upd_ne tqD, upd_same, if_pos rfl]
        · rw [et]
          intro x hx
          show (if x = h then z else pl x) ∈ zs
          by_cases xh : x = h
          · rw [if_pos xh]
            exact List.mem_of_mem_take hz
          · rw [if_neg xh]
            rcases List.mem_append.mp hx with q | q
            · exact j4 x q
            · exact absurd (List.mem_singleton.mp q) xh
        · exact ((pz.put tqP).put D2P).mono (Ex.refl G) (fun o h => h) (by omega)
        · intro b o hb
          have nb := (of_del hb).1
          rw [upd_ne (fun q => by rw [q] at hb; rw [(of_del hb).2] at hD2; cases hD2)]
          exact exT _ _ (by rw [del_ne nb]; exact j6 _ _ hb)
      · intro Hy ⟨ps, pl, j1, j2, j3, j4, j5, j6⟩
        rw [txs_len, List.take_length] at j3 j4
        rw [txs_len] at j5
        refine ⟨D2, ps, plK ws pl, rfl, .inl (.inl j1), paired_map (Paired.mapP j3 fun p h q => .inl (.inl q)), fun d hd => ⟨Evl.sz_of (by show 2 ≤ 100000; decide), fun t ht => ?_⟩⟩
        have dP : d ≠ pen := j5.ne hd
        have kn : ((plK ws pl).map (·.1)).Nodup := by
          unfold plK
          rw [List.map_map]
          exact nodup_map (fun a b q => Sum.inr.inj q) wnd
        rw [mergeK_nil kn] at ht ⊢
        have xa : Ex (del pen Hx) (upd (upd Hy d (.dK (plK ws pl))) t (.tup [.ref lt, .ref d])) := ((put_ex e67 j6).trans (Ex.new hd)).trans (Ex.new ht)
        obtain ⟨cl, cs, a, b, hpx, _⟩ := id g7
        exact k t lt d refs L zs Dd pl _ (put_ex g8 xa) upd_same (xa _ _ (by rw [del_ne lt_P]; exact g1)) (Paired.mapP g3 fun w f ⟨b, q1, q2⟩ => ⟨b, q1, xa _ _ (show del pen Hx b = _ by rw [del_ne (ne_of q2 hpx (fun z => nomatch z))]; exact q2)⟩) ((Ex.new ht) _ _ upd_same) g4 g6 (by omega) (by omega) zok j4 (((j5.put dP).put ((j5.put dP).ne ht)).mono (Ex.refl G) (fun o h => h) (by omega)))
end SfW
namespace SfW
open PySem PySem.Spec PyProof.Rows
open L2 hiding del del_ne del_same
open Evl (Ex RetV)
/-! the law's frames -/
variable {P : Program} {w : World} {K : PySem.W.Frag} {mg : Str → Option Value} {bs : Heap}
/-- a frame between the hosts hs, not to its own sender -/
def FOk (hs : List Str) (f : Fr) : Prop := f.1 ∈ hs ∧ ∀ t, f.2 = some t → t ∈ hs ∧ t ≠ f.1
theorem FOk.frame {hs : List Str} {f : Fr} (h : FOk hs f) (nm : ∀ x ∈ hs, NameOk x) : FrameOk f.1 f.2 := ⟨nm _ h.1, fun x e => ⟨nm _ (h.2 x e).1, (h.2 x e).2⟩⟩
/-- the pair of f stands at v -/
def TuAt (H : Hp) (v : V) (f : Fr) : Prop := ∃ p, v = .ref p ∧ H p = some (.tup [.str f.1, oV f.2])
def TusAt (H : Hp) (vs : List V) (fs : List Fr) : Prop := Paired (TuAt H) vs fs
theorem TusAt.mono {H H' : Hp} {vs : List V} {fs : List Fr} (h : TusAt H vs fs) (e : Ex H H') : TusAt H' vs fs := Paired.mapP h fun v f ⟨p, h1, h2⟩ => ⟨p, h1, e _ _ h2⟩
def oD : Option Str → PyData
  | none => .none
  | some x => .str x
def fD (f : Fr) : PyData := .tuple [.str f.1, oD f.2]
theorem dp_tus {H : Hp} : ∀ {vs : List V} {fs : List Fr}, TusAt H vs fs → DpAll K H vs (fs.map fD)
  | _, _, .nil => .nil
  | _, (s, tg) :: _, .cons h t => by
    obtain ⟨p, rfl, hp⟩ := h
    refine .cons (.tup (.inl (.inl hp)) (.cons (.str _) (.cons ?_ .nil))) (dp_tus t)
    cases tg with
    | none => exact .non
    | some t => exact .str t
theorem lay_tus {hs : List Str} (nm : ∀ x ∈ hs, NameOk x) : ∀ {fs : List Fr}, (∀ f ∈ fs, FOk hs f) → PyData.canLayAll0 (fs.map fD) = true ∧ PyData.depthAll (fs.map fD) ≤ 1
  | [], _ => ⟨rfl, Nat.zero_le _⟩
  | (s, tg) :: fs, h => by
    obtain ⟨h1, h2⟩ := lay_tus nm fun f hf => h f (List.mem_cons_of_mem _ hf)
    have f0 := h (s, tg) List.mem_cons_self
    have hp : PyData.canLayAll0 [PyData.str s, oD tg] = true ∧ PyData.depthAll [PyData.str s, oD tg] = 0 := by
      have q := name_str (nm s f0.1)
      cases tg with
      | none =>
        refine ⟨?_, rfl⟩
        show (PyData.strOk s && (true && true)) = true
        rw [q]
        rfl
      | some t =>
        have q2 := name_str (nm t (f0.2 t rfl).1)
        refine ⟨?_, rfl⟩
        show (PyData.strOk s && (PyData.strOk t && true)) = true
        rw [q, q2]
        rfl
    refine ⟨?_, ?_⟩
    · show (PyData.canLayAll0 [PyData.str s, oD tg] && PyData.canLayAll0 (fs.map fD)) = true
      rw [h1, hp.1]
      rfl
    · show max (PyData.depthAll [PyData.str s, oD tg] + 1) (PyData.depthAll (fs.map fD)) ≤ 1
      rw [hp.2]
      omega
theorem shaped_tus {hs : List Str} {fs : List Fr} (nm : ∀ x ∈ hs, NameOk x) (h : ∀ f ∈ fs, FOk hs f) : SeqAt.shaped (.list (fs.map fD)) = true := by
  obtain ⟨h1, h2⟩ := lay_tus nm h
  show (PyData.canLayAll0 (fs.map fD) && decide (PyData.depthAll (fs.map fD) + 1 ≤ 64)) = true
  rw [h1, decide_eq_true (by omega)]
  rfl
theorem ne_nil_eqv {α : Type} (f : α → PyData) (fs : List α) : (!PyData.eqv (.list (fs.map f)) (.list [])) = !decide (fs = []) := by
  cases fs with
  | nil => rfl
  | cons a r => rfl
theorem shaped_txs {xs : List Str} (h : ∀ x ∈ xs, NameOk x) : SeqAt.shaped (.list (xs.map PyData.str)) = true := by
  have q : PyData.canLayAll0 (xs.map PyData.str) = true ∧ PyData.depthAll (xs.map PyData.str) = 0 := by
    induction xs with
    | nil => exact ⟨rfl, rfl⟩
    | cons x xs ih =>
      obtain ⟨a, b⟩ := ih fun y hy => h y (List.mem_cons_of_mem _ hy)
      refine ⟨?_, ?_⟩
      · show (PyData.strOk x && PyData.canLayAll0 (xs.map PyData.str)) = true
        rw [name_str (h x List.mem_cons_self), a]
        rfl
      · show max 0 (PyData.depthAll (xs.map PyData.str)) = 0
        rw [b]
        rfl
  show (PyData.canLayAll0 (xs.map PyData.str) && decide (PyData.depthAll (xs.map PyData.str) + 1 ≤ 64)) = true
  rw [q.1, q.2]
  rfl
def spFrame : Sp := fun vs H Q _ => ∃ (G : Hp) (pen lw q : Addr) (n : Nat) (hs : List Str) (ps : List V) (past : List Fr), vs = [.ref pen, .ref lw, .ref q] ∧ PenAt G H pen n ∧ Ex G H ∧ G pen = none ∧ n + 20 < 1000000 ∧ H lw = some (.lst (txs hs)) ∧ hs.length ≤ 31 ∧ hs ≠ [] ∧ (∀ x ∈ hs, NameOk x) ∧
  H q = some (.lst ps) ∧ q ≠ pen ∧ TusAt H ps past ∧ (∀ f ∈ past, FOk hs f) ∧ past.length ≤ 100 ∧
  ∀ (p : Addr) (f : Fr) (H2 : Hp), H2 p = some (.tup [.str f.1, oV f.2]) → FOk hs f → Ex (del pen H) H2 → PenAt G H2 pen (n + 4) → Q (.ref p) H2
theorem F_law_frame (T : TX K mg) : FnR P w K mg bs CX0 3 (He.ga K "_law_frame") spFrame :=
  T.f_law_frame.fn S_law_frame (fun vs H Q E ⟨_, _, _, _, _, _, _, _, h, _⟩ => by rw [h] <;> rfl) (fun _ _ _ _ _ _ us hl => match us, hl with | [_, _, _], _ => rfl) (body0 fun cdv A outer s H vs Q E hr qq => by
    obtain ⟨G, pen, lw, q, n, hs, ps, past, rfl, hp, ex, np, hn, hw, w31, hne, nm, hq, qP, hT, hF, few, k⟩ := qq
    refine ⟨_, (pss_cons (ps_if (PW.pt (pw_and (pt_cmpR (op_neD (hu64 hr)) (pv 2) (pe_lst pa_nil) (nomark _)) (pw_and (pt_cmpR op_notN (pe_ix ix_tup (pe_ix ix_list (pv 2) (pe_op op_sub (pe_callB call_len_seq (by rfl) T.b_len PySem.boot_len (pa_cons (pv 2) pa_nil)) pe_int) (fun _ _ => rfl)) pe_int (fun _ _ => rfl)) pe_non (nomark _)) (pw_and1 (pt_cmpR op_eq (pe_callR (F_law_draw T) (hr.mono (by decide)) T.f_law_draw.kp T.g__law_draw pass0 (pa_cons (pv 0) (pa_cons pe_int pa_nil))) pe_int (nomark _)))))) (pss_one (ps_ret (pe_tup (pa_cons (pe_ix ix_tup (pe_ix ix_list (pv 2) (pe_op op_sub (pe_callB call_len_seq (by rfl) T.b_len PySem.boot_len (pa_cons (pv 2) pa_nil)) pe_int) (fun _ _ => rfl)) pe_int (fun _ _ => rfl)) (pa_cons (pe_ix ix_tup (pe_ix ix_list (pv 2) (pe_op op_sub (pe_callB call_len_seq (by rfl) T.b_len PySem.boot_len (pa_cons (pv 2) pa_nil)) pe_int) (fun _ _ => rfl)) pe_int (fun _ _ => rfl)) pa_nil))))) pss_nil) (pss_cons (ps_set (i := 3) S_law_frame.nd rfl (Or.inr rfl) (pe_callR (F_law_pick T) (hr.mono (by decide)) T.f_law_pick.kp T.g__law_pick pass0 (pa_cons (pv 0) (pa_cons (pv 1) pa_nil)))) (pss_cons (ps_setLc (i := 4) (own := [("_law_one", 6)]) rfl S_law_frame.nd rfl rfl (sw_true rfl rfl rfl (by decide +kernel)) (pi_list (pv 1)) (blkOk_by (N := N_law_frame) (sc := defScope s_law_frame) (by decide +kernel)) (fun _ _ _ _ _ => (pg_name (i := 6) S_law_frame.nd rfl (Or.inl rfl))) (fun _ _ _ _ _ => pts_one (pt_cmpR op_ne (pv 6) (pv 3) (nomark _))) (fun _ _ _ _ _ => (pv 6))) (pss_cons (ps_set (i := 5) S_law_frame.nd rfl (Or.inl rfl) (pe_ifExp (PW.pt (pw_and (pt_cmpR (op_neD (hu64 hr)) (pv 4) (pe_lst pa_nil) (nomark _)) (pw_and1 (pt_cmpR op_gt (pe_callR (F_law_draw T) (hr.mono (by decide)) T.f_law_draw.kp T.g__law_draw pass0 (pa_cons (pv 0) (pa_cons pe_int pa_nil))) pe_int (nomark _))))) (pe_callR (F_law_pick T) (hr.mono (by decide)) T.f_law_pick.kp T.g__law_pick pass0 (pa_cons (pv 0) (pa_cons (pv 4) pa_nil))) pe_non)) (pss_one (ps_ret (pe_tup (pa_cons (pv 3) (pa_cons (pv 5) pa_nil))))))))), ?_⟩
    have rl : ps.length = past.length := Paired.length hT
    refine ⟨.ref q, rfl, Evl.sz_of (by show 0 ≤ 100000; decide), fun l hl => ⟨.list (past.map fD), .list [], .lst (.inl (.inl ((Ex.new hl) _ _ hq))) (dp_tus (hT.mono (Ex.new hl))), .lst (.inl (.inl upd_same)) .nil, shaped_tus nm hF, rfl, _, rfl, ?_⟩⟩
    rw [ne_nil_eqv]
    have exG : ∀ {Hy : Hp}, Ex (del pen H) Hy → Ex G Hy := fun e b o h => e _ _ (by rw [del_ne (fun z => by rw [z, np] at h; cases h)]; exact ex _ _ h)
    have lwP : lw ≠ pen := fun z => by
      obtain ⟨cl, cs, a, b, h, _⟩ := id hp
      rw [← z, hw] at h
      injection h with h
      injection h with h
      cases hs with
      | nil => exact hne rfl
      | cons x r =>
        injection h with h _
        cases h
    have hpos : 0 < hs.length := List.length_pos_iff.mpr hne
    have xz : Ex (del pen H) (upd H l (.lst [])) := (fun b o h => (Ex.new hl) _ _ (of_del h).2)
    have pz : PenAt G (upd H l (.lst [])) pen n := hp.put (hp.ne hl)
    have q2 : upd H l (.lst []) q = some (.lst ps) := (Ex.new hl) _ _ hq
    have T2 := hT.mono (Ex.new (o := .lst []) hl)
    revert xz pz q2 T2
    generalize upd H l (.lst []) = Hz
    intro xz pz q2 T2
    by_cases c : past = []
    · rw [decide_eq_true c]
      refine iteF ?_
      refine ⟨.ref pen, rfl, .ref lw, rfl, G, pen, _, lw, txs hs, rfl, pz, exG xz, np, by omega, xz _ _ (by rw [del_ne lwP]; exact hw), lwP, by rw [txs_len]; exact hpos, by rw [txs_len]; omega, fun v H5 hv e5 p5 => ?_⟩
      obtain ⟨wd, hwd, rfl⟩ := List.mem_map.mp hv
      have x5 := put_ex xz e5
      have w5 : H5 lw = some (.lst (txs hs)) := x5 _ _ (by rw [del_ne lwP]; exact hw)
      refine ⟨.ref lw, rfl, lw, rfl, ⟨_, .inl (.inl w5)⟩, fun D hD => lcFM (walk_list (xs := txs hs)) hD (fun v => !decide (v = .str wd)) id (by rw [txs_len]; omega) (fun H' e => .inl (.inl (e _ _ w5))) ?_ ?_⟩
      · intro i x Ha hx e C C0 hC hC0
        obtain ⟨o, ho, rfl⟩ := txs_get hx
        refine ⟨rfl, .str o, rfl, .str wd, rfl, rfl, _, rfl, ?_⟩
        by_cases c : (V.str o) = .str wd
        · exact iteNY c (hC0 (by rw [decide_eq_true c]; rfl) _ (Ex.refl _))
        · exact iteNZ c ⟨.str o, rfl, hC (by rw [decide_eq_false c]; rfl) _ (Ex.refl _)⟩
      intro H6 e6 h6
      rw [List.map_id] at h6
      obtain ⟨ls, hls⟩ : ∃ ls, ls = hs.filter fun x => !decide (x = wd) := ⟨_, rfl⟩
      have el : (txs hs).filter (fun v => !decide (v = V.str wd)) = txs ls := by
        rw [hls, List.filter_map]
        congr 1
        refine List.filter_congr fun x hx => ?_
        show (!decide (V.str x = V.str wd)) = !decide (x = wd)
        congr 1
        exact decide_eq_decide.mpr ⟨fun q => by injection q, fun q => by rw [q]⟩
      rw [el] at h6
      have ll : ∀ x ∈ ls, x ∈ hs ∧ x ≠ wd := fun x hx => by
        rw [hls] at hx
        obtain ⟨h1, h2⟩ := List.mem_filter.mp hx
        refine ⟨h1, fun q => ?_⟩
        rw [q, decide_eq_true rfl] at h2
        cases h2
      have lsl : ls.length ≤ hs.length := by
        rw [hls]
        exact List.length_filter_le _ _
      have x6 : Ex (del pen H) H6 := x5.trans e6
      have p6 := p5.mono (Ex.refl G) (fun o h => e6 _ _ h) (Nat.le_refl _)
      refine ⟨.ref D, rfl, Evl.sz_of (by show 0 ≤ 100000; decide), fun l2 hl2 => ⟨.list (ls.map PyData.str), .list [], .lst (.inl (.inl ((Ex.new hl2) _ _ h6))) (dp_txs ls), .lst (.inl (.inl upd_same)) .nil, shaped_txs fun x hx => nm x (ll x hx).1, rfl, _, rfl, ?_⟩⟩
      rw [ne_nil_eqv]
      have x7 : Ex (del pen H) (upd H6 l2 (.lst [])) := x6.trans (Ex.new hl2)
      have p7 := p6.put (o := .lst []) (p6.ne hl2)
      have h7 : upd H6 l2 (.lst []) D = some (.lst (txs ls)) := (Ex.new hl2) _ _ h6
      by_cases c0 : ls = []
      · rw [decide_eq_true c0]
        exact iteF (iteF ⟨.str wd, rfl, .non, rfl, Evl.sz_of (by show 2 ≤ 100000; decide), fun pr hpr => by exact k pr (wd, none) _ upd_same ⟨hwd, fun x e => by cases e⟩ (x7.trans (Ex.new hpr)) ((p7.put (p7.ne hpr)).mono (Ex.refl G) (fun o h => h) (by omega))⟩)
      rw [decide_eq_false c0]
      refine iteT ⟨.ref pen, rfl, G, pen, _, 8, rfl, p7, exG x7, np, by omega, by decide, by decide, fun r8 H8 _ _ e8 p8 => ⟨r8, 0, rfl, rfl, _, rfl, ?_⟩⟩
      have x8 := put_ex x7 e8
      by_cases c8 : 0 < r8
      · refine iteY c8 ?_
        have D8 : D ≠ pen := p5.ne hD
        refine ⟨.ref pen, rfl, .ref D, rfl, G, pen, _, D, txs ls, rfl, p8, exG x8, np, by omega, e8 _ _ (by rw [del_ne D8]; exact h7), D8, by rw [txs_len]; exact List.length_pos_iff.mpr c0, by rw [txs_len]; omega, fun v9 H9 hv9 e9 p9 => ?_⟩
        obtain ⟨gl, hgl, rfl⟩ := List.mem_map.mp hv9
        have x9 := put_ex x8 e9
        exact ⟨.str wd, rfl, .str gl, rfl, Evl.sz_of (by show 2 ≤ 100000; decide), fun pr hpr => by exact k pr (wd, some gl) _ upd_same ⟨hwd, fun x e => by cases e; exact ll _ hgl⟩ (x9.trans (Ex.new hpr)) ((p9.put (p9.ne hpr)).mono (Ex.refl G) (fun o h => h) (by omega))⟩
      · refine iteZ c8 ⟨.str wd, rfl, .non, rfl, Evl.sz_of (by show 2 ≤ 100000; decide), fun pr hpr => by exact k pr (wd, none) _ upd_same ⟨hwd, fun x e => by cases e⟩ (x8.trans (Ex.new hpr)) ((p8.put (p8.ne hpr)).mono (Ex.refl G) (fun o h => h) (by omega))⟩
    rw [decide_eq_false c]
    refine iteT ?_
    obtain ⟨p0, f, rfl⟩ : ∃ p0 f, past = p0 ++ [f] := ⟨past.dropLast, past.getLast c, (List.dropLast_concat_getLast c).symm⟩
    obtain ⟨ps0, v, rfl, _, tp, rfl, htp⟩ := paired_last T2
    have hl1 : atI (ps0 ++ [V.ref tp]) (((ps0 ++ [V.ref tp]).length : Nat) - 1) = some (V.ref tp) := by
      have z := atI_nat (xs := ps0 ++ [V.ref tp]) (j := ps0.length) (v := V.ref tp) (by simp)
      rw [show ((((ps0 ++ [V.ref tp]).length : Nat) : Int) - 1) = (ps0.length : Nat) by rw [List.length_append]; simp]
      exact z
    have ff := hF f (by simp)
    obtain ⟨sd, tg⟩ := f
    refine ⟨.ref q, rfl, .ref q, rfl, q, _, rfl, .inl (.inl (.inl q2)), _, 1, rfl, rfl, q, _, _, _, rfl, rfl, .inl (.inl q2), hl1, tp, _, 1, oV tg, rfl, rfl, .inl (.inl htp), rfl, rfl, _, rfl, ?_⟩
    cases tg with
    | none =>
      refine iteF ?_
      refine ⟨.ref pen, rfl, .ref lw, rfl, G, pen, _, lw, txs hs, rfl, pz, exG xz, np, by omega, xz _ _ (by rw [del_ne lwP]; exact hw), lwP, by rw [txs_len]; exact hpos, by rw [txs_len]; omega, fun v H5 hv e5 p5 => ?_⟩
      obtain ⟨wd, hwd, rfl⟩ := List.mem_map.mp hv
      have x5 := put_ex xz e5
      have w5 : H5 lw = some (.lst (txs hs)) := x5 _ _ (by rw [del_ne lwP]; exact hw)
      refine ⟨.ref lw, rfl, lw, rfl, ⟨_, .inl (.inl w5)⟩, fun D hD => lcFM (walk_list (xs := txs hs)) hD (fun v => !decide (v = .str wd)) id (by rw [txs_len]; omega) (fun H' e => .inl (.inl (e _ _ w5))) ?_ ?_⟩
      · intro i x Ha hx e C C0 hC hC0
        obtain ⟨o, ho, rfl⟩ := txs_get hx
        refine ⟨rfl, .str o, rfl, .str wd, rfl, rfl, _, rfl, ?_⟩
        by_cases c : (V.str o) = .str wd
        · exact iteNY c (hC0 (by rw [decide_eq_true c]; rfl) _ (Ex.refl _))
        · exact iteNZ c ⟨.str o, rfl, hC (by rw [decide_eq_false c]; rfl) _ (Ex.refl _)⟩
      intro H6 e6 h6
      rw [List.map_id] at h6
      obtain ⟨ls, hls⟩ : ∃ ls, ls = hs.filter fun x => !decide (x = wd) := ⟨_, rfl⟩
      have el : (txs hs).filter (fun v => !decide (v = V.str wd)) = txs ls := by
        rw [hls, List.filter_map]
        congr 1
        refine List.filter_congr fun x hx => ?_
        show (!decide (V.str x = V.str wd)) = !decide (x = wd)
        congr 1
        exact decide_eq_decide.mpr ⟨fun q => by injection q, fun q => by rw [q]⟩
      rw [el] at h6
      have ll : ∀ x ∈ ls, x ∈ hs ∧ x ≠ wd := fun x hx => by
        rw [hls] at hx
        obtain ⟨h1, h2⟩ := List.mem_filter.mp hx
        refine ⟨h1, fun q => ?_⟩
        rw [q, decide_eq_true rfl] at h2
        cases h2
      have lsl : ls.length ≤ hs.length := by
        rw [hls]
        exact List.length_filter_le _ _
      have x6 : Ex (del pen H) H6 := x5.trans e6
      have p6 := p5.mono (Ex.refl G) (fun o h => e6 _ _ h) (Nat.le_refl _)
      refine ⟨.ref D, rfl, Evl.sz_of (by show 0 ≤ 100000; decide), fun l2 hl2 => ⟨.list (ls.map PyData.str), .list [], .lst (.inl (.inl ((Ex.new hl2) _ _ h6))) (dp_txs ls), .lst (.inl (.inl upd_same)) .nil, shaped_txs fun x hx => nm x (ll x hx).1, rfl, _, rfl, ?_⟩⟩
      rw [ne_nil_eqv]
      have x7 : Ex (del pen H) (upd H6 l2 (.lst [])) := x6.trans (Ex.new hl2)
      have p7 := p6.put (o := .lst []) (p6.ne hl2)
      have h7 : upd H6 l2 (.lst []) D = some (.lst (txs ls)) := (Ex.new hl2) _ _ h6
      by_cases c0 : ls = []
      · rw [decide_eq_true c0]
        exact iteF (iteF ⟨.str wd, rfl, .non, rfl, Evl.sz_of (by show 2 ≤ 100000; decide), fun pr hpr => by exact k pr (wd, none) _ upd_same ⟨hwd, fun x e => by cases e⟩ (x7.trans (Ex.new hpr)) ((p7.put (p7.ne hpr)).mono (Ex.refl G) (fun o h => h) (by omega))⟩)
      rw [decide_eq_false c0]
      refine iteT ⟨.ref pen, rfl, G, pen, _, 8, rfl, p7, exG x7, np, by omega, by decide, by decide, fun r8 H8 _ _ e8 p8 => ⟨r8, 0, rfl, rfl, _, rfl, ?_⟩⟩
      have x8 := put_ex x7 e8
      by_cases c8 : 0 < r8
      · refine iteY c8 ?_
        have D8 : D ≠ pen := p5.ne hD
        refine ⟨.ref pen, rfl, .ref D, rfl, G, pen, _, D, txs ls, rfl, p8, exG x8, np, by omega, e8 _ _ (by rw [del_ne D8]; exact h7), D8, by rw [txs_len]; exact List.length_pos_iff.mpr c0, by rw [txs_len]; omega, fun v9 H9 hv9 e9 p9 => ?_⟩
        obtain ⟨gl, hgl, rfl⟩ := List.mem_map.mp hv9
        have x9 := put_ex x8 e9
        exact ⟨.str wd, rfl, .str gl, rfl, Evl.sz_of (by show 2 ≤ 100000; decide), fun pr hpr => by exact k pr (wd, some gl) _ upd_same ⟨hwd, fun x e => by cases e; exact ll _ hgl⟩ (x9.trans (Ex.new hpr)) ((p9.put (p9.ne hpr)).mono (Ex.refl G) (fun o h => h) (by omega))⟩
      · refine iteZ c8 ⟨.str wd, rfl, .non, rfl, Evl.sz_of (by show 2 ≤ 100000; decide), fun pr hpr => by exact k pr (wd, none) _ upd_same ⟨hwd, fun x e => by cases e⟩ (x8.trans (Ex.new hpr)) ((p8.put (p8.ne hpr)).mono (Ex.refl G) (fun o h => h) (by omega))⟩
    | some tt =>
      refine iteT ?_
      refine ⟨.ref pen, rfl, G, pen, n, 3, rfl, pz, exG xz, np, by omega, by decide, by decide, fun r Hy r0 r1 ey py => ⟨rfl, _, rfl, ?_⟩⟩
      have xy := put_ex xz ey
      by_cases c3 : r = 0
      · rw [decide_eq_true (by rw [c3])]
        refine iteT ?_
        have qy : Hy q = some (.lst (ps0 ++ [.ref tp])) := ey _ _ (by rw [del_ne qP]; exact q2)
        obtain ⟨cl, cs, a, b, hpz, _⟩ := id pz
        have ty : Hy tp = some (.tup [.str sd, .str tt]) := ey _ _ (by rw [del_ne (ne_of htp hpz (fun z => nomatch z))]; exact htp)
        refine ⟨.ref q, rfl, .ref q, rfl, q, _, rfl, .inl (.inl (.inl qy)), _, 1, rfl, rfl, q, _, _, _, rfl, rfl, .inl (.inl qy), hl1, tp, _, 1, .str tt, rfl, rfl, .inl (.inl ty), rfl, .ref q, rfl, .ref q, rfl, q, _, rfl, .inl (.inl (.inl qy)), _, 1, rfl, rfl, q, _, _, _, rfl, rfl, .inl (.inl qy), hl1, tp, _, 0, .str sd, rfl, rfl, .inl (.inl ty), rfl, Evl.sz_of (by show 2 ≤ 100000; decide), fun pr hpr => ?_⟩
        exact k pr (tt, some sd) _ upd_same ⟨(ff.2 tt rfl).1, fun x e => by cases e; exact ⟨ff.1, Ne.symm (ff.2 tt rfl).2⟩⟩ (xy.trans (Ex.new hpr)) ((py.put (py.ne hpr)).mono (Ex.refl G) (fun o h => h) (by omega))
      · rw [decide_eq_false (fun z => c3 (by injection z))]
        refine iteF ?_
        have xz := xy
        have pz := py
        refine ⟨.ref pen, rfl, .ref lw, rfl, G, pen, _, lw, txs hs, rfl, pz, exG xz, np, by omega, xz _ _ (by rw [del_ne lwP]; exact hw), lwP, by rw [txs_len]; exact hpos, by rw [txs_len]; omega, fun v H5 hv e5 p5 => ?_⟩
        obtain ⟨wd, hwd, rfl⟩ := List.mem_map.mp hv
        have x5 := put_ex xz e5
        have w5 : H5 lw = some (.lst (txs hs)) := x5 _ _ (by rw [del_ne lwP]; exact hw)
        refine ⟨.ref lw, rfl, lw, rfl, ⟨_, .inl (.inl w5)⟩, fun D hD => lcFM (walk_list (xs := txs hs)) hD (fun v => !decide (v = .str wd)) id (by rw [txs_len]; omega) (fun H' e => .inl (.inl (e _ _ w5))) ?_ ?_⟩
        · intro i x Ha hx e C C0 hC hC0
          obtain ⟨o, ho, rfl⟩ := txs_get hx
          refine ⟨rfl, .str o, rfl, .str wd, rfl, rfl, _, rfl, ?_⟩
          by_cases c : (V.str o) = .str wd
          · exact iteNY c (hC0 (by rw [decide_eq_true c]; rfl) _ (Ex.refl _))
          · exact iteNZ c ⟨.str o, rfl, hC (by rw [decide_eq_false c]; rfl) _ (Ex.refl _)⟩
        intro H6 e6 h6
        rw [List.map_id] at h6
        obtain ⟨ls, hls⟩ : ∃ ls, ls = hs.filter fun x => !decide (x = wd) := ⟨_, rfl⟩
        have el : (txs hs).filter (fun v => !decide (v = V.str wd)) = txs ls := by
          rw [hls, List.filter_map]
          congr 1
          refine List.filter_congr fun x hx => ?_
          show (!decide (V.str x = V.str wd)) = !decide (x = wd)
          congr 1
          exact decide_eq_decide.mpr ⟨fun q => by injection q, fun q => by rw [q]⟩
        rw [el] at h6
        have ll : ∀ x ∈ ls, x ∈ hs ∧ x ≠ wd := fun x hx => by
          rw [hls] at hx
          obtain ⟨h1, h2⟩ := List.mem_filter.mp hx
          refine ⟨h1, fun q => ?_⟩
          rw [q, decide_eq_true rfl] at h2
          cases h2
        have lsl : ls.length ≤ hs.length := by
          rw [hls]
          exact List.length_filter_le _ _
        have x6 : Ex (del pen H) H6 := x5.trans e6
        have p6 := p5.mono (Ex.refl G) (fun o h => e6 _ _ h) (Nat.le_refl _)
        refine ⟨.ref D, rfl, Evl.sz_of (by show 0 ≤ 100000; decide), fun l2 hl2 => ⟨.list (ls.map PyData.str), .list [], .lst (.inl (.inl ((Ex.new hl2) _ _ h6))) (dp_txs ls), .lst (.inl (.inl upd_same)) .nil, shaped_txs fun x hx => nm x (ll x hx).1, rfl, _, rfl, ?_⟩⟩
        rw [ne_nil_eqv]
        have x7 : Ex (del pen H) (upd H6 l2 (.lst [])) := x6.trans (Ex.new hl2)
        have p7 := p6.put (o := .lst []) (p6.ne hl2)
        have h7 : upd H6 l2 (.lst []) D = some (.lst (txs ls)) := (Ex.new hl2) _ _ h6
        by_cases c0 : ls = []
        · rw [decide_eq_true c0]
          exact iteF (iteF ⟨.str wd, rfl, .non, rfl, Evl.sz_of (by show 2 ≤ 100000; decide), fun pr hpr => by exact k pr (wd, none) _ upd_same ⟨hwd, fun x e => by cases e⟩ (x7.trans (Ex.new hpr)) ((p7.put (p7.ne hpr)).mono (Ex.refl G) (fun o h => h) (by omega))⟩)
        rw [decide_eq_false c0]
        refine iteT ⟨.ref pen, rfl, G, pen, _, 8, rfl, p7, exG x7, np, by omega, by decide, by decide, fun r8 H8 _ _ e8 p8 => ⟨r8, 0, rfl, rfl, _, rfl, ?_⟩⟩
        have x8 := put_ex x7 e8
        by_cases c8 : 0 < r8
        · refine iteY c8 ?_
          have D8 : D ≠ pen := p5.ne hD
          refine ⟨.ref pen, rfl, .ref D, rfl, G, pen, _, D, txs ls, rfl, p8, exG x8, np, by omega, e8 _ _ (by rw [del_ne D8]; exact h7), D8, by rw [txs_len]; exact List.length_pos_iff.mpr c0, by rw [txs_len]; omega, fun v9 H9 hv9 e9 p9 => ?_⟩
          obtain ⟨gl, hgl, rfl⟩ := List.mem_map.mp hv9
          have x9 := put_ex x8 e9
          exact ⟨.str wd, rfl, .str gl, rfl, Evl.sz_of (by show 2 ≤ 100000; decide), fun pr hpr => by exact k pr (wd, some gl) _ upd_same ⟨hwd, fun x e => by cases e; exact ll _ hgl⟩ (x9.trans (Ex.new hpr)) ((p9.put (p9.ne hpr)).mono (Ex.refl G) (fun o h => h) (by omega))⟩
        · refine iteZ c8 ⟨.str wd, rfl, .non, rfl, Evl.sz_of (by show 2 ≤ 100000; decide), fun pr hpr => by exact k pr (wd, none) _ upd_same ⟨hwd, fun x e => by cases e⟩ (x8.trans (Ex.new hpr)) ((p8.put (p8.ne hpr)).mono (Ex.refl G) (fun o h => h) (by omega))⟩)
end SfW
namespace SfW
open PySem PySem.Spec PyProof.Rows
open L2 hiding del del_ne del_same
open Evl (Ex RetV)
/-! whether a network is as a fresh one -/
theorem FnAt.fnG0 {P : Program} {w : World} {K : PySem.W.Frag} {mg : Str → Option Value} {base : Heap} {k : Nat} {sp : SpS} {x qual : Str} {st : Stmt} {a : Addr} {N ps : List Str} (F : FnAt K a x qual st []) (S : FnScope N ps (defScope st))
    (len : ∀ outer s vs H Q E, sp outer s vs H Q E → vs.length = ps.length)
    (hb : ∀ (kV doc pm : Value) (an : Option Addr) (cdv ct : Value) (us : List Value), us.length = ps.length → bindArgs (PySem.W.fnOf x qual (defArgs st) (defBody st) (defScope st) .none kV doc pm an cdv ct) ⟨us, []⟩ = pure (ps.zip us))
    (hbody : ∀ (cdv : Value) (A : Around) (outer : List Env) (s : Shared) (H : Hp) (vs : List V) (Q : VK) (E : XK), A.guards = some [] → Room k (A.deeper (envOfC qual (defScope st) s.heap.objs.size a cdv)) → sp outer s vs H Q E →
      ∃ t, PSs (cxOf CX0 P w K mg base N qual (defScope st) a cdv A outer s H E).nox (defBody st) t ∧ t { nx := fun _ H' => Q .non H', rt := Q } (start N vs) H) : FnG P w K mg base CX0 (k + 1) a sp :=
  F.fnG S len hb fun cdv A outer s H vs Q E hG hr q => by
    obtain ⟨t, h1, h2⟩ := hbody cdv A outer s H vs Q E hG hr q
    exact ⟨t, h1.nox, h2⟩
mutual
theorem DatA.mono {H H' : Hp} (e : Ex H H') : ∀ {v : V} {d : PyData}, DatA H v d → DatA H' v d
  | _, _, .int i => .int i
  | _, _, .str x => .str x
  | _, _, .tup h t => .tup (e _ _ h) (DatAs.mono e t)
  | _, _, .lst h t => .lst (e _ _ h) (DatAs.mono e t)
theorem DatAs.mono {H H' : Hp} (e : Ex H H') : ∀ {vs : List V} {ds : List PyData}, DatAs H vs ds → DatAs H' vs ds
  | _, _, .nil => .nil
  | _, _, .cons h t => .cons (DatA.mono e h) (DatAs.mono e t)
end
theorem DatAs.snoc {H : Hp} : ∀ {vs : List V} {ds : List PyData} {v : V} {d : PyData}, DatAs H vs ds → DatA H v d → DatAs H (vs ++ [v]) (ds ++ [d])
  | _, _, _, _, .nil, h => .cons h .nil
  | _, _, _, _, .cons a t, h => .cons a (t.snoc h)
theorem dat_txs {H : Hp} : ∀ (xs : List Str), DatAs H (txs xs) (xs.map PyData.str)
  | [] => .nil
  | x :: xs => .cons (.str x) (dat_txs xs)
theorem dat_ints {H : Hp} : ∀ (xs : List Int), DatAs H (xs.map V.int) (xs.map PyData.int)
  | [] => .nil
  | x :: xs => .cons (.int x) (dat_ints xs)
/-- bounds of what is shown -/
structure Sz (d : PyData) (dp wt : Nat) : Prop where
  ok : d.showable = true
  no : d.hasDict = false
  dp : d.depth ≤ dp
  lv : d.leavesShort 13 = true
  wt : d.weight ≤ wt
theorem Sz.shows {d : PyData} {a b : Nat} (h : Sz d a b) (ha : a ≤ 8) (hb : b ≤ 2 ^ 20) : Shows d := ⟨h.ok, h.no, Nat.le_trans h.dp ha, h.lv, Nat.le_trans h.wt hb⟩
theorem sz_all {a b : Nat} : ∀ {ds : List PyData}, (∀ d ∈ ds, Sz d a b) → PyData.showableAll ds = true ∧ PyData.hasDictAll ds = false ∧ PyData.depthAll ds ≤ a ∧ PyData.leavesShortAll 13 ds = true ∧ PyData.weightAll ds ≤ ds.length * (b + 1)
  | [], _ => ⟨rfl, rfl, Nat.zero_le _, rfl, Nat.zero_le _⟩
  | d :: ds, h => by
    obtain ⟨h1, h2, h3, h4, h5⟩ := sz_all (ds := ds) fun x hx => h x (List.mem_cons_of_mem _ hx)
    have q := h d List.mem_cons_self
    refine ⟨?_, ?_, ?_, ?_, ?_⟩
    · show (d.showable && PyData.showableAll ds) = true
      rw [q.ok, h1]
      rfl
    · show (d.hasDict || PyData.hasDictAll ds) = false
      rw [q.no, h2]
      rfl
    · show max d.depth (PyData.depthAll ds) ≤ a
      exact Nat.max_le.mpr ⟨q.dp, h3⟩
    · show (d.leavesShort 13 && PyData.leavesShortAll 13 ds) = true
      rw [q.lv, h4]
      rfl
    · show d.weight + 1 + PyData.weightAll ds ≤ (ds.length + 1) * (b + 1)
      have := q.wt
      rw [Nat.add_mul]
      omega
theorem sz_tup {a b : Nat} {ds : List PyData} (h : ∀ d ∈ ds, Sz d a b) : Sz (.tuple ds) (a + 1) (ds.length * (b + 1)) := by
  obtain ⟨h1, h2, h3, h4, h5⟩ := sz_all h
  exact ⟨h1, h2, Nat.succ_le_succ h3, h4, h5⟩
theorem sz_lst {a b : Nat} {ds : List PyData} (h : ∀ d ∈ ds, Sz d a b) : Sz (.list ds) (a + 1) (ds.length * (b + 1)) := by
  obtain ⟨h1, h2, h3, h4, h5⟩ := sz_all h
  exact ⟨h1, h2, Nat.succ_le_succ h3, h4, h5⟩
theorem Sz.le {d : PyData} {a b a' b' : Nat} (h : Sz d a b) (ha : a ≤ a') (hb : b ≤ b') : Sz d a' b' := ⟨h.ok, h.no, Nat.le_trans h.dp ha, h.lv, Nat.le_trans h.wt hb⟩
theorem sz_str {x : Str} (h : NameOk x) : Sz (.str x) 0 8 := by
  obtain ⟨h1, h2, h3⟩ := h
  refine ⟨rfl, rfl, Nat.le_refl _, ?_, h2⟩
  show (x.cps.toList.all fun c => decide (c < 16 ^ 8)) = true
  refine List.all_eq_true.mpr fun c hc => decide_eq_true ?_
  obtain ⟨k, hk, rfl⟩ := h3 c hc
  omega
theorem sz_int {i : Int} (h0 : 0 ≤ i) (h1 : i < 100) : Sz (.int i) 0 8 := by
  have hn : i.natAbs < 2 ^ 7 := by omega
  have hl : i.natAbs.log2 < 7 := by
    by_cases z : i.natAbs = 0
    · rw [z]
      decide
    · exact (Nat.log2_lt z).mpr hn
  refine ⟨?_, rfl, Nat.le_refl _, ?_, ?_⟩
  · show decide (i.natAbs.log2 < 1920) = true
    exact decide_eq_true (by omega)
  · show decide ((PyData.shown (.int i)).length ≤ 13) = true
    exact decide_eq_true (PyData.shown_int_le (by omega))
  · show (if (i == 0) = true then 0 else i.natAbs.log2 + 1) ≤ 8
    split <;> omega
/-- what is known of networks besides -/
structure TV (K : PySem.W.Frag) : Prop where
  ne : PySem.W.findIn K (.ref (He.ga K "Network")) "__ne__" = some (some (.builtin "object.__ne__"))
  ob : PySem.W.mroIn K (He.ga K "Network") (.type "object") = some true
section
variable {P : Program} {w : World} {K : PySem.W.Frag} {mg : Str → Option Value} {bs : Heap}
/-- the frames stand aside from A -/
theorem FrsAt.cut {A : List Addr} {H : Hp} {dx w pH ls lt lo : Addr} {refs : List V} {fs : List Fr} (hA : ∀ b ∈ A, (∃ xs, H b = some (.lst xs)) ∨ ∃ dx w p l1 l2 l3, H b = some (.ins (He.ga K "Network") dx (netFs w p l1 l2 l3))) (h : FrsAt K H refs fs) : FrsAt K (SfW.cut A H) refs fs :=
  Paired.mapP h fun v f ⟨b, h1, dx, h2⟩ => ⟨b, h1, dx, cut_in h2 (fun m => by
    rcases hA b m with ⟨xs, z⟩ | ⟨_, _, _, _, _, _, z⟩
    · rw [h2] at z
      cases z
    · rw [h2] at z
      injection z with z
      injection z with _ _ z
      cases z) fun _ z => nomatch z⟩
theorem HistAt.cut {A : List Addr} {H : Hp} {x : Addr} {fs : List Fr} (hA : ∀ b ∈ A, (∃ xs, H b = some (.lst xs)) ∨ ∃ dx w p l1 l2 l3, H b = some (.ins (He.ga K "Network") dx (netFs w p l1 l2 l3))) (h : HistAt K H x fs) : HistAt K (SfW.cut A H) x fs := by
  obtain ⟨dx, p, refs, h1, h2, h3⟩ := h
  refine ⟨dx, p, refs, cut_in h1 (fun m => ?_) (fun _ z => nomatch z), cut_in h2 (fun m => ?_) (fun _ z => nomatch z), FrsAt.cut (dx := 0) (w := 0) (pH := 0) (ls := 0) (lt := 0) (lo := 0) hA h3⟩
  · rcases hA x m with ⟨xs, z⟩ | ⟨_, _, _, _, _, _, z⟩
    · rw [h1] at z
      cases z
    · rw [h1] at z
      injection z with z
      injection z with _ _ z
      cases z
  · rcases hA p m with ⟨xs, z⟩ | ⟨_, _, _, _, _, _, z⟩ <;> (rw [h2] at z; cases z)
/-- what is shown of a host -/
def knD (W : WD) (past : List Fr) (h : Str) : PyData := .list [.tuple ((knownBy W (SfM.memFrom W.wb mem0 past) h).map PyData.int), .tuple ((seersOf W past h).map PyData.str)]
def siD (W : WD) (past : List Fr) : PyData := .tuple ((SfM.sightsFrom W.wb mem0 past).map fun s => .tuple (s.map PyData.str))
theorem dat_sights {H : Hp} : ∀ {os : List V} {ss : List (List Str)}, Paired (SightAt H) os ss → DatAs H os (ss.map fun s => .tuple (s.map PyData.str))
  | _, _, .nil => .nil
  | _, s :: _, .cons h t => by
    obtain ⟨p, rfl, hp⟩ := h
    exact .cons (.tup hp (dat_txs s)) (dat_sights t)
theorem netFs_inj {w p a b c w' p' a' b' c' : Addr} (h : netFs w p a b c = netFs w' p' a' b' c') : w = w' := by
  injection h with h _
  injection h with _ h
  injection h
theorem sights_in (W : WD) : ∀ (past : List Fr) (m : SfM.Mem Str) (s : List Str), s ∈ SfM.sightsFrom W.wb m past → (∀ x ∈ s, x ∈ W.hs) ∧ s.length ≤ W.hs.length
  | [], _, _, h => by cases h
  | f :: r, m, s, h => by
    rcases List.mem_cons.mp h with rfl | h
    · exact ⟨fun x hx => (List.mem_filter.mp hx).1, List.length_filter_le _ _⟩
    · exact sights_in W r _ s h
def spIsSo (K : PySem.W.Frag) : Sp := fun vs H Q _ => ∃ (A : List Addr) (a q : Addr) (W : WD) (past : List Fr) (ls lt lo : Addr) (ps : List V), vs = [.ref a, .ref q] ∧ NetAt K (cut A H) H a W past ls lt lo ∧ Muts A H ∧ WOk W ∧ H q = some (.lst ps) ∧ TusAt H ps past ∧ (∀ f ∈ past, FOk W.hs f) ∧ past.length ≤ 30 ∧ RetV (.bl true) H Q
theorem F_law_is_so (T : TX K mg) (U : TY P K) (Z : TV K) : FnGR P w K mg bs CX0 8 (He.ga K "_law_is_so") (spIsSo K) :=
  T.f_law_is_so.fnG0 S_law_is_so (fun outer s vs H Q E ⟨_, _, _, _, _, _, _, _, _, h, _⟩ => by rw [h] <;> rfl) (fun _ _ _ _ _ _ us hl => match us, hl with | [_, _], _ => rfl) fun cdv Ar outer s H vs Q E hG hr qq => by
    obtain ⟨A, a, q, W, past, ls, lt, lo, ps, rfl, hN, mu, ok, hq, hT, hF, few, k⟩ := qq
    have hun : (Ar.deeper (envOfC "_law_is_so" (defScope s_law_is_so) s.heap.objs.size (He.ga K "_law_is_so") cdv)).units + 9 < cLine := by
      have := hr.un
      omega
    refine ⟨_, (pss_cons (ps_set (i := 2) S_law_is_so.nd rfl (Or.inr rfl) (StX.pe_makeR T.k_Network (F_Network T U) (hr.mono (by decide)) (by rfl) T.g_Network pass0 (pa_cons (pe_propR (pv 0) T.c_Network T.p_Network_web (F_Network_web T) (hr.mono (by decide)) pass0) pa_nil))) (pss_cons (ps_expr (pe_methR (pv 2) T.c_Network T.m_Network_play (F_play T) (hr.mono (by decide)) pass0 (pa_cons (ClX.pe_cmeth (pe_glob (v := .ref (He.ga K "History")) (by rfl) T.g_History rfl) T.cr_History T.cm_History (F_History_of T) (hr.mono (by decide)) pass0 (pa_cons (pe_lc (own := [("_law_one", 5), ("_law_two", 6)]) rfl S_law_is_so.nd (pi_list (pv 1)) (blkOk_by (N := N_law_is_so) (sc := defScope s_law_is_so) (by decide +kernel)) (fun _ _ _ _ _ => (pg_at (K := K) (R := fun k => gTup k 2 _) (pg_tup (n := 2) (by rfl) (pgs_cons (pg_name (i := 5) S_law_is_so.nd rfl (Or.inl rfl)) (pgs_cons (pg_name (i := 6) S_law_is_so.nd rfl (Or.inl rfl)) pgs_nil))) rfl)) (fun _ _ _ _ _ => pts_nil) (fun _ _ _ _ _ => (StX.pe_makeR T.k_Frame (F_Frame2 T) (hr.mono (by decide)) (by rfl) T.g_Frame pass0 (pa_cons (pv 5) (pa_cons (pv 6) pa_nil))))) pa_nil)) pa_nil))) (pss_cons (ps_setLc (i := 3) (own := [("_law_word", 7)]) rfl S_law_is_so.nd rfl rfl (sw_true rfl rfl rfl (by decide +kernel)) (pi_tup (pe_propR (pv 0) T.c_Network T.p_Network_hosts (F_Player_hosts T) (hr.mono (by decide)) pass0)) (blkOk_by (N := N_law_is_so) (sc := defScope s_law_is_so) (by decide +kernel)) (fun _ _ _ _ _ => (pg_name (i := 7) S_law_is_so.nd rfl (Or.inl rfl))) (fun _ _ _ _ _ => pts_nil) (fun _ _ _ _ _ => (pe_lst (pa_cons (pe_methR (pv 0) T.c_Network T.m_Network_knowers (F_knowers T) (hr.mono (by decide)) pass0 (pa_cons (pv 7) pa_nil)) (pa_cons (pe_methR (pv 0) T.c_Network T.m_Network_seers (F_seers T) (hr.mono (by decide)) pass0 (pa_cons (pv 7) pa_nil)) pa_nil))))) (pss_cons (ps_setLc (i := 4) (own := [("_law_word", 7)]) rfl S_law_is_so.nd rfl rfl (sw_true rfl rfl rfl (by decide +kernel)) (pi_tup (pe_propR (pv 0) T.c_Network T.p_Network_hosts (F_Player_hosts T) (hr.mono (by decide)) pass0)) (blkOk_by (N := N_law_is_so) (sc := defScope s_law_is_so) (by decide +kernel)) (fun _ _ _ _ _ => (pg_name (i := 7) S_law_is_so.nd rfl (Or.inl rfl))) (fun _ _ _ _ _ => pts_nil) (fun _ _ _ _ _ => (pe_lst (pa_cons (pe_methR (pv 2) T.c_Network T.m_Network_knowers (F_knowers T) (hr.mono (by decide)) pass0 (pa_cons (pv 7) pa_nil)) (pa_cons (pe_methR (pv 2) T.c_Network T.m_Network_seers (F_seers T) (hr.mono (by decide)) pass0 (pa_cons (pv 7) pa_nil)) pa_nil))))) (pss_cons (ps_if (PW.pt (pw_or (pt_cmpR (op_neR (F_Player_eq T) (hr.mono (by decide)) T.m_Network_eq.at_ T.m_Network_eq.fn Z.ne Z.ob pass0) (pv 0) (pv 2) (nomark _)) (pw_or1 (pt_not (pt_val (pe_callB call_isi (by rfl) T.b_isinstance (by decide +kernel) (pa_cons (pv 0) (pa_cons (pe_glob (v := .ref (He.ga K "Player")) (by rfl) T.g_Player rfl) pa_nil)))))))) (pss_one (ps_ret pe_bl)) pss_nil) (pss_one (ps_ret (pe_and (pe_cmpR op_eq (pe_callB (call_repr hG hun) (by rfl) T.b_repr (by decide +kernel) (pa_cons (pe_propR (pv 0) T.c_Network T.p_Network_sights (F_Player_sights T) (hr.mono (by decide)) pass0) pa_nil)) (pe_callB (call_repr hG hun) (by rfl) T.b_repr (by decide +kernel) (pa_cons (pe_propR (pv 2) T.c_Network T.p_Network_sights (F_Player_sights T) (hr.mono (by decide)) pass0) pa_nil)) (nomark _)) (pe_one (pe_cmpR op_eq (pe_callB (call_repr hG hun) (by rfl) T.b_repr (by decide +kernel) (pa_cons (pv 3) pa_nil)) (pe_callB (call_repr hG hun) (by rfl) T.b_repr (by decide +kernel) (pa_cons (pv 4) pa_nil)) (nomark _))))))))))), ?_⟩
    obtain ⟨dx, w1, pH, ss, fs, os, h1, h2, h3, h4, h5, h6, h7, h8, h9, d1, d2, d3⟩ := id hN
    refine ⟨.ref a, rfl, a, dx, _, rfl, h1, a, dx, _, .ref w1, rfl, h1, rfl, fun x dz hx hdz hne => ?_⟩
    have eM : Ex H (upd (upd H dz (.own x)) x (.ins (He.ga K "Network") dz [])) := (Ex.new hdz).trans (Ex.new (by rw [upd_ne (Ne.symm hne)]; exact hx))
    refine ⟨x, dz, w1, W, rfl, upd_same, h2.mono (cut_ex.trans eM), ok, fun H1 pH1 l1 l2 l3 d e2 hx1 hp1 n1 n2 n3 t12 t13 t23 s1 s2 s3 s4 => ⟨rfl, ?_⟩⟩
    have e1 : Ex H H1 := mk_ex hx hdz e2
    have m1 : H l1 = none := Evl.fresh_back eM n1
    have m2 : H l2 = none := Evl.fresh_back eM n2
    have m3 : H l3 = none := Evl.fresh_back eM n3
    have hA1 : ∀ b ∈ [x, l1, l2, l3], H b = none := fun b hb => by
      rcases List.mem_cons.mp hb with rfl | hb
      · exact hx
      rcases List.mem_cons.mp hb with rfl | hb
      · exact m1
      rcases List.mem_cons.mp hb with rfl | hb
      · exact m2
      rcases List.mem_cons.mp hb with rfl | hb
      · exact m3
      · cases hb
    have nA1 : ∀ {Hy : Hp}, Ex H1 Hy → ∀ b ∈ [x, l1, l2, l3], (∃ xs, Hy b = some (.lst xs)) ∨ ∃ dx w p k1 k2 k3, Hy b = some (.ins (He.ga K "Network") dx (netFs w p k1 k2 k3)) := fun {Hy} e b hb => by
      rcases List.mem_cons.mp hb with rfl | hb
      · exact .inr ⟨_, _, _, _, _, _, e _ _ hx1⟩
      rcases List.mem_cons.mp hb with rfl | hb
      · exact .inl ⟨_, e _ _ s1⟩
      rcases List.mem_cons.mp hb with rfl | hb
      · exact .inl ⟨_, e _ _ s3⟩
      rcases List.mem_cons.mp hb with rfl | hb
      · exact .inl ⟨_, e _ _ s4⟩
      · cases hb
    have mu1 : ∀ {Hy : Hp}, Ex H1 Hy → Muts [x, l1, l2, l3] Hy := fun e b hb => (nA1 e b hb).imp (fun h => h) fun ⟨dx, _, _, _, _, _, h⟩ => ⟨_, dx, _, h⟩
    have cex1 : Ex (cut A H) (cut [x, l1, l2, l3] H1) := fun b o hb => by
      obtain ⟨_, h, t⟩ := cut_of hb
      refine cut_in (e1 _ _ h) (fun z => ?_) t
      rw [hA1 b z] at h
      cases h
    have net1 : NetAt K (cut [x, l1, l2, l3] H1) H1 x W [] l1 l2 l3 := ⟨dz, w1, pH1, [.ref d], [], [], hx1, h2.mono cex1, cut_in hp1 ((mu1 (Ex.refl _)).no (Ex.refl _) hp1 (fun _ z => nomatch z) fun _ _ _ z => nomatch z) (fun _ z => nomatch z), s1, .cons ⟨d, rfl, StateAt.cut (mu1 (Ex.refl _)) (Ex.refl _) s2⟩ .nil, s3, .nil, s4, .nil, t12, t13, t23⟩
    have rl : ps.length = past.length := Paired.length hT
    refine ⟨.ref x, rfl, x, dz, _, rfl, hx1, netFs_no (by decide +kernel), rfl, .ref q, rfl, q, rfl, ⟨_, .inl (.inl (e1 _ _ hq))⟩, fun D hD => lcW (walk_list (xs := ps)) hD (fun i acc H' => FrsAt K H' acc (past.take i)) (by omega) .nil (fun H' e => .inl (.inl (e _ _ (e1 _ _ hq)))) ?_ ?_⟩
    · intro i acc Hi Ha hi r ea eb C C0 hC hC0 v Hb ⟨hz, hv⟩
      subst hz
      obtain ⟨f, hf, p, rfl, hp⟩ := paired_at hT hv
      have hfo := hF f (List.mem_of_getElem? hf)
      have eab := ea.trans eb
      have et : past.take (i + 1) = past.take i ++ [f] := by rw [List.take_add_one, hf] <;> rfl
      refine ⟨p, _, rfl, .inl (.inl (eab _ _ (e1 _ _ hp))), rfl, _, _, rfl, _, _, rfl, rfl, rfl, yes ⟨.str f.1, rfl, oV f.2, rfl, fun y dy hy hdy ny => ⟨y, dy, f.1, f.2, rfl, upd_same, hfo.frame ok.nm, fun H5 e5 fr5 => ⟨rfl, hC (.ref y) H5 (mk_ex hy hdy e5) fun H6 kp => ?_⟩⟩⟩⟩
      rw [et]
      obtain ⟨dxf, hfx⟩ := fr5
      exact paired_snoc (FrsAt.mono r (kp.ex eb (mk_ex hy hdy e5))) ⟨y, rfl, dxf, kp.tame hfx ⟨fun _ z => (nomatch z), fun _ z => (nomatch z)⟩⟩
    intro acc H' _ r e' _ H2 e2' h2'
    rw [rl, List.take_length] at r
    have e12 : Ex H1 H2 := e'.trans e2'
    refine ⟨_, D, acc, past, rfl, h2', r.mono e2', by omega, fun h H3 nh e3 hh => ?_⟩
    have e13 := e12.trans e3
    refine ⟨[x, l1, l2, l3], x, h, W, past, l1, l2, l3, rfl, net1.mono (cut_mono e13) (fun b _ o z => e13 b o z), mu1 e13, by simp, by simp, by simp, by simp, ok, HistAt.cut (nA1 e13) hh, fun g hg => ⟨(hF g hg).1, fun t e => ((hF g hg).2 t e).1⟩, by omega, fun v H4 fr4 net4 => ?_⟩
    have e4 : Ex H H4 := fun b o hb => fr4 b o (e13 _ _ (e1 _ _ hb)) (fun z => by rw [z, m1] at hb; cases hb) (fun z => by rw [z, m2] at hb; cases hb) (fun z => by rw [z, m3] at hb; cases hb)
    have neta : NetAt K H4 H4 a W past ls lt lo := hN.mono (cut_ex.trans e4) fun b _ o z => e4 b o z
    have netx : NetAt K H4 H4 x W past l1 l2 l3 := net4.mono cut_ex fun b _ o z => z
    have a4 := e4 _ _ h1
    have x4 := fr4 _ _ (e13 _ _ hx1) (ne_of hx1 s1 (fun z => nomatch z)) (ne_of hx1 s3 (fun z => nomatch z)) (ne_of hx1 s4 (fun z => nomatch z))
    clear net4 net1 hN
    obtain ⟨dx2, w2, pH2, ss2, fs2, os2, b1, b2, b3, b4, b5, b6, b7, b8, b9, _⟩ := id neta
    obtain ⟨dx3, w3, pH3, ss3, fs3, os3, c1, c2, c3, c4, c5, c6, c7, c8, c9, _⟩ := id netx
    clear h1 h2 h3 h4 h5 h6 h7 h8 h9 d1 d2 d3
    have hh31 := ok.few
    have w12 : w2 = w1 ∧ w3 = w1 := by
      rw [a4] at b1
      rw [x4] at c1
      injection b1 with z1
      injection z1 with _ _ z1
      injection c1 with z2
      injection z2 with _ _ z2
      exact ⟨(netFs_inj z1).symm, (netFs_inj z2).symm⟩
    obtain ⟨rfl, rfl⟩ := w12
    refine ⟨.ref a, rfl, a, dx2, _, rfl, b1, a, dx2, _, .ref pH2, rfl, b1, rfl, pH2, rfl, ⟨_, .inl (.inl b3)⟩, fun D5 hD5 => lcW (walk_tup (xs := txs W.hs)) hD5 (fun i acc H' => DatAs H' acc ((W.hs.take i).map (knD W past))) (by rw [txs_len]; omega) .nil (fun H' e => .inl (.inl (e _ _ b3))) ?_ ?_⟩
    · intro i acc Hi Ha hi r ea eb C C0 hC hC0 v Hb ⟨hz, hv⟩
      subst hz
      obtain ⟨h, hh, rfl⟩ := txs_get hv
      have hm : h ∈ W.hs := List.mem_of_getElem? hh
      have et : W.hs.take (i + 1) = W.hs.take i ++ [h] := by rw [List.take_add_one, hh] <;> rfl
      have eab := ea.trans eb
      refine ⟨rfl, yes ⟨.ref a, rfl, a, dx2, _, rfl, eab _ _ b1, netFs_no (by decide +kernel), .str h, rfl, a, W, past, ls, lt, lo, h, rfl, neta.ex (Ex.refl _) eab, ok, hm, fun g1 Hc ng1 ec hg1 => ?_⟩⟩
      have eac := eab.trans ec
      refine ⟨.ref a, rfl, a, dx2, _, rfl, eac _ _ b1, netFs_no (by decide +kernel), .str h, rfl, a, W, past, ls, lt, lo, h, rfl, neta.ex (Ex.refl _) eac, ok, hm, by omega, fun g2 Hd ng2 ed hg2 => ⟨Evl.sz_of (by show 2 ≤ 100000; decide), fun l hl => ?_⟩⟩
      have ead : Ex Hb (upd Hd l (.lst [.ref g1, .ref g2])) := (ec.trans ed).trans (Ex.new hl)
      have nl : Hb l = none := Evl.fresh_back (ec.trans ed) hl
      refine hC (.ref l) _ ead fun H6 kp => ?_
      rw [et, List.map_append]
      have tm : ∀ (xs : List V), Tame (.tup xs) := fun xs => ⟨fun _ z => (nomatch z), fun _ z => (nomatch z)⟩
      exact (DatAs.mono (kp.ex eb ead) r).snoc (.lst (kp.new upd_same nl) (.cons (.tup (kp.tame ((Ex.new hl) _ _ (ed _ _ hg1)) (tm _)) (dat_ints _)) (.cons (.tup (kp.tame ((Ex.new hl) _ _ hg2) (tm _)) (dat_txs _)) .nil)))
    intro acc5 H5' _ r5 e5' _ H5 e5 h5
    rw [txs_len, List.take_length] at r5
    have e45 := e5'.trans e5
    have r5 := DatAs.mono e5 r5
    refine ⟨.ref a, rfl, a, dx2, _, rfl, e45 _ _ b1, a, dx2, _, .ref pH2, rfl, e45 _ _ b1, rfl, pH2, rfl, ⟨_, .inl (.inl (e45 _ _ b3))⟩, fun D6 hD6 => lcW (walk_tup (xs := txs W.hs)) hD6 (fun i acc H' => DatAs H' acc ((W.hs.take i).map (knD W past))) (by rw [txs_len]; omega) .nil (fun H' e => .inl (.inl (e _ _ (e45 _ _ b3)))) ?_ ?_⟩
    · intro i acc Hi Ha hi r ea eb C C0 hC hC0 v Hb ⟨hz, hv⟩
      subst hz
      obtain ⟨h, hh, rfl⟩ := txs_get hv
      have hm : h ∈ W.hs := List.mem_of_getElem? hh
      have et : W.hs.take (i + 1) = W.hs.take i ++ [h] := by rw [List.take_add_one, hh] <;> rfl
      have eab := e45.trans (ea.trans eb)
      refine ⟨rfl, yes ⟨.ref x, rfl, x, dx3, _, rfl, eab _ _ c1, netFs_no (by decide +kernel), .str h, rfl, x, W, past, l1, l2, l3, h, rfl, netx.ex (Ex.refl _) eab, ok, hm, fun g1 Hc ng1 ec hg1 => ?_⟩⟩
      have eac := eab.trans ec
      refine ⟨.ref x, rfl, x, dx3, _, rfl, eac _ _ c1, netFs_no (by decide +kernel), .str h, rfl, x, W, past, l1, l2, l3, h, rfl, netx.ex (Ex.refl _) eac, ok, hm, by omega, fun g2 Hd ng2 ed hg2 => ⟨Evl.sz_of (by show 2 ≤ 100000; decide), fun l hl => ?_⟩⟩
      have ead : Ex Hb (upd Hd l (.lst [.ref g1, .ref g2])) := (ec.trans ed).trans (Ex.new hl)
      have nl : Hb l = none := Evl.fresh_back (ec.trans ed) hl
      refine hC (.ref l) _ ead fun H6 kp => ?_
      rw [et, List.map_append]
      have tm : ∀ (xs : List V), Tame (.tup xs) := fun xs => ⟨fun _ z => (nomatch z), fun _ z => (nomatch z)⟩
      exact (DatAs.mono (kp.ex eb ead) r).snoc (.lst (kp.new upd_same nl) (.cons (.tup (kp.tame ((Ex.new hl) _ _ (ed _ _ hg1)) (tm _)) (dat_ints _)) (.cons (.tup (kp.tame ((Ex.new hl) _ _ hg2) (tm _)) (dat_txs _)) .nil)))
    intro acc6 H6' _ r6 e6' _ H6 e6 h6
    rw [txs_len, List.take_length] at r6
    have e56 := e6'.trans e6
    have r6 := DatAs.mono e6 r6
    have e46 := e45.trans e56
    have sok : Shows (.list (W.hs.map (knD W past))) := by
      have one : ∀ d ∈ W.hs.map (knD W past), Sz d 2 902 := fun d hd => by
        obtain ⟨h, hh, rfl⟩ := List.mem_map.mp hd
        have k1 : Sz (.tuple ((knownBy W (SfM.memFrom W.wb mem0 past) h).map PyData.int)) 1 450 := by
          refine (sz_tup (a := 0) (b := 8) fun d hd => ?_).le (Nat.le_refl _) ?_
          · obtain ⟨i, hi, rfl⟩ := List.mem_map.mp hd
            have := ok.sw i (List.mem_filter.mp hi).1
            exact sz_int this.1 this.2
          · rw [List.length_map]
            have := List.length_filter_le (fun s => (((SfM.memFrom W.wb mem0 past) h).lookup s).isSome) W.S
            have := ok.fewS
            unfold knownBy
            omega
        have k2 : Sz (.tuple ((seersOf W past h).map PyData.str)) 1 450 := by
          refine (sz_tup (a := 0) (b := 8) fun d hd => ?_).le (Nat.le_refl _) ?_
          · obtain ⟨i, hi, rfl⟩ := List.mem_map.mp hd
            exact sz_str (ok.nm i (List.mem_filter.mp hi).1)
          · rw [List.length_map]
            have := List.length_filter_le (fun x => decide (x ∈ seenBy h past (SfM.sightsFrom W.wb mem0 past))) W.hs
            unfold seersOf
            omega
        refine (sz_lst (a := 1) (b := 450) fun d hd => ?_).le (Nat.le_refl _) (by show 2 * 451 ≤ 902; decide)
        rcases List.mem_cons.mp hd with rfl | hd
        · exact k1
        rcases List.mem_cons.mp hd with rfl | hd
        · exact k2
        · cases hd
      exact (sz_lst one).shows (by decide) (by rw [List.length_map]; omega)
    have sis : Shows (siD W past) := by
      have one : ∀ d ∈ (SfM.sightsFrom W.wb mem0 past).map (fun s => PyData.tuple (s.map PyData.str)), Sz d 1 279 := fun d hd => by
        obtain ⟨s, hs, rfl⟩ := List.mem_map.mp hd
        obtain ⟨q1, q2⟩ := sights_in W past mem0 s hs
        refine (sz_tup (a := 0) (b := 8) fun d hd => ?_).le (Nat.le_refl _) (by rw [List.length_map]; omega)
        obtain ⟨i, hi, rfl⟩ := List.mem_map.mp hd
        exact sz_str (ok.nm i (q1 i hi))
      refine (sz_tup one).shows (by decide) ?_
      rw [List.length_map, SfM.sightsFrom_len]
      omega
    refine ⟨.ref a, rfl, .ref x, rfl, ⟨a, x, dx2, dx3, _, _, rfl, rfl, e46 _ _ b1, e46 _ _ c1, dx2, dx3, _, _, _, _, _, _, _, _, _, W, past, fs2, fs3, e46 _ _ b1, e46 _ _ c1, b2.mono e46, e46 _ _ b6, b7.mono e46, e46 _ _ c6, c7.mono e46⟩, fun H7 e7 => ⟨false, rfl, iteF ?_⟩⟩
    have e47 : Ex H4 H7 := e46.trans e7
    refine ⟨.ref a, rfl, .ref a, .ref (He.ga K "Player"), .ref (He.ga K "Network"), .ref (He.ga K "Player"), true, rfl, .own _, ty_ins (e47 _ _ b1) T.c_Network T.q_Network, T.is_Network_Player, true, rfl, iteF ?_⟩
    refine ⟨.ref a, rfl, a, dx2, _, rfl, e47 _ _ b1, a, W, past, ls, lt, lo, os2, rfl, neta.ex (Ex.refl _) e47, e47 _ _ b8, by omega, fun p8 H8 _ e8 hp8 => ⟨p8, siD W past, rfl, .tup hp8 (dat_sights ((Paired.mapP b9 fun v s ⟨g, q1, q2⟩ => ⟨g, q1, e8 _ _ (e47 _ _ q2)⟩))), sis, ?_⟩⟩
    have e48 := e47.trans e8
    refine ⟨.ref x, rfl, x, dx3, _, rfl, e48 _ _ c1, x, W, past, l1, l2, l3, os3, rfl, netx.ex (Ex.refl _) e48, e48 _ _ c8, by omega, fun p9 H9 _ e9 hp9 => ⟨p9, siD W past, rfl, .tup hp9 (dat_sights ((Paired.mapP c9 fun v s ⟨g, q1, q2⟩ => ⟨g, q1, e9 _ _ (e48 _ _ q2)⟩))), sis, rfl, ?_⟩⟩
    have e49 := e48.trans e9
    have e69 : Ex H6 H9 := e7.trans (e8.trans e9)
    refine ⟨true, by rw [decide_eq_true rfl], iteT ?_⟩
    refine ⟨.ref D5, rfl, D5, _, rfl, .lst (e69 _ _ (e56 _ _ h5)) (DatAs.mono (e56.trans e69) r5), sok, .ref D6, rfl, D6, _, rfl, .lst (e69 _ _ h6) (DatAs.mono e69 r6), sok, rfl, ?_⟩
    rw [decide_eq_true rfl]
    exact k H9 (e4.trans e49)
end
end SfW
namespace SfW
open PySem PySem.Spec PyProof.Rows
open L2 hiding del del_ne del_same
open LamX (CodeO TabS Tabs ExtN TabB lamEnv lam_make2)
/-! net.tried(lambda same: ..), net.tried(work=lambda same: ..) -/
/-- the lambda of one parameter p, as it stands in the text -/
structure LamE (X : Cx) (p : Str) (params : Arguments) (body : Expr) (scope : Scope) : Prop where
  sc : LamS1 p X.env.scope scope
  np : p ∉ X.N
  dfl : defaultsOf params X.env = ([], [])
  bnd : ∀ (u : Value) (q : Str) (cl : List (Str × Addr)) (pm cv ctv : Value), bindArgs (PySem.W.kla_fn "<lambda>" q params body scope cl pm cv ctv) ⟨[u], []⟩ = pure [(p, u)]
/-- what is known of the maker's table of codes -/
structure LamT (X : Cx) (Tb : List (Addr × Str)) (c P : Addr) : Prop where
  tb : TabB X.base X.mg c P
  code : X.env.code = .ref c
  mem : (P, X.env.qual ++ "<lambda>") ∈ Tb
  uq : ∀ p ∈ Tb, p.1 = P → p.2 = X.env.qual ++ "<lambda>"
def tTriedL (K : PySem.W.Frag) (Tb : List (Addr × Str)) (q : Str) (W : WX) (ta : TE) (tb : XK → TE) : TE := fun σ H Q => ta σ H fun x H1 => ∃ a dx fs, x = .ref a ∧ H1 a = some (.ins (He.ga K "Network") dx fs) ∧ fs.lookup ("tried" : Str) = none ∧ Tabs Tb H1 ∧
  ∀ c' H2, ExtN H1 H2 → Tabs Tb H2 → H2 c' = some (CodeO c' q) → spTriedK K (spLam c' q tb σ) a H2 Q fun cls d H' => W cls d σ H'
section
variable {X : Cx} {k : Nat} {Tb : List (Addr × Str)} {c P : Addr} {W : WX} {ta : TE} {tb : XK → TE} {o : Expr} {p : Str} {params : Arguments} {body : Expr} {scope : Scope} {lpos apos pos kpos : Pos} {pl : Sem Bool}
theorem pe_triedL (T : TX X.K X.mg) (he : PE X o ta) (hG : X.A.guards = some []) (hr : Room (k + 4) X.A) (tk : Takes X W) (L : LamE X p params body scope) (LT : LamT X Tb c P)
    (hbody : ∀ (A : Around) (outer : List Env) (s : Shared) (H : Hp) (E : XK) (f c' : Addr), A.guards = some [] → Room (k + 2) (A.deeper (lamEnv X scope s.heap.objs.size f c')) → PE (lamCx1 p X A outer s H E scope f c') body (tb E))
    (ht : eval (.Call (.Attribute o "tried" apos) [.Lambda params body scope lpos] [] pos) X.env = (do
      let ov ← eval o X.env
      standAt apos.atName
      let (f, first) ← holding [ov] (getMethod ov "tried" pl)
      callWith pos f first (backTo pos (starEach [.Lambda params body scope lpos] X.env)) (backToKw pos (keywordEach [] X.env))) := by rfl) :
    PE X (.Call (.Attribute o "tried" apos) [.Lambda params body scope lpos] [] pos) (tTriedL X.K Tb (X.env.qual ++ "<lambda>") W ta tb) := by
  refine ⟨fun pins s σ H Q I h => ?_⟩
  refine PySem.W.methodCall_KW (pl := pl) (thn (he.run pins s σ H _ I h) fun u s1 ⟨x, H1, I1, rx, a, dx, fs, ex, ea, l, hT, q⟩ => ?_) ht
  subst ex
  obtain rfl : u = Value.ref a := rx
  refine getmeth_ok I1 ea T.c_Network T.m_Network_tried l ?_
  refine PySem.W.callWith_K (first := [.ref a]) (h₀ := X.base) I.ok.mod.kin T.m_Network_tried.kp ?_ (by rfl) (by rfl)
  show wpAny _ _ (spliced ((false, eval (.Lambda params body scope lpos) X.env) :: backTo pos (starEach [] X.env))) _ _ s1
  refine Calls.spliced_cons (lam_make2 I1 LT.tb LT.code LT.mem LT.uq hT L.dfl (L.sc.has I1.ok) fun f c' pm' ctv H2 s' I2 eN T1 hf hfn hfr hco => ?_)
  refine Calls.spliced_nil ⟨I2.kIn, wpAny_call ?_⟩
  refine codeAny_mono (F_tried T k X.A X.stack s' H2 [.ref a, .ref f] [.ref a, .ref f] Q _ hG hr I2.env0 (.cons rfl (.cons rfl .nil)) ⟨a, f, _, rfl, lam_ok I2 L.sc L.np hf hfn hfr L.bnd hbody, q c' H2 eN T1 hco⟩) fun r s3 hq => ?_
  cases r with
  | ok fl =>
    cases fl with
    | ret u => exact I2.after hq
    | next => exact hq.elim
    | brk => exact hq.elim
    | cont => exact hq.elim
  | error e => exact tk e s3 (XE.of_call I2 (fun _ _ _ h => h) hq)
theorem pe_triedK (T : TX X.K X.mg) (he : PE X o ta) (hG : X.A.guards = some []) (hr : Room (k + 4) X.A) (tk : Takes X W) (L : LamE X p params body scope) (LT : LamT X Tb c P)
    (hbody : ∀ (A : Around) (outer : List Env) (s : Shared) (H : Hp) (E : XK) (f c' : Addr), A.guards = some [] → Room (k + 2) (A.deeper (lamEnv X scope s.heap.objs.size f c')) → PE (lamCx1 p X A outer s H E scope f c') body (tb E))
    (ht : eval (.Call (.Attribute o "tried" apos) [] [⟨some "work", .Lambda params body scope lpos, kpos⟩] pos) X.env = (do
      let ov ← eval o X.env
      standAt apos.atName
      let (f, first) ← holding [ov] (getMethod ov "tried" pl)
      callWith pos f first (backTo pos (starEach [] X.env)) (backToKw pos (keywordEach [⟨some "work", .Lambda params body scope lpos, kpos⟩] X.env))) := by rfl) :
    PE X (.Call (.Attribute o "tried" apos) [] [⟨some "work", .Lambda params body scope lpos, kpos⟩] pos) (tTriedL X.K Tb (X.env.qual ++ "<lambda>") W ta tb) := by
  refine ⟨fun pins s σ H Q I h => ?_⟩
  refine PySem.W.methodCall_KW (pl := pl) (thn (he.run pins s σ H _ I h) fun u s1 ⟨x, H1, I1, rx, a, dx, fs, ex, ea, l, hT, q⟩ => ?_) ht
  subst ex
  obtain rfl : u = Value.ref a := rx
  refine getmeth_ok I1 ea T.c_Network T.m_Network_tried l ?_
  refine PySem.W.callWith_KW0 (first := [.ref a]) (h₀ := X.base) I.ok.mod.kin T.m_Network_tried.kp (by rfl) ?_ (by rfl)
  refine wpAny_evalAll_cons (wpAny_bind (lam_make2 I1 LT.tb LT.code LT.mem LT.uq hT L.dfl (L.sc.has I1.ok) fun f c' pm' ctv H2 s' I2 eN T1 hf hfn hfr hco => wpAny_bind (wpAny_standAt (wpAny_pure ?_))))
  refine wpAny_evalAll_nil ⟨I2.kIn, wpAny_call ?_⟩
  refine codeAny_mono (F_triedK T k X.A X.stack s' H2 (.ref a) (.ref f) [.ref a, .ref f] Q _ hG hr I2.env0 (.cons rfl (.cons rfl .nil)) ⟨a, f, _, rfl, lam_ok I2 L.sc L.np hf hfn hfr L.bnd hbody, q c' H2 eN T1 hco⟩) fun r s3 hq => ?_
  cases r with
  | ok fl =>
    cases fl with
    | ret u => exact I2.after hq
    | next => exact hq.elim
    | brk => exact hq.elim
    | cont => exact hq.elim
  | error e => exact tk e s3 (XE.of_call I2 (fun _ _ _ h => h) hq)
end
/-! ### try with two clauses -/
section
variable {X : Cx} {x n x2 : Str} {c c2 : Value} {i : Nat} {body suite suite2 : List Stmt} {b₀ b₂ : Stmt} {np np2 pos pos' pos2 : Pos} {tb : WX → TS} {ts ts2 : Addr → Value → Option Addr → TS} {Wout : WX}
/-- try: body; except x as n: suite; except x2: suite2 -/
theorem ps_try2 (hs : X.stack = X.env :: X.outer) (hf : X.env.frame = some X.env.locals) (hN : X.N.Nodup) (hi : X.N[i]? = some n) (hln : X.env.kindOf n = some .local) (hc : Names X x c) (hc2 : Names X x2 c2) (tk : Takes X Wout)
    (hb : ∀ (W : WX) (pn : List (Addr × Obj)) (xe : Value → Shared → Prop), Takes (X.tr pn xe) W → PassesOwn (model X.prog X.w) X.A X.env xe → PSs (X.tr pn xe) body (tb W))
    (hsu : ∀ (a : Addr) (oe : Obj) (cls : Value) (d : Option Addr) (pn : List (Addr × Obj)), Zc cls d oe → (∃ vs, oe.data = .fields vs) → PSs (X.suite a ((a, oe) :: pn)) (b₀ :: suite) (ts a cls d))
    (hsu2 : ∀ (a : Addr) (oe : Obj) (cls : Value) (d : Option Addr) (pn : List (Addr × Obj)), Zc cls d oe → (∃ vs, oe.data = .fields vs) → PSs (X.suite a ((a, oe) :: pn)) (b₂ :: suite2) (ts2 a cls d)) :
    PS X (.Try body [.ExceptHandler (some (.Name x np)) (some n) (b₀ :: suite) pos', .ExceptHandler (some (.Name x2 np2)) none (b₂ :: suite2) pos2] [] [] pos) (fun D σ H => tb (wAs X.K c i ts (wMany X.K Wout D [(c2, ts2)]) D) D σ H) := by
  refine ⟨fun pins s σ H D I h => ?_⟩
  have ok := I.ok
  have hfr : X.A.frames = some (X.env :: X.outer) := by rw [ok.frames, hs]
  have hloc : Loc X.env.scope n := .inl hln
  refine wpAny_Try_except ?_
  refine wpAny_mono ((hb (wAs X.K c i ts (wMany X.K Wout D [(c2, ts2)]) D) (X.pn ++ pins) (fun e s₁ => wpAny (model X.prog X.w) X.A (noteFrame e X.env) (fun _ s₂ => wpAny (model X.prog X.w) X.A (setFlight e none) (fun _ s₃ =>
    wpAny (model X.prog X.w) X.A (handleBy e X.env [.ExceptHandler (some (.Name x np)) (some n) (b₀ :: suite) pos', .ExceptHandler (some (.Name x2 np2)) none (b₂ :: suite2) pos2]) (SP X pins D) X.xe s₃) X.xe s₂) X.xe s₁) (fun u s' xx => ?_) PassesOwn.looking).run [] s σ H D (I.toTry _) h) (fun f s1 hsp => ?_) (fun e s1 he => he)
  · obtain ⟨a, B, sI, pins', σ', H', cls, d, rfl, J', nb, up, sky, na, os, ag, b, hb1, hyes, hno⟩ := xx
    have J : Inv X pins σ' H' sI := J'.ofTry ok
    have sky' : Sky B (X.env :: X.outer) a (Zc cls d) X.env.locals s'.heap := by rw [← hs]; exact sky
    show wpAny (model X.prog X.w) X.A (noteFrame (.ref a) X.env) _ _ (_ : Shared)
    refine Sky.land Zc.steady hfr hf sky' fun h3 fl3 up3 => ?_
    have J3 : Inv X pins σ' H' { s' with heap := h3 } := J.landed nb fl3.1 (up.trans up3) os ag
    obtain ⟨oe3, vs3, he3, hz3, hd3⟩ := fl3.there
    have nfr : a ∉ frs (X.env :: X.outer) := fun hm => by
      obtain ⟨_, o', e', hnf⟩ := fl3.2.2.1.mem hm
      rw [he3] at e'
      cases e'
      exact hnf _ hd3
    have nL : a ≠ X.env.locals := fun z => nfr (List.mem_filterMap.mpr ⟨X.env, List.mem_cons_self, by rw [hf, z]⟩)
    have nF : a ∉ X.fs := fun hm => by
      obtain ⟨e, he, q⟩ := List.mem_filterMap.mp hm
      exact nfr (List.mem_filterMap.mpr ⟨e, List.mem_cons_of_mem _ he, q⟩)
    have S3 := J3.suite he3 hd3 na nL nF
    have LT : PySem.W.Looks (model X.prog X.w) h3 (typeOf (.ref a)) cls := fun A Q E s k q => wpAny_typeOf_ref (k _ _ he3) (by rw [hz3.1]; exact q)
    have test : ∀ {y : Str} {cy : Value} {py : Pos} {Q : Value → Shared → Prop} {E : Value → Shared → Prop}, Names X y cy → Q cy { s' with heap := h3 } → wpAny (model X.prog X.w) (X.A.mark (some (.ref a))) (eval (.Name y py) X.env) Q E { s' with heap := h3 } := fun {y cy py Q E} hcy q => by
      obtain ⟨hg, hdbg, hm | ⟨hm, hv, hnn⟩⟩ := hcy
      · exact ld_glob (X := X.suite a ((a, oe3) :: (X.pn ++ pins))) S3 hg hm q hdbg
      · exact ld_blt (X := X.suite a ((a, oe3) :: (X.pn ++ pins))) S3 hg hm hv q hnn hdbg
    have onw : Wout cls d σ' H' → wpAny (model X.prog X.w) X.A (handleBy (.ref a) X.env []) (SP X pins D) X.xe { s' with heap := h3 } := fun w => by
      refine wpAny_handleBy_nil ?_
      obtain ⟨k1, k2, k3, oe, vs, T, oT, ts', he, hz, hd, h1, hr⟩ := id fl3
      unfold PySem.passOn
      refine wpAny_bind (wpAny_field he hd h1 ?_)
      rw [if_neg (show ¬ ((Value.ref T == Value.none) = true) from by simp)]
      have fin : wpAny (model X.prog X.w) X.A (setFlight (.ref a) X.env.frame) (fun _ s4 => wpAny (model X.prog X.w) X.A (throw (.ref a) : Sem Flow) (SP X pins D) X.xe s4) X.xe { s' with heap := h3 } := by
        rw [hf]
        refine HandSPX.setFlight_upZ fl3 fun h4 hh4 up4 => wpAny_throw (tk _ _ ?_)
        exact ⟨a, B, sI, pins, σ', H', cls, d, rfl, J, nb, (up.trans up3).trans up4, .inr (.inr (by rw [hs]; exact hh4)), na, os, ag, w⟩
      first
        | exact wpAny_bind (wpAny_pure (wpAny_bind fin))
        | exact wpAny_bind fin
    have land : ∀ {R : Shared → Prop}, (∀ h4 oe4, h4.get? a = some oe4 → Zc cls d oe4 → (∃ vs, oe4.data = .fields vs) → Inv (X.suite a ((a, oe4) :: (X.pn ++ pins))) [] σ' H' { s' with heap := h4 } → R { s' with heap := h4 }) → ∀ h4, HandSPX.FlyingZ B (X.env :: X.outer) a (Zc cls d) h4 → h3.UpToSlots h4 → R { s' with heap := h4 } := fun {R} g h4 fl4 up4 => by
      have J4 : Inv X pins σ' H' { s' with heap := h4 } := J.landed nb fl4.1 ((up.trans up3).trans up4) os ag
      obtain ⟨oe4, vs4, he4, hz4, hd4⟩ := fl4.there
      exact g h4 oe4 he4 hz4 ⟨_, hd4⟩ (J4.suite he4 hd4 na nL nF)
    refine wpAny_handleBy_cons (codeAny_handlers_test ?_) (by intro q; cases q)
    have LM := PySem.W.exm_one (M := model X.prog X.w) (J3.kIn) LT hb1
    refine test hc (LM.here ?_)
    cases b with
    | true =>
      refine codeAny_handlers_suite_as (HandSPX.lands_againZ fl3 fun h4 fl4 up4 => ?_)
      refine land (R := fun s4 => _) (fun h4 oe4 he4 hz4 hd4 S4 => ?_) h4 fl4 up4
      refine store_ok (X := X.suite a ((a, oe4) :: (X.pn ++ pins))) (v := .ref a) S4 hN hi hloc rfl (fun s5 S5 => ?_) (.inr hln)
      refine wpAny_mono ((hsu a oe4 cls d (X.pn ++ pins) hz4 hd4).run [] s5 _ H' _ S5 (hyes rfl a na)) (fun f s6 hsp => ?_) (fun _ _ z => False.elim z)
      have end_ : ∀ {σ6 : L2.St} {H6 : Hp} {Q : Shared → Prop}, Inv (X.suite a ((a, oe4) :: (X.pn ++ pins))) [] σ6 H6 s6 → (∀ s7, Inv X pins (σ6.set i none) H6 s7 → Q s7) →
          wpAny (model X.prog X.w) X.A (do bindName X.env n .none; unbindBehindTheSuite X.env n pos') (fun _ s7 => Q s7) X.xe s6 := fun {σ6 H6 Q} S6 hq => gone_ok (S6.unsuite ok) hN hi hln hq
      cases f with
      | next =>
        obtain ⟨σ6, H6, S6, q6⟩ := hsp
        exact end_ S6 fun s7 J7 => ⟨_, _, J7, q6⟩
      | brk =>
        obtain ⟨σ6, H6, S6, q6⟩ := hsp
        exact end_ S6 fun s7 J7 => ⟨_, _, J7, q6⟩
      | cont =>
        obtain ⟨σ6, H6, S6, q6⟩ := hsp
        exact end_ S6 fun s7 J7 => ⟨_, _, J7, q6⟩
      | ret u =>
        obtain ⟨v6, σ6, H6, S6, r6, q6⟩ := hsp
        exact end_ S6 fun s7 J7 => ⟨_, _, _, J7, r6, q6⟩
    | false =>
      obtain ⟨b2, hb2, hy2, hn2⟩ := hno rfl
      show wpAny (model X.prog X.w) X.A (handleBy (.ref a) X.env [.ExceptHandler (some (.Name x2 np2)) none (b₂ :: suite2) pos2]) (SP X pins D) X.xe { s' with heap := h3 }
      refine wpAny_handleBy_cons (codeAny_handlers_test ?_) (by intro q; cases q)
      have LM2 := PySem.W.exm_one (M := model X.prog X.w) (J3.kIn) LT hb2
      refine test hc2 (LM2.here ?_)
      cases b2 with
      | true =>
        refine codeAny_handlers_suite (HandSPX.lands_againZ fl3 fun h4 fl4 up4 => ?_)
        refine land (R := fun s4 => _) (fun h4 oe4 he4 hz4 hd4 S4 => ?_) h4 fl4 up4
        refine wpAny_mono ((hsu2 a oe4 cls d (X.pn ++ pins) hz4 hd4).run [] _ _ H' _ S4 (hy2 rfl a na)) (fun f s6 hsp => ?_) (fun _ _ z => False.elim z)
        cases f with
        | next =>
          obtain ⟨σ6, H6, S6, q6⟩ := hsp
          exact ⟨_, _, S6.unsuite ok, q6⟩
        | brk =>
          obtain ⟨σ6, H6, S6, q6⟩ := hsp
          exact ⟨_, _, S6.unsuite ok, q6⟩
        | cont =>
          obtain ⟨σ6, H6, S6, q6⟩ := hsp
          exact ⟨_, _, S6.unsuite ok, q6⟩
        | ret u =>
          obtain ⟨v6, σ6, H6, S6, r6, q6⟩ := hsp
          exact ⟨_, _, _, S6.unsuite ok, r6, q6⟩
      | false => exact onw (hn2 rfl)
  · cases f with
    | next =>
      obtain ⟨σ', H', J', q⟩ := hsp
      exact wpAny_execs_nil ⟨σ', H', J'.ofTry ok, q⟩
    | brk =>
      obtain ⟨σ', H', J', q⟩ := hsp
      exact ⟨σ', H', J'.ofTry ok, q⟩
    | cont =>
      obtain ⟨σ', H', J', q⟩ := hsp
      exact ⟨σ', H', J'.ofTry ok, q⟩
    | ret u =>
      obtain ⟨v, σ', H', J', r, q⟩ := hsp
      exact ⟨v, σ', H', J'.ofTry ok, r, q⟩
end
end SfW
namespace SfW
open PySem PySem.Spec PyProof.Rows
open L2 hiding del del_ne del_same
open Evl (Ex RetV)
open LamX (CodeO TabS Tabs ExtN TabB)
/-! the law's steps -/
variable {P : Program} {w : World} {K : PySem.W.Frag} {mg : Str → Option Value} {bs : Heap}
theorem tabs_keep {T : List (Addr × Str)} {H H' : Hp} (t : Tabs T H) (e : ∀ b o, H b = some o → (∀ xs, o ≠ .lst xs) → (∀ C dx fs, o ≠ .ins C dx fs) → H' b = some o) : Tabs T H' := fun p hp => by
  obtain ⟨ps, h1, h2, h3⟩ := t p hp
  refine ⟨ps, e _ _ h1 (fun _ z => nomatch z) (fun _ _ _ z => nomatch z), h2, fun pos cv hc => ?_⟩
  obtain ⟨c, e1, e2⟩ := h3 pos cv hc
  refine ⟨c, e1, e _ _ e2 (fun _ z => ?_) (fun _ _ _ z => ?_)⟩
  · unfold CodeO at z
    cases z
  · unfold CodeO at z
    cases z
/-- what stands aside from A stands, and aside from A' -/
def Mw (A : List Addr) (H : Hp) (A' : List Addr) (H' : Hp) : Prop := ∀ b o, H b = some o → b ∉ A → (∀ ps, o ≠ .tbl ps) → H' b = some o ∧ b ∉ A'
theorem Mw.trans {A A1 A2 : List Addr} {H H1 H2 : Hp} (m : Mw A H A1 H1) (k : Mw A1 H1 A2 H2) : Mw A H A2 H2 := fun b o h nb t => let ⟨h1, n1⟩ := m b o h nb t; k b o h1 n1 t
theorem Mw.ex {A : List Addr} {H H1 : Hp} (e : Ex H H1) : Mw A H A H1 := fun b o h nb _ => ⟨e _ _ h, nb⟩
/-- the law's state: the pen, its list of what was sent, the network -/
structure LS (K : PySem.W.Frag) (Tb : List (Addr × Str)) (G H : Hp) (pen q a ls lt lo : Addr) (B : List Addr) (W : WD) (past : List Fr) (n : Nat) : Prop where
  net : NetAt K (cut ([pen, q, a, ls, lt, lo] ++ B) H) H a W past ls lt lo
  pst : ∃ ps, H q = some (.lst ps) ∧ TusAt H ps past
  pn : PenAt G H pen n
  nd : [pen, q, a, ls, lt, lo].Nodup
  gx : Ex G H
  ga : ∀ b ∈ [pen, q, a, ls, lt, lo], G b = none
  gt : ∀ b ps, G b ≠ some (.tbl ps)
  tb : Tabs Tb H
  mb : Muts B H
  db : ∀ b ∈ B, b ∉ [pen, q, a, ls, lt, lo]
  gb : ∀ b ∈ B, G b = none
  no : ("nobody" : Str) ∉ W.hs
section
variable {Tb : List (Addr × Str)} {G H H2 : Hp} {pen q a ls lt lo : Addr} {B : List Addr} {W : WD} {past : List Fr} {n m : Nat}
theorem LS.ex (L : LS K Tb G H pen q a ls lt lo B W past n) (e : Ex H H2) : LS K Tb G H2 pen q a ls lt lo B W past n := by
  obtain ⟨ps, h1, h2⟩ := L.pst
  exact ⟨L.net.mono (cut_mono e) fun b _ o h => e b o h, ⟨ps, e _ _ h1, h2.mono e⟩, L.pn.mono (Ex.refl G) (fun o h => e _ _ h) (Nat.le_refl _), L.nd, L.gx.trans e, L.ga, L.gt, L.tb.ext e, (fun b hb => (L.mb b hb).imp (fun ⟨xs, h⟩ => ⟨xs, e _ _ h⟩) fun ⟨C, dx, fs, h⟩ => ⟨C, dx, fs, e _ _ h⟩), L.db, L.gb, L.no⟩
theorem LS.le (L : LS K Tb G H pen q a ls lt lo B W past n) (h : n ≤ m) : LS K Tb G H pen q a ls lt lo B W past m := ⟨L.net, L.pst, L.pn.mono (Ex.refl G) (fun o h => h) h, L.nd, L.gx, L.ga, L.gt, L.tb, L.mb, L.db, L.gb, L.no⟩
/-- what lies in the six places -/
theorem LS.muts (L : LS K Tb G H pen q a ls lt lo B W past n) : Muts ([pen, q, a, ls, lt, lo] ++ B) H := by
  obtain ⟨ps, h1, _⟩ := L.pst
  obtain ⟨cl, cs, a1, r1, p1, _⟩ := L.pn
  obtain ⟨dx, w, pH, ss, fs, os, n1, n2, n3, n4, n5, n6, n7, n8, n9, n10⟩ := L.net
  intro b hb
  rcases List.mem_append.mp hb with hb | hb
  · simp only [List.mem_cons, List.not_mem_nil, or_false] at hb
    rcases hb with rfl | rfl | rfl | rfl | rfl | rfl
    · exact .inl ⟨_, p1⟩
    · exact .inl ⟨_, h1⟩
    · exact .inr ⟨_, _, _, n1⟩
    · exact .inl ⟨_, n4⟩
    · exact .inl ⟨_, n6⟩
    · exact .inl ⟨_, n8⟩
  · exact L.mb b hb
theorem LS.ne (L : LS K Tb G H pen q a ls lt lo B W past n) : pen ≠ q ∧ pen ≠ a ∧ pen ≠ ls ∧ pen ≠ lt ∧ pen ≠ lo ∧ q ≠ a ∧ q ≠ ls ∧ q ≠ lt ∧ q ≠ lo ∧ a ≠ ls ∧ a ≠ lt ∧ a ≠ lo ∧ ls ≠ lt ∧ ls ≠ lo ∧ lt ≠ lo := by
  have h := L.nd
  simp only [List.nodup_cons, List.mem_cons, List.not_mem_nil, or_false, not_or] at h
  obtain ⟨⟨a1, a2, a3, a4, a5⟩, ⟨b1, b2, b3, b4⟩, ⟨c1, c2, c3⟩, ⟨d1, d2⟩, e1, _⟩ := h
  exact ⟨a1, a2, a3, a4, a5, b1, b2, b3, b4, c1, c2, c3, d1, d2, e1⟩
/-- something was drawn -/
theorem LS.drawn (L : LS K Tb G H pen q a ls lt lo B W past n) (e : Ex (del pen H) H2) (p : PenAt G H2 pen m) : LS K Tb G H2 pen q a ls lt lo B W past m := by
  obtain ⟨z1, z2, z3, z4, z5, _⟩ := L.ne
  obtain ⟨ps, h1, h2⟩ := L.pst
  obtain ⟨cl, cs, a1, r1, p1, _⟩ := L.pn
  have k : ∀ b o, b ≠ pen → H b = some o → H2 b = some o := fun b o nb h => e _ _ (by rw [del_ne nb]; exact h)
  refine ⟨L.net.mono (fun b o h => ?_) fun b hb o h => k b o (fun z => ?_) h, ⟨ps, k _ _ (Ne.symm z1) h1, Paired.mapP h2 fun v f ⟨t, q1, q2⟩ => ⟨t, q1, k _ _ (ne_of q2 p1 (fun z => nomatch z)) q2⟩⟩, p, L.nd, fun b o h => k b o (fun z => ?_) (L.gx _ _ h), L.ga, L.gt, tabs_keep L.tb fun b o h t1 _ => k b o (fun z => ?_) h, (fun b hb => (L.mb b hb).imp (fun ⟨xs, h⟩ => ⟨xs, k _ _ (fun z => L.db b hb (by rw [z]; simp)) h⟩) fun ⟨C, dx, fs, h⟩ => ⟨C, dx, fs, k _ _ (fun z => L.db b hb (by rw [z]; simp)) h⟩), L.db, L.gb, L.no⟩
  · obtain ⟨nb, hb, t⟩ := cut_of h
    exact cut_in (k b o (fun z => nb (by rw [z]; simp)) hb) nb t
  · simp only [List.mem_cons, List.not_mem_nil, or_false] at hb
    rcases hb with rfl | rfl | rfl | rfl
    · exact z2 z.symm
    · exact z3 z.symm
    · exact z4 z.symm
    · exact z5 z.symm
  · rw [z] at h
    rw [L.ga pen (by simp)] at h
    cases h
  · rw [z, p1] at h
    cases h
    exact t1 _ rfl
theorem LS.drawnMv (L : LS K Tb G H pen q a ls lt lo B W past n) (e : Ex (del pen H) H2) : Mw [pen, q, a, ls, lt, lo] H [pen, q, a, ls, lt, lo] H2 := fun b o h nb _ => ⟨e _ _ (by rw [del_ne (fun z => nb (by rw [z]; simp))]; exact h), nb⟩
end
section
variable {Tb : List (Addr × Str)} {G H H2 : Hp} {pen q a ls lt lo ls2 lt2 lo2 : Addr} {B : List Addr} {W : WD} {past past2 : List Fr} {n m : Nat} {ps2 : List V}
theorem LS.isso (L : LS K Tb G H pen q a ls lt lo B W past n) {Q : VK} {E : XK} (ok : WOk W) (hF : ∀ f ∈ past, FOk W.hs f) (few : past.length ≤ 30) (k : RetV (.bl true) H Q) : spIsSo K [.ref a, .ref q] H Q E := by
  obtain ⟨ps, h1, h2⟩ := L.pst
  exact ⟨_, a, q, W, past, ls, lt, lo, ps, rfl, L.net, L.muts, ok, h1, h2, hF, few, k⟩
/-- the list and the network were changed, the pen was not -/
theorem LS.moved (L : LS K Tb G H pen q a ls lt lo B W past n) (keep : ∀ b o, H b = some o → b ∉ [q, a, ls, lt, lo] → (∀ ps, o ≠ .tbl ps) → H2 b = some o) (tb : Tabs Tb H2) (net : NetAt K (cut ([pen, q, a, ls2, lt2, lo2] ++ B) H2) H2 a W past2 ls2 lt2 lo2) (hq : H2 q = some (.lst ps2)) (ht : TusAt H2 ps2 past2)
    (nd2 : [pen, q, a, ls2, lt2, lo2].Nodup) (ga2 : ∀ b ∈ [pen, q, a, ls2, lt2, lo2], G b = none) (db2 : ∀ b ∈ B, b ∉ [pen, q, a, ls2, lt2, lo2]) : LS K Tb G H2 pen q a ls2 lt2 lo2 B W past2 n := by
  obtain ⟨z1, z2, z3, z4, z5, _⟩ := L.ne
  refine ⟨net, ⟨ps2, hq, ht⟩, L.pn.mono (Ex.refl G) (fun o h => keep _ _ h (by simp [z1, z2, z3, z4, z5]) (fun ps e => ?_)) (Nat.le_refl _), nd2, fun b o h => keep b o (L.gx _ _ h) (fun hb => ?_) fun ps e => L.gt b ps (by rw [h, e]), ga2, L.gt, tb, (fun b hb => ?_), db2, L.gb, L.no⟩
  · obtain ⟨cl, cs, a1, r1, p1, _⟩ := L.pn
    rw [p1] at h
    cases h
    cases e
  · rw [L.ga b (List.mem_cons_of_mem _ hb)] at h
    cases h
  · have nb : b ∉ [q, a, ls, lt, lo] := fun z => L.db b hb (List.mem_cons_of_mem _ z)
    rcases L.mb b hb with ⟨xs, h⟩ | ⟨C, dx, fs, h⟩
    · exact .inl ⟨xs, keep _ _ h nb fun _ z => nomatch z⟩
    · exact .inr ⟨C, dx, fs, keep _ _ h nb fun _ z => nomatch z⟩
theorem LS.tabs (L : LS K Tb G H pen q a ls lt lo B W past n) (keep : ∀ b o, H b = some o → b ∉ [pen, q, a, ls, lt, lo] → H2 b = some o) : Tabs Tb H2 := tabs_keep L.tb fun b o h t1 t2 => keep b o h fun z => by
  rcases L.muts b (List.mem_append_left _ z) with ⟨xs, e⟩ | ⟨C, dx, fs, e⟩
  · rw [h] at e
    exact t1 _ (Option.some.inj e)
  · rw [h] at e
    exact t2 _ _ _ (Option.some.inj e)
theorem LS.tup (L : LS K Tb G H pen q a ls lt lo B W past n) {b : Addr} {xs : List V} (h : H b = some (.tup xs)) : b ∉ [pen, q, a, ls, lt, lo] ++ B := L.muts.no (Ex.refl _) h (fun _ z => nomatch z) fun _ _ _ z => nomatch z
theorem LS.fresh (L : LS K Tb G H pen q a ls lt lo B W past n) {b : Addr} (h : H b = none) : b ∉ [pen, q, a, ls, lt, lo] ++ B := fun z => by
  rcases L.muts b z with ⟨xs, e⟩ | ⟨C, dx, fs, e⟩ <;> (rw [h] at e; cases e)
/-- what lies aside stays aside -/
theorem cut_move {A A2 : List Addr} {H H2 : Hp} (k : ∀ b o, H b = some o → b ∉ A → (∀ ps, o ≠ .tbl ps) → H2 b = some o) (n : ∀ b ∈ A2, b ∈ A ∨ H b = none) : Ex (cut A H) (cut A2 H2) := fun b o h => by
  obtain ⟨nb, hb, t⟩ := cut_of h
  refine cut_in (k b o hb nb t) (fun z => ?_) t
  rcases n b z with z | z
  · exact nb z
  · rw [hb] at z
    cases z
end
def cst : Nat → Nat
  | 0 => 6
  | d + 1 => 4 * cst d + 4
def spStep (K : PySem.W.Frag) (Tb : List (Addr × Str)) (deep : Nat) : Sp := fun vs H Q _ => ∃ (G : Hp) (pen q a ls lt lo : Addr) (B : List Addr) (W : WD) (past : List Fr) (n : Nat), vs = [.ref pen, .ref a, .ref q, .int (deep : Nat)] ∧ LS K Tb G H pen q a ls lt lo B W past n ∧ WOk W ∧ (∀ f ∈ past, FOk W.hs f) ∧
  past.length + 4 * deep ≤ 29 ∧ n + cst deep ≤ 900000 ∧ ∀ H2 ls2 lt2 lo2 past2, LS K Tb G H2 pen q a ls2 lt2 lo2 B W past2 (n + cst deep) → (∀ f ∈ past2, FOk W.hs f) → past2.length ≤ past.length + 1 → Mw [pen, q, a, ls, lt, lo] H [pen, q, a, ls2, lt2, lo2] H2 → Q (.bl true) H2
/-- a trial: what was sent is as it was -/
def spLTried (K : PySem.W.Frag) (Tb : List (Addr × Str)) (deep : Nat) : Sp := fun vs H Q _ => ∃ (G : Hp) (pen q a ls lt lo : Addr) (B : List Addr) (W : WD) (past : List Fr) (n : Nat), vs = [.ref pen, .ref a, .ref q, .int ((deep + 1 : Nat) : Int)] ∧ LS K Tb G H pen q a ls lt lo B W past n ∧ WOk W ∧ (∀ f ∈ past, FOk W.hs f) ∧
  past.length + 4 * (deep + 1) ≤ 29 ∧ n + 4 * cst deep + 2 ≤ 900000 ∧ ∀ H2 ls2 lt2 lo2, LS K Tb G H2 pen q a ls2 lt2 lo2 B W past (n + 4 * cst deep + 2) → Mw [pen, q, a, ls, lt, lo] H [pen, q, a, ls2, lt2, lo2] H2 → Q (.bl true) H2
abbrev GStep (P : Program) (w : World) (K : PySem.W.Frag) (mg : Str → Option Value) (bs : Heap) (Tb : List (Addr × Str)) (lv deep : Nat) : Prop := FnGR P w K mg bs CX0 lv (He.ga K "_law_step") (spStep K Tb deep)
abbrev GTried (P : Program) (w : World) (K : PySem.W.Frag) (mg : Str → Option Value) (bs : Heap) (Tb : List (Addr × Str)) (lv deep : Nat) : Prop := FnGR P w K mg bs CX0 lv (He.ga K "_law_tried") (spLTried K Tb deep)
theorem cst_ge : ∀ d, 6 ≤ cst d
  | 0 => Nat.le_refl _
  | d + 1 => by
    show 6 ≤ 4 * cst d + 4
    have := cst_ge d
    omega
/-- the reading of a call that is never made is not asked for -/
theorem L_step (T : TX K mg) (U : TY P K) (Z : TV K) {Tb : List (Addr × Str)} {lv deep : Nat} (l8 : 8 ≤ lv) {spT : Sp} (FT : FnGR P w K mg bs CX0 lv (He.ga K "_law_tried") spT)
    (hT : ∀ d, deep = d + 1 → spT = spLTried K Tb d) : GStep P w K mg bs Tb (lv + 1) deep :=
  T.f_law_step.fnG0 S_law_step (fun outer s vs H Q E ⟨_, _, _, _, _, _, _, _, _, _, _, h, _⟩ => by rw [h] <;> rfl) (fun _ _ _ _ _ _ us hl => match us, hl with | [_, _, _, _], _ => rfl) fun cdv Ar outer s H vs Q E hG hr qq => by
    obtain ⟨G, pen, q, a, ls, lt, lo, B, W, past, n, rfl, L, ok, hF, few, hn, k⟩ := qq
    refine ⟨_, (pss_cons (ps_set (i := 4) S_law_step.nd rfl (Or.inl rfl) (pe_callR (F_law_draw T) (hr.mono (by omega)) T.f_law_draw.kp T.g__law_draw pass0 (pa_cons (pv 0) (pa_cons pe_int pa_nil)))) (pss_cons (ps_if (pt_cmpR op_lt (pv 4) pe_int (nomark _)) (pss_cons (ps_set (i := 5) S_law_step.nd rfl (Or.inl rfl) (pe_callR (F_law_frame T) (hr.mono (by omega)) T.f_law_frame.kp T.g__law_frame pass0 (pa_cons (pv 0) (pa_cons (pe_callTy call_list_of (by rfl) T.b_list (by decide +kernel) (pa_cons (pe_propR (pv 1) T.c_Network T.p_Network_hosts (F_Player_hosts T) (hr.mono (by omega)) pass0) pa_nil)) (pa_cons (pv 2) pa_nil))))) (pss_cons (ps_expr (pe_methR (pv 1) T.c_Network T.m_Network_send (F_send T) (hr.mono (by omega)) pass0 (pa_cons (StX.pe_makeR T.k_Frame (F_Frame2 T) (hr.mono (by omega)) (by rfl) T.g_Frame pass0 (pa_cons (pe_ix ix_tup (pv 5) pe_int (fun _ _ => rfl)) (pa_cons (pe_ix ix_tup (pv 5) pe_int (fun _ _ => rfl)) pa_nil))) pa_nil))) (pss_one (ps_expr (pe_bm PySem.F.plainAttrs_list PySem.F.slot_list_append PySem.F.type_list_append mt_append (pv 2) (pa_cons (pv 5) pa_nil)))))) (pss_one (ps_if (PW.pt (pw_and (pt_cmpR op_eq (pv 4) pe_int (nomark _)) (pw_and1 (pt_cmpR (op_neD (hu64 hr)) (pv 2) (pe_lst pa_nil) (nomark _))))) (pss_cons (ps_expr (pe_bm0 PySem.F.plainAttrs_list PySem.F.slot_list_pop PySem.F.type_list_pop mt_pop (pv 2))) (pss_one (ps_expr (pe_methR0 (pv 1) T.c_Network T.m_Network_back (F_back T) (hr.mono (by omega)) pass0)))) (pss_one (ps_if (PW.pt (pw_and (pt_cmpR op_eq (pv 4) pe_int (nomark _)) (pw_and1 (pt_cmpR op_eq (pe_callR (F_law_draw T) (hr.mono (by omega)) T.f_law_draw.kp T.g__law_draw pass0 (pa_cons (pv 0) (pa_cons pe_int pa_nil))) pe_int (nomark _))))) (pss_cons (ps_expr (pe_bm0 PySem.F.plainAttrs_list PySem.F.slot_list_clear PySem.F.type_list_clear mt_clear (pv 2))) (pss_one (ps_expr (pe_methR0 (pv 1) T.c_Network T.m_Network_reset (F_reset T) (hr.mono (by omega)) pass0)))) (pss_one (ps_if (PW.pt (pw_and (pt_cmpR op_gt (pv 3) pe_int (nomark _)) (pw_and1 (pt_not (pt_val (pe_callG FT hG (hr.mono (by omega)) T.f_law_tried.kp T.g__law_tried pass0 (pa_cons (pv 0) (pa_cons (pv 1) (pa_cons (pv 2) (pa_cons (pv 3) pa_nil)))))))))) (pss_one (ps_ret pe_bl)) pss_nil))))))) (pss_one (ps_ret (pe_callG (F_law_is_so T U Z) hG (hr.mono (by omega)) T.f_law_is_so.kp T.g__law_is_so pass0 (pa_cons (pv 1) (pa_cons (pv 2) pa_nil))))))), ?_⟩
    refine ⟨.ref pen, rfl, G, pen, n, 7, rfl, L.pn, L.gx, L.ga pen (by simp), by omega, by decide, by decide, fun way H1 w0 w1 e1 p1 => ?_⟩
    have L1 := L.drawn e1 p1
    have M1 := L.drawnMv e1
    have k1 : ∀ b o, H b = some o → b ∉ [pen, q, a, ls, lt, lo] → H1 b = some o := fun b o h nb => e1 _ _ (by rw [del_ne (fun z => nb (by rw [z]; simp))]; exact h)
    clear p1 e1 M1
    have c6 : 6 ≤ cst deep := by
      cases deep with
      | zero => exact Nat.le_refl _
      | succ d =>
        show 6 ≤ 4 * cst d + 4
        have : 6 ≤ cst d := cst_ge d
        omega
    have inA : ∀ {x : Addr}, x ∈ [q, a, ls, lt, lo] → x ∈ [pen, q, a, ls, lt, lo] := fun h => List.mem_cons_of_mem _ h
    have inB : ∀ {x : Addr}, x ∈ [q, a, ls, lt, lo] → x ∈ [pen, q, a, ls, lt, lo] ++ B := fun h => List.mem_append_left _ (List.mem_cons_of_mem _ h)
    have nAB : ∀ {x : Addr}, x ∉ [pen, q, a, ls, lt, lo] ++ B → x ∉ [pen, q, a, ls, lt, lo] := fun h z => h (List.mem_append_left _ z)
    refine ⟨.int way, rfl, way, 3, rfl, rfl, _, rfl, dec2 (fun cw => ?_) fun cw => ?_⟩
    · obtain ⟨ps, hq, hT⟩ := L1.pst
      obtain ⟨dx, w1, pH, ss, fs, os, h1, h2, h3, h4, h5, h6, h7, h8, h9, d1, d2, d3⟩ := id L1.net
      have hpH := cut_ex _ _ h3
      obtain ⟨z1, z2, z3, z4, z5, z6, z7, z8, z9, z10, z11, z12, _⟩ := L1.ne
      refine ⟨.ref pen, rfl, .ref a, rfl, a, dx, _, rfl, h1, a, dx, _, .ref pH, rfl, h1, rfl, pH, txs W.hs, rfl, .inr (.inl (.inl hpH)), fun lw hlw => ⟨.ref q, rfl, ?_⟩⟩
      have L2 := L1.ex (Ex.new (o := .lst (txs W.hs)) hlw)
      have two := ok.two
      refine ⟨G, pen, lw, q, n + 1, W.hs, ps, past, rfl, L2.pn, L2.gx, L2.ga pen (by simp), by omega, upd_same, ok.few, (fun z => by rw [z] at two; exact absurd two (by decide)), ok.nm, (Ex.new hlw) _ _ hq, Ne.symm z1, hT.mono (Ex.new hlw), hF, by omega, fun pr f H3 hpr hf e3 p3 => ?_⟩
      have L3 := L2.drawn e3 p3
      have k3 : ∀ b o, H b = some o → b ∉ [pen, q, a, ls, lt, lo] → H3 b = some o := fun b o h nb => e3 _ _ (by rw [del_ne (fun z => nb (by rw [z]; simp))]; exact (Ex.new hlw) _ _ (k1 _ _ h nb))
      obtain ⟨ps3, hq3, hT3⟩ := L3.pst
      obtain ⟨dx3, w3, pH3, ss3, fs3, os3, a1, a2, a3, a4, a5, a6, a7, a8, a9, _⟩ := id L3.net
      refine ⟨.ref a, rfl, a, dx3, _, rfl, a1, netFs_no (by decide +kernel), .ref pr, rfl, pr, _, 0, .str f.1, rfl, rfl, .inl (.inl hpr), rfl, .ref pr, rfl, pr, _, 1, oV f.2, rfl, rfl, .inl (.inl hpr), rfl, fun y dy hy hdy ny => ⟨y, dy, f.1, f.2, rfl, upd_same, hf.frame ok.nm, fun H4 e4 fr4 => ⟨rfl, ?_⟩⟩⟩
      have e34 : Ex H3 H4 := mk_ex hy hdy e4
      have L4 := L3.ex e34
      obtain ⟨dxf, hfx⟩ := fr4
      refine ⟨_, a, y, W, past, f, ls, lt, lo, rfl, L4.net, L4.muts, by simp, by simp, by simp, ok, fun g hg => ⟨(hF g hg).1, fun t e => ((hF g hg).2 t e).1⟩, ⟨dxf, cut_in hfx (L3.fresh hy) fun _ z => nomatch z⟩, ⟨hf.1, fun t e => (hf.2 t e).1⟩, by omega, fun v H5 fr5 net5 => ?_⟩
      have hq5 : H5 q = some (.lst ps3) := fr5 _ _ (e34 _ _ hq3) z7 z8 z9
      refine ⟨.ref q, rfl, .inl ⟨rfl, _, .inl (.inl hq5)⟩, .ref pr, rfl, q, ps3, .ref pr, rfl, rfl, hq5, Evl.sz_lt (by rw [Paired.length hT3]; omega), ?_⟩
      have k6 : ∀ b o, H4 b = some o → b ∉ [q, a, ls, lt, lo] → upd H5 q (.lst (ps3 ++ [.ref pr])) b = some o := fun b o h nb => by
        simp only [List.mem_cons, List.not_mem_nil, or_false, not_or] at nb
        rw [upd_ne nb.1]
        exact fr5 _ _ h nb.2.2.1 nb.2.2.2.1 nb.2.2.2.2
      have L6 : LS K Tb G (upd H5 q (.lst (ps3 ++ [.ref pr]))) pen q a ls lt lo B W (past ++ [f]) (n + 1 + 4) := by
        refine L4.moved (ps2 := ps3 ++ [.ref pr]) (fun b o h nb _ => k6 b o h nb) (L4.tabs fun b o h nb => k6 b o h fun z => nb (inA z)) ?_ upd_same ?_ L4.nd L4.ga L4.db
        · rw [cut_upd (by simp)]
          refine net5.mono (Ex.refl _) fun b hb o h => ?_
          rw [upd_ne (fun z => ?_)]
          · exact h
          · simp only [List.mem_cons, List.not_mem_nil, or_false] at hb
            rcases hb with rfl | rfl | rfl | rfl
            · exact z6 z.symm
            · exact z7 z.symm
            · exact z8 z.symm
            · exact z9 z.symm
        · refine paired_snoc (Paired.mapP hT3 fun v f ⟨t, q1, q2⟩ => ⟨t, q1, k6 _ _ (e34 _ _ q2) fun z => L3.tup q2 (inB z)⟩) ⟨pr, rfl, k6 _ _ (e34 _ _ hpr) fun z => L3.tup hpr (inB z)⟩
      have hF6 : ∀ g ∈ past ++ [f], FOk W.hs g := fun g hg => by
        rcases List.mem_append.mp hg with h | h
        · exact hF g h
        · rw [List.mem_singleton.mp h]
          exact hf
      refine ⟨.ref a, rfl, .ref q, rfl, L6.isso (E := E0) ok hF6 (by rw [List.length_append]; show past.length + 1 ≤ 30; omega) fun H9 e9 => k H9 ls lt lo (past ++ [f]) ((L6.ex e9).le (by omega)) hF6 (by rw [List.length_append]; exact Nat.le_refl _) fun b o h nb _ => ⟨e9 _ _ (k6 _ _ (e34 _ _ (k3 _ _ h nb)) fun z => nb (inA z)), nb⟩⟩
    -- not a frame
    refine ⟨.int way, rfl, rfl, _, rfl, ?_⟩
    by_cases c3 : way = 3
    · subst c3
      rw [decide_eq_true rfl]
      refine iteT ?_
      obtain ⟨ps, hq, hT⟩ := L1.pst
      refine ⟨.ref q, rfl, Evl.sz_of (by show 0 ≤ 100000; decide), fun l hl => ⟨.list (past.map fD), .list [], .lst (.inl (.inl ((Ex.new hl) _ _ hq))) (dp_tus (hT.mono (Ex.new hl))), .lst (.inl (.inl upd_same)) .nil, shaped_tus ok.nm hF, rfl, _, rfl, ?_⟩⟩
      rw [ne_nil_eqv]
      have L2 := L1.ex (Ex.new (o := .lst []) hl)
      have k2 : ∀ b o, H b = some o → b ∉ [pen, q, a, ls, lt, lo] → upd H1 l (.lst []) b = some o := fun b o h nb => (Ex.new hl) _ _ (k1 _ _ h nb)
      revert L2 k2
      generalize upd H1 l (.lst []) = H2
      intro L2 k2
      by_cases cp : past = []
      · rw [decide_eq_true cp]
        refine iteF ?_
        refine ⟨_, rfl, rfl, _, rfl, ?_⟩
        refine iteF (iteF ?_)
        have Lx := L2
        have kx := k2
        refine ⟨_, rfl, (deep : Int), 0, rfl, rfl, _, rfl, ?_⟩
        refine dec2 (fun c0 => ?_) fun c0 => ?_
        · cases deep with
          | zero => exact absurd c0 (by decide)
          | succ d =>
            obtain rfl := hT d rfl
            refine ⟨.ref pen, rfl, .ref a, rfl, .ref q, rfl, _, rfl, G, pen, q, a, ls, lt, lo, B, W, past, _, rfl, Lx, ok, hF, few, (by have : cst (d + 1) = 4 * cst d + 4 := rfl; omega), fun H2 ls2 lt2 lo2 L2 M2 => ⟨true, rfl, iteF ?_⟩⟩
            refine ⟨.ref a, rfl, .ref q, rfl, L2.isso (E := E0) ok hF (by omega) fun H9 e9 => k H9 ls2 lt2 lo2 past ((L2.ex e9).le (by have : cst (d + 1) = 4 * cst d + 4 := rfl; omega)) hF (Nat.le_succ _) fun b o h nb t => let ⟨x, y⟩ := M2 _ _ (kx _ _ h nb) nb t; ⟨e9 _ _ x, y⟩⟩
        · refine iteF ?_
          exact ⟨.ref a, rfl, .ref q, rfl, Lx.isso (E := E0) ok hF (by omega) fun H9 e9 => k H9 ls lt lo past ((Lx.ex e9).le (by omega)) hF (Nat.le_succ _) fun b o h nb _ => ⟨e9 _ _ (kx _ _ h nb), nb⟩⟩
      · rw [decide_eq_false cp]
        refine iteT ?_
        obtain ⟨p0, f, rfl⟩ : ∃ p0 f, past = p0 ++ [f] := ⟨past.dropLast, past.getLast cp, (List.dropLast_concat_getLast cp).symm⟩
        obtain ⟨ps2, hq2, hT2⟩ := L2.pst
        obtain ⟨ps0, v, rfl, hT0, _⟩ := paired_last hT2
        refine ⟨.ref q, rfl, .inl ⟨rfl, _, .inl (.inl hq2)⟩, q, ps0 ++ [v], v, rfl, rfl, hq2, by simp, ?_⟩
        rw [List.dropLast_concat]
        obtain ⟨z1, z2, z3, z4, z5, z6, z7, z8, z9, z10, z11, z12, _⟩ := L2.ne
        obtain ⟨dx, w1, pH, ss, fs, os, h1, h2, h3, h4, h5, h6, h7, h8, h9, d1, d2, d3⟩ := id L2.net
        have nG : ∀ b ∈ [pen, q, a, ls, lt, lo], cut ([pen, q, a, ls, lt, lo] ++ B) H2 b = none := fun b hb => if_pos (List.mem_append_left _ hb)
        have net3 : NetAt K (cut ([pen, q, a, ls, lt, lo] ++ B) H2) (upd H2 q (.lst ps0)) a W (p0 ++ [f]) ls lt lo := L2.net.mono (Ex.refl _) fun b hb o h => by
          rw [upd_ne (fun z => ?_)]
          · exact h
          · simp only [List.mem_cons, List.not_mem_nil, or_false] at hb
            rcases hb with rfl | rfl | rfl | rfl
            · exact z6 z.symm
            · exact z7 z.symm
            · exact z8 z.symm
            · exact z9 z.symm
        refine ⟨.ref a, rfl, a, dx, _, rfl, by rw [upd_ne (Ne.symm z6)]; exact h1, netFs_no (by decide +kernel), a, _, W, p0, f, ls, lt, lo, rfl, net3, by rw [List.length_append] at few; omega, nG ls (by simp), nG lt (by simp), nG lo (by simp), fun v4 H4 fr4 net4 => ?_⟩
        have k4 : ∀ b o, H2 b = some o → b ∉ [q, a, ls, lt, lo] → H4 b = some o := fun b o h nb => by
          simp only [List.mem_cons, List.not_mem_nil, or_false, not_or] at nb
          rw [fr4 b nb.2.2.1 nb.2.2.2.1 nb.2.2.2.2, upd_ne nb.1]
          exact h
        have hF0 : ∀ g ∈ p0, FOk W.hs g := fun g hg => hF g (List.mem_append_left _ hg)
        have L4 : LS K Tb G H4 pen q a ls lt lo B W p0 (n + 1) := by
          refine L2.moved (ps2 := ps0) (fun b o h nb _ => k4 b o h nb) (L2.tabs fun b o h nb => k4 b o h fun z => nb (inA z)) (net4.mono (cut_move (fun b o h nb _ => k4 b o h fun z => nb (inB z)) fun b h => .inl h) fun b _ o h => h) (by rw [fr4 q z7 z8 z9, upd_same]) ?_ L2.nd L2.ga L2.db
          exact Paired.mapP hT0 fun v f ⟨t, q1, q2⟩ => ⟨t, q1, k4 _ _ q2 fun z => L2.tup q2 (inB z)⟩
        exact ⟨.ref a, rfl, .ref q, rfl, L4.isso (E := E0) ok hF0 (by rw [List.length_append] at few; omega) fun H9 e9 => k H9 ls lt lo p0 ((L4.ex e9).le (by omega)) hF0 (by rw [List.length_append]; omega) (fun b o h nb _ => ⟨e9 _ _ (k4 _ _ (k2 _ _ h nb) fun z => nb (inA z)), nb⟩)⟩
    rw [decide_eq_false (fun z => c3 (by injection z))]
    refine iteF (iteF ?_)
    refine ⟨_, rfl, rfl, _, rfl, ?_⟩
    by_cases c4 : way = 4
    · subst c4
      rw [decide_eq_true rfl]
      refine iteT ?_
      refine ⟨.ref pen, rfl, G, pen, n + 1, 3, rfl, L1.pn, L1.gx, L1.ga pen (by simp), by omega, by decide, by decide, fun r H2 r0 r1 e2 p2 => ⟨rfl, _, rfl, ?_⟩⟩
      have L2 := L1.drawn e2 p2
      have k2 : ∀ b o, H b = some o → b ∉ [pen, q, a, ls, lt, lo] → H2 b = some o := fun b o h nb => e2 _ _ (by rw [del_ne (fun z => nb (by rw [z]; simp))]; exact k1 _ _ h nb)
      by_cases cr : r = 0
      · rw [decide_eq_true (by rw [cr])]
        refine iteT ?_
        obtain ⟨ps2, hq2, hT2⟩ := L2.pst
        obtain ⟨z1, z2, z3, z4, z5, z6, z7, z8, z9, z10, z11, z12, _⟩ := L2.ne
        obtain ⟨dx, w1, pH, ss, fs, os, h1, h2, h3, h4, h5, h6, h7, h8, h9, d1, d2, d3⟩ := id L2.net
        have net3 : NetAt K (cut ([pen, q, a, ls, lt, lo] ++ B) H2) (upd H2 q (.lst [])) a W past ls lt lo := L2.net.mono (Ex.refl _) fun b hb o h => by
          rw [upd_ne (fun z => ?_)]
          · exact h
          · simp only [List.mem_cons, List.not_mem_nil, or_false] at hb
            rcases hb with rfl | rfl | rfl | rfl
            · exact z6 z.symm
            · exact z7 z.symm
            · exact z8 z.symm
            · exact z9 z.symm
        refine ⟨.ref q, rfl, .inl ⟨rfl, _, .inl (.inl hq2)⟩, q, ps2, rfl, rfl, hq2, ?_⟩
        refine ⟨.ref a, rfl, a, dx, _, rfl, by rw [upd_ne (Ne.symm z6)]; exact h1, netFs_no (by decide +kernel), a, _, W, past, ls, lt, lo, rfl, net3, by omega, fun v4 H4 l1 l2 l3 fr4 n1 n2 n3 net4 => ?_⟩
        have nn : ∀ {x : Addr}, upd H2 q (.lst []) x = none → H2 x = none := fun {x} h => by
          by_cases c : x = q
          · rw [c, upd_same] at h
            cases h
          · rw [upd_ne c] at h
            exact h
        have m1 := nn n1
        have m2 := nn n2
        have m3 := nn n3
        have k4 : ∀ b o, H2 b = some o → b ∉ [q, a, ls, lt, lo] → H4 b = some o := fun b o h nb => by
          simp only [List.mem_cons, List.not_mem_nil, or_false, not_or] at nb
          exact fr4 b o nb.2.1 (by rw [upd_ne nb.1]; exact h)
        have newA : ∀ b ∈ [pen, q, a, l1, l2, l3], b ∈ [pen, q, a, ls, lt, lo] ∨ H2 b = none := fun b hb => by
          simp only [List.mem_cons, List.not_mem_nil, or_false] at hb
          rcases hb with rfl | rfl | rfl | rfl | rfl | rfl
          · exact .inl (by simp)
          · exact .inl (by simp)
          · exact .inl (by simp)
          · exact .inr m1
          · exact .inr m2
          · exact .inr m3
        have newB : ∀ b ∈ [pen, q, a, l1, l2, l3] ++ B, b ∈ [pen, q, a, ls, lt, lo] ++ B ∨ H2 b = none := fun b hb => by
          rcases List.mem_append.mp hb with z | z
          · exact (newA b z).imp (fun h => List.mem_append_left _ h) fun h => h
          · exact .inl (List.mem_append_right _ z)
        have nA : ∀ {x : Addr}, H2 x = none → pen ≠ x ∧ q ≠ x ∧ a ≠ x := fun {x} h => by
          have := nAB (L2.fresh h)
          simp only [List.mem_cons, List.not_mem_nil, or_false, not_or] at this
          exact ⟨fun z => this.1 z.symm, fun z => this.2.1 z.symm, fun z => this.2.2.1 z.symm⟩
        obtain ⟨dx4, w4, pH4, ss4, fs4, os4, _, _, _, _, _, _, _, _, _, t12, t13, t23⟩ := id net4
        have L4 : LS K Tb G H4 pen q a l1 l2 l3 B W [] (n + 1 + 1) := by
          refine L2.moved (ps2 := []) (fun b o h nb _ => k4 b o h nb) (L2.tabs fun b o h nb => k4 b o h fun z => nb (inA z)) (net4.mono (cut_move (fun b o h nb _ => k4 b o h fun z => nb (inB z)) newB) fun b _ o h => h) (fr4 q _ z6 upd_same) .nil ?_ (fun b hb => ?_) fun b hb z => ?_
          · obtain ⟨a1, a2, a3⟩ := nA m1
            obtain ⟨b1, b2, b3⟩ := nA m2
            obtain ⟨c1, c2, c3⟩ := nA m3
            simp [z1, z2, z6, a1, a2, a3, b1, b2, b3, c1, c2, c3, t12, t13, t23]
          · rcases newA b hb with z | z
            · exact L2.ga b z
            · cases hh : G b with
              | none => rfl
              | some o =>
                rw [L2.gx _ _ hh] at z
                cases z
          · rcases newA b z with z | z
            · exact L2.db b hb z
            · rcases L2.mb b hb with ⟨xs, e⟩ | ⟨C, dx, fs, e⟩ <;> (rw [z] at e; cases e)
        exact ⟨.ref a, rfl, .ref q, rfl, L4.isso (E := E0) ok (fun g hg => by cases hg) (Nat.zero_le _) fun H9 e9 => k H9 l1 l2 l3 [] ((L4.ex e9).le (by omega)) (fun g hg => by cases hg) (Nat.zero_le _) (fun b o h nb _ => ⟨e9 _ _ (k4 _ _ (k2 _ _ h nb) fun z => nb (inA z)), fun hb => (newA b hb).elim nb fun z => by rw [k2 _ _ h nb] at z; cases z⟩)⟩
      · rw [decide_eq_false (fun z => cr (by injection z))]
        refine iteF ?_
        have Lx := L2
        have kx := k2
        refine ⟨_, rfl, (deep : Int), 0, rfl, rfl, _, rfl, ?_⟩
        refine dec2 (fun c0 => ?_) fun c0 => ?_
        · cases deep with
          | zero => exact absurd c0 (by decide)
          | succ d =>
            obtain rfl := hT d rfl
            refine ⟨.ref pen, rfl, .ref a, rfl, .ref q, rfl, _, rfl, G, pen, q, a, ls, lt, lo, B, W, past, _, rfl, Lx, ok, hF, few, (by have : cst (d + 1) = 4 * cst d + 4 := rfl; omega), fun H2 ls2 lt2 lo2 L2 M2 => ⟨true, rfl, iteF ?_⟩⟩
            refine ⟨.ref a, rfl, .ref q, rfl, L2.isso (E := E0) ok hF (by omega) fun H9 e9 => k H9 ls2 lt2 lo2 past ((L2.ex e9).le (by have : cst (d + 1) = 4 * cst d + 4 := rfl; omega)) hF (Nat.le_succ _) fun b o h nb t => let ⟨x, y⟩ := M2 _ _ (kx _ _ h nb) nb t; ⟨e9 _ _ x, y⟩⟩
        · refine iteF ?_
          exact ⟨.ref a, rfl, .ref q, rfl, Lx.isso (E := E0) ok hF (by omega) fun H9 e9 => k H9 ls lt lo past ((Lx.ex e9).le (by omega)) hF (Nat.le_succ _) fun b o h nb _ => ⟨e9 _ _ (kx _ _ h nb), nb⟩⟩
    · rw [decide_eq_false (fun z => c4 (by injection z))]
      refine iteF (iteF ?_)
      have Lx := L1
      have kx := k1
      refine ⟨_, rfl, (deep : Int), 0, rfl, rfl, _, rfl, ?_⟩
      refine dec2 (fun c0 => ?_) fun c0 => ?_
      · cases deep with
        | zero => exact absurd c0 (by decide)
        | succ d =>
          obtain rfl := hT d rfl
          refine ⟨.ref pen, rfl, .ref a, rfl, .ref q, rfl, _, rfl, G, pen, q, a, ls, lt, lo, B, W, past, _, rfl, Lx, ok, hF, few, (by have : cst (d + 1) = 4 * cst d + 4 := rfl; omega), fun H2 ls2 lt2 lo2 L2 M2 => ⟨true, rfl, iteF ?_⟩⟩
          refine ⟨.ref a, rfl, .ref q, rfl, L2.isso (E := E0) ok hF (by omega) fun H9 e9 => k H9 ls2 lt2 lo2 past ((L2.ex e9).le (by have : cst (d + 1) = 4 * cst d + 4 := rfl; omega)) hF (Nat.le_succ _) fun b o h nb t => let ⟨x, y⟩ := M2 _ _ (kx _ _ h nb) nb t; ⟨e9 _ _ x, y⟩⟩
      · refine iteF ?_
        exact ⟨.ref a, rfl, .ref q, rfl, Lx.isso (E := E0) ok hF (by omega) fun H9 e9 => k H9 ls lt lo past ((Lx.ex e9).le (by omega)) hF (Nat.le_succ _) fun b o h nb _ => ⟨e9 _ _ (kx _ _ h nb), nb⟩⟩
end SfW
namespace SfW
open PySem PySem.Spec PyProof.Rows
open L2 hiding del del_ne del_same
open Evl (Ex RetV)
open LamX (CodeO TabS Tabs ExtN TabB)
/-! what the law does within a trial -/
variable {P : Program} {w : World} {K : PySem.W.Frag} {mg : Str → Option Value} {bs : Heap}
section
variable {Tb : List (Addr × Str)} {G H H2 : Hp} {pen q a ls lt lo D : Addr} {B : List Addr} {W : WD} {past : List Fr} {n m : Nat}
/-- a new list, set aside -/
theorem LS.add (L : LS K Tb G H pen q a ls lt lo B W past n) {o : HO} (hD : H D = none) (ho : (∃ xs, o = .lst xs) ∨ ∃ C dx fs, o = .ins C dx fs) : LS K Tb G (upd H D o) pen q a ls lt lo (D :: B) W past n := by
  have L2 := L.ex (Ex.new (o := o) hD)
  have gD : G D = none := by
    cases h : G D with
    | none => rfl
    | some u =>
      rw [L.gx _ _ h] at hD
      cases hD
  refine ⟨L.net.mono (fun b u h => ?_) fun b _ u h => (Ex.new hD) _ _ h, L2.pst, L2.pn, L2.nd, L2.gx, L2.ga, L2.gt, L2.tb, (fun b hb => ?_), (fun b hb => ?_), (fun b hb => ?_), L2.no⟩
  · obtain ⟨nb, h1, t⟩ := cut_of h
    refine cut_in ((Ex.new hD) _ _ h1) (fun z => ?_) t
    rcases List.mem_append.mp z with z | z
    · exact nb (List.mem_append_left _ z)
    · rcases List.mem_cons.mp z with rfl | z
      · rw [hD] at h1
        cases h1
      · exact nb (List.mem_append_right _ z)
  · rcases List.mem_cons.mp hb with rfl | hb
    · rcases ho with ⟨xs, rfl⟩ | ⟨C, dx, fs, rfl⟩
      · exact .inl ⟨xs, upd_same⟩
      · exact .inr ⟨C, dx, fs, upd_same⟩
    · exact L2.mb b hb
  · rcases List.mem_cons.mp hb with rfl | hb
    · exact fun z => L.fresh hD (List.mem_append_left _ z)
    · exact L2.db b hb
  · rcases List.mem_cons.mp hb with rfl | hb
    · exact gD
    · exact L2.gb b hb
/-- an object set aside is changed -/
theorem LS.put (L : LS K Tb G H pen q a ls lt lo B W past n) {o : HO} (hD : D ∈ B) (ho : (∃ xs, o = .lst xs) ∨ ∃ C dx fs, o = .ins C dx fs) : LS K Tb G (upd H D o) pen q a ls lt lo B W past n := by
  have nD := L.db D hD
  have k : ∀ b u, b ≠ D → H b = some u → upd H D o b = some u := fun b u nb h => by
    rw [upd_ne nb]
    exact h
  have sx : ∀ b ∈ [pen, q, a, ls, lt, lo], b ≠ D := fun b hb z => nD (z ▸ hb)
  obtain ⟨ps, h1, h2⟩ := L.pst
  have kind : ∀ {b : Addr} {u : HO}, H b = some u → (∀ xs, u ≠ .lst xs) → (∀ C dx fs, u ≠ .ins C dx fs) → b ≠ D := fun {b u} h t1 t2 z => by
    rcases L.mb D hD with ⟨xs, e⟩ | ⟨C, dx, fs, e⟩
    · rw [z, e] at h
      exact t1 _ (Option.some.inj h).symm
    · rw [z, e] at h
      exact t2 _ _ _ (Option.some.inj h).symm
  refine ⟨?_, ⟨ps, k _ _ (sx q (by simp)) h1, Paired.mapP h2 fun v f ⟨t, q1, q2⟩ => ⟨t, q1, k _ _ (kind q2 (fun _ z => nomatch z) fun _ _ _ z => nomatch z) q2⟩⟩, L.pn.mono (Ex.refl G) (fun o h => k _ _ (sx pen (by simp)) h) (Nat.le_refl _), L.nd,
    fun b u h => k _ _ (fun z => by rw [z, L.gb D hD] at h; cases h) (L.gx _ _ h), L.ga, L.gt, tabs_keep L.tb fun b u h t1 t2 => k _ _ (kind h t1 t2) h, (fun b hb => ?_), L.db, L.gb, L.no⟩
  · rw [cut_upd (List.mem_append_right _ hD)]
    refine L.net.mono (Ex.refl _) fun b hb u h => k _ _ (sx b ?_) h
    simp only [List.mem_cons, List.not_mem_nil, or_false] at hb ⊢
    rcases hb with rfl | rfl | rfl | rfl <;> simp
  · by_cases c : b = D
    · subst c
      rcases ho with ⟨xs, rfl⟩ | ⟨C, dx, fs, rfl⟩
      · exact .inl ⟨xs, upd_same⟩
      · exact .inr ⟨C, dx, fs, upd_same⟩
    · exact (L.mb b hb).imp (fun ⟨xs, h⟩ => ⟨xs, k _ _ c h⟩) fun ⟨C, dx, fs, h⟩ => ⟨C, dx, fs, k _ _ c h⟩
/-- it is no longer set aside -/
theorem LS.drop {B2 : List Addr} (L : LS K Tb G H pen q a ls lt lo B2 W past n) (h : ∀ b ∈ B, b ∈ B2) : LS K Tb G H pen q a ls lt lo B W past n :=
  ⟨L.net.mono (fun b u hu => by
    obtain ⟨nb, h1, t⟩ := cut_of hu
    exact cut_in h1 (fun z => nb ((List.mem_append.mp z).elim (fun z => List.mem_append_left _ z) fun z => List.mem_append_right _ (h b z))) t) fun b _ u hu => hu, L.pst, L.pn, L.nd, L.gx, L.ga, L.gt, L.tb, (fun b hb => L.mb b (h b hb)), (fun b hb => L.db b (h b hb)), (fun b hb => L.gb b (h b hb)), L.no⟩
end
theorem nobody_ok : NameOk "nobody" := by
  refine ⟨by decide, by decide, fun k hk => ?_⟩
  have z : (("nobody" : Str).cps.toList.all fun c => decide (97 ≤ c) && decide (c < 123)) = true := by decide +kernel
  have := List.all_eq_true.mp z k hk
  simp only [Bool.and_eq_true, decide_eq_true_eq] at this
  exact ⟨k - 97, by omega, by omega⟩
theorem flat_repl : ∀ c : Nat, (List.replicate c (V.bl true)).all flatV = true
  | 0 => rfl
  | c + 1 => by
    rw [List.replicate_succ, List.all_cons, flat_repl c]
    rfl
theorem in_repl : ∀ c : Nat, inV (.bl false) (List.replicate c (V.bl true)) = false
  | 0 => rfl
  | c + 1 => by
    have := in_repl c
    unfold inV at this ⊢
    rw [List.replicate_succ, List.any_cons, this]
    rfl
def spInside (K : PySem.W.Frag) (Tb : List (Addr × Str)) (deep : Nat) : Sp := fun vs H Q E => ∃ (G : Hp) (pen q a ls lt lo : Addr) (B : List Addr) (W : WD) (past : List Fr) (n : Nat), vs = [.ref pen, .ref a, .ref q, .int (deep : Nat)] ∧ LS K Tb G H pen q a ls lt lo B W past n ∧ WOk W ∧ (∀ f ∈ past, FOk W.hs f) ∧
  past.length + 3 + 4 * deep ≤ 29 ∧ n + 4 * cst deep + 2 ≤ 900000 ∧ ∀ H2 ls2 lt2 lo2 past2, LS K Tb G H2 pen q a ls2 lt2 lo2 B W past2 (n + 4 * cst deep + 2) → Mw [pen, q, a, ls, lt, lo] H [pen, q, a, ls2, lt2, lo2] H2 →
    (∀ p sg os, H2 p = some (.tup [.bl true, .ref sg]) → H2 sg = some (.tup os) → os.length = past2.length → Q (.ref p) H2) ∧ (∀ dd, H2 dd = some (.xd [("name", .str "nobody")]) → E (.ref (He.ga K "NoHost")) (some dd) H2) ∧ ∀ d, E (.type "KeyError") d H2
abbrev GInside (P : Program) (w : World) (K : PySem.W.Frag) (mg : Str → Option Value) (bs : Heap) (Tb : List (Addr × Str)) (lv deep : Nat) : Prop := FnGR P w K mg bs (L2.CX P w) lv (He.ga K "_law_inside") (spInside K Tb deep)
theorem L_inside (T : TX K mg) (U : TY P K) (Z : TZ P K) {Tb : List (Addr × Str)} {lv deep : Nat} (l8 : 8 ≤ lv) (FS : GStep P w K mg bs Tb lv deep) : GInside P w K mg bs Tb (lv + 1) deep :=
  T.f_law_inside.fnG S_law_inside (fun outer s vs H Q E ⟨_, _, _, _, _, _, _, _, _, _, _, h, _⟩ => by rw [h] <;> rfl) (fun _ _ _ _ _ _ us hl => match us, hl with | [_, _, _, _], _ => rfl) fun cdv Ar outer s H vs Q E hG hr qq => by
    obtain ⟨G, pen, q, a, ls, lt, lo, B, W, past, n, rfl, L, ok, hF, few, hn, k⟩ := qq
    have hu1 : (Ar.deeper (envOfC "_law_inside" (defScope s_law_inside) s.heap.objs.size (He.ga K "_law_inside") cdv)).units + 1 < cLine := by
      have := hr.un
      omega
    refine ⟨_, (pss_cons (ps_setLc (i := 4) (own := [("_law_lap", 7)]) rfl S_law_inside.nd rfl rfl (sw_true rfl rfl rfl (by decide +kernel)) (pi_range1 (by rfl) T.b_range (pa_cons (pe_op op_add pe_int (pe_callR (F_law_draw T) (hr.mono (by omega)) T.f_law_draw.kp T.g__law_draw pass0 (pa_cons (pv 0) (pa_cons pe_int pa_nil)))) pa_nil)) (blkOk_by (N := N_law_inside) (sc := defScope s_law_inside) (by decide +kernel)) (fun _ _ _ _ _ => (pg_name (i := 7) S_law_inside.nd rfl (Or.inl rfl))) (fun _ _ _ _ _ => pts_nil) (fun _ _ _ _ _ => (pe_callG FS hG (hr.mono (by omega)) T.f_law_step.kp T.g__law_step pass0 (pa_cons (pv 0) (pa_cons (pv 1) (pa_cons (pv 2) (pa_cons (pv 3) pa_nil))))))) (pss_cons (ps_par (i := 5) (j := 6) (by rfl) S_law_inside.nd rfl rfl (by decide) rfl rfl (pa_cons (pe_callR (F_law_draw T) (hr.mono (by omega)) T.f_law_draw.kp T.g__law_draw pass0 (pa_cons (pv 0) (pa_cons pe_int pa_nil))) (pa_cons pe_dnewK pa_nil)) (by rfl)) (pss_cons (ps_if (pt_cmpR op_eq (pv 5) pe_int (nomark _)) (pss_one (ps_expr (pe_methR (pv 1) T.c_Network T.m_Network_send (X_send T U Z) (hr.mono (by omega)) (passes_call (takes_of rfl rfl rfl rfl) fun _ _ _ _ h => h) (pa_cons (StX.pe_makeR T.k_Frame (F_Frame1 T) (hr.mono (by omega)) (by rfl) T.g_Frame pass0 (pa_cons pe_str pa_nil)) pa_nil)))) pss_nil) (pss_cons (ps_if (pt_cmpR op_eq (pv 5) pe_int (nomark _)) (pss_one (ps_ret (pe_dgetX rfl hu1 (takes_of rfl rfl rfl rfl) (pv 6) pe_str (fun _ _ => rfl)))) pss_nil) (pss_one (ps_ret (pe_tup (pa_cons (pe_cmpR op_notIn_seq pe_bl (pv 4) (by rfl)) (pa_cons (pe_propR (pv 1) T.c_Network T.p_Network_sights (F_Player_sights T) (hr.mono (by omega)) pass0) pa_nil))))))))), ?_⟩
    refine ⟨.ref pen, rfl, G, pen, n, 4, rfl, L.pn, L.gx, L.ga pen (by simp), by omega, by decide, by decide, fun r H1 r0 r1 e1 p1 => ?_⟩
    have L1 := L.drawn e1 p1
    have M1 := L.drawnMv e1
    obtain ⟨c, hc⟩ : ∃ c : Nat, 1 + r = c := ⟨(1 + r).toNat, by omega⟩
    have c4 : c ≤ 4 := by omega
    refine ⟨1, r, rfl, rfl, (c : Nat), (by show [V.int (1 + r)] = _; rw [hc]), by omega, by omega, fun D hD => ?_⟩
    have nHD : H D = none := by
      cases hh : H D with
      | none => rfl
      | some o =>
        have := e1 _ _ (show del pen H D = some o by rw [del_ne (p1.ne hD)]; exact hh)
        rw [this] at hD
        cases hD
    have LD := L1.add (o := .lst []) hD (.inl ⟨_, rfl⟩)
    refine lc_it (walk_range (lo := 0) (n := c)) (fun i Hy => ∃ ls' lt' lo' past', LS K Tb G Hy pen q a ls' lt' lo' (D :: B) W past' (n + 1 + i * cst deep) ∧ Hy D = some (.lst (List.replicate i (.bl true))) ∧ (∀ f ∈ past', FOk W.hs f) ∧ past'.length ≤ past.length + i ∧ Mw [pen, q, a, ls, lt, lo] H [pen, q, a, ls', lt', lo'] Hy)
      ⟨ls, lt, lo, past, LD.le (by omega), upd_same, hF, Nat.le_refl _, M1.trans (Mw.ex (Ex.new hD))⟩ (fun _ _ _ _ => trivial) ?_ ?_
    · intro i x Hq Hx hi ⟨ls', lt', lo', past', L', hD', hF', hl', M'⟩ ⟨hz, _⟩
      subst hz
      have nD : D ∉ [pen, q, a, ls', lt', lo'] := L'.db D List.mem_cons_self
      have hci : i * cst deep ≤ 3 * cst deep := Nat.mul_le_mul_right _ (by omega)
      refine ⟨rfl, yes ⟨.ref pen, rfl, .ref a, rfl, .ref q, rfl, _, rfl, G, pen, q, a, ls', lt', lo', D :: B, W, past', _, rfl, L', ok, hF', by omega, by omega, fun H2 ls2 lt2 lo2 past2 L2 hF2 hl2 M2 => ?_⟩⟩
      have hD2 := (M2 _ _ hD' nD (fun _ z => nomatch z)).1
      refine ⟨_, hD2, Evl.sz_lt (by rw [List.length_replicate]; omega), ls2, lt2, lo2, past2, (L2.put List.mem_cons_self (.inl ⟨_, rfl⟩)).le (by rw [Nat.succ_mul]; omega), by rw [upd_same, List.replicate_succ'], hF2, by omega, fun b o h nb t => ?_⟩
      obtain ⟨x, y⟩ := (M'.trans M2) b o h nb t
      exact ⟨by rw [upd_ne (fun z => by rw [z, nHD] at h; cases h)]; exact x, y⟩
    intro Hx ⟨ls', lt', lo', past', L', hD', hF', hl', M'⟩
    have hcc : c * cst deep ≤ 4 * cst deep := Nat.mul_le_mul_right _ c4
    refine ⟨.ref pen, rfl, G, pen, _, 5, rfl, L'.pn, L'.gx, L'.ga pen (by simp), by omega, by decide, by decide, fun way H3 w0 w1 e3 p3 => ?_⟩
    have L3 := L'.drawn e3 p3
    have M3 := M'.trans (L'.drawnMv e3)
    have nD3 : D ≠ pen := fun z => L'.db D List.mem_cons_self (by rw [z]; simp)
    have hD3 : H3 D = some (.lst (List.replicate c (.bl true))) := e3 _ _ (by rw [del_ne nD3]; exact hD')
    refine fun dn hdn => ⟨_, _, rfl, ?_⟩
    have L4 := L3.ex (Ex.new (o := .dK []) hdn)
    have M4 := M3.trans (Mw.ex (Ex.new (o := .dK []) hdn))
    have D4 := (Ex.new (o := .dK []) hdn) _ _ hD3
    have dn4 : upd H3 dn (.dK []) dn = some (.dK []) := upd_same
    revert L4 M4 D4 dn4
    generalize upd H3 dn (.dK []) = H4
    intro L4 M4 D4 dn4
    have done : ∀ {H9 : Hp}, Ex H4 H9 → LS K Tb G H9 pen q a ls' lt' lo' B W past' (n + 4 * cst deep + 2) ∧ Mw [pen, q, a, ls, lt, lo] H [pen, q, a, ls', lt', lo'] H9 := fun e => ⟨((L4.ex e).drop fun b hb => List.mem_cons_of_mem _ hb).le (by omega), M4.trans (Mw.ex e)⟩
    have net4 : NetAt K H4 H4 a W past' ls' lt' lo' := L4.net.mono cut_ex fun b _ o h => h
    obtain ⟨dx, w1, pH, ss, fs, os, h1, h2, h3, h4, h5, h6, h7, h8, h9, _⟩ := id net4
    refine ⟨.int way, rfl, rfl, _, rfl, ?_⟩
    by_cases c0 : way = 0
    · rw [decide_eq_true (by rw [c0])]
      refine iteT ⟨.ref a, rfl, a, dx, _, rfl, h1, netFs_no (by decide +kernel), fun y dy hy hdy ny => ⟨y, dy, "nobody", none, rfl, upd_same, ⟨nobody_ok, fun x e => nomatch e⟩, fun H5 e5 fr5 => ⟨rfl, ?_⟩⟩⟩
      have e45 : Ex H4 H5 := mk_ex hy hdy e5
      refine ⟨a, y, W, "nobody", none, rfl, net4.i.mono e45, fr5, L.no, fun dd H6 e6 h6 => ?_⟩
      obtain ⟨q1, q2⟩ := done (e45.trans e6)
      exact (k H6 ls' lt' lo' past' q1 q2).2.1 dd h6
    rw [decide_eq_false (fun z => c0 (by injection z))]
    refine iteF ⟨_, rfl, rfl, _, rfl, ?_⟩
    by_cases c1 : way = 1
    · rw [decide_eq_true (by rw [c1])]
      refine iteT ⟨.ref dn, rfl, dn, none, rfl, .inl ⟨[], .inr "gone", .inl dn4, rfl, rfl⟩, (fun v e => nomatch e), fun _ d => ?_⟩
      obtain ⟨q1, q2⟩ := done (Ex.refl H4)
      exact (k H4 ls' lt' lo' past' q1 q2).2.2 d
    rw [decide_eq_false (fun z => c1 (by injection z))]
    refine iteF ⟨.ref D, rfl, D, _, rfl, .inl (.inl (.inl D4)), rfl, flat_repl c, .ref a, rfl, a, dx, _, rfl, h1, a, W, past', ls', lt', lo', os, rfl, net4, h8, by omega, fun p H5 np e5 hp => ⟨Evl.sz_of (by show 2 ≤ 100000; decide), fun t ht => ?_⟩⟩
    obtain ⟨q1, q2⟩ := done (e5.trans (Ex.new ht))
    refine (k _ ls' lt' lo' past' q1 q2).1 t p os ?_ ((Ex.new ht) _ _ hp) ?_
    · rw [upd_same, in_repl c] <;> rfl
    · exact (Paired.length h9).trans (SfM.sightsFrom_len W.wb past' mem0)
end SfW
namespace SfW
open PySem PySem.Spec PyProof.Rows
open L2 hiding del del_ne del_same
open Evl (Ex RetV)
open LamX (CodeO TabS Tabs ExtN TabB lamEnv)
/-! the law's trials -/
/-- the def st stands at f, its code at c -/
structure FnC (K : PySem.W.Frag) (f : Addr) (x qual : Str) (st : Stmt) (c : Addr) : Prop where
  at_ : ∃ (oc : Value) (od : Option Addr) (osl : Array (Option Value)) (kV doc pm : Value) (an : Option Addr) (ct : Value), K.lookup f = some ⟨oc, od, .func (PySem.W.fnOf x qual (defArgs st) (defBody st) (defScope st) .none kV doc pm an (.ref c) ct), osl⟩ ∧ PySem.W.codeIn K (.ref c) qual = true
theorem FnC.fnG0 {P : Program} {w : World} {K : PySem.W.Frag} {mg : Str → Option Value} {base : Heap} {k : Nat} {sp : SpS} {x qual : Str} {st : Stmt} {a c : Addr} {N ps : List Str} (F : FnC K a x qual st c) (S : FnScope N ps (defScope st))
    (len : ∀ outer s vs H Q E, sp outer s vs H Q E → vs.length = ps.length)
    (hb : ∀ (kV doc pm : Value) (an : Option Addr) (cdv ct : Value) (us : List Value), us.length = ps.length → bindArgs (PySem.W.fnOf x qual (defArgs st) (defBody st) (defScope st) .none kV doc pm an cdv ct) ⟨us, []⟩ = pure (ps.zip us))
    (hbody : ∀ (A : Around) (outer : List Env) (s : Shared) (H : Hp) (vs : List V) (Q : VK) (E : XK), A.guards = some [] → Room k (A.deeper (envOfC qual (defScope st) s.heap.objs.size a (.ref c))) → sp outer s vs H Q E →
      ∃ t, PSs (cxOf CX0 P w K mg base N qual (defScope st) a (.ref c) A outer s H E).nox (defBody st) t ∧ t { nx := fun _ H' => Q .non H', rt := Q } (start N vs) H) : FnG P w K mg base CX0 (k + 1) a sp := by
  obtain ⟨oc, od, osl, kV, doc, pm, an, ct, lk, hcd⟩ := F.at_
  intro A outer s H us vs Q E hG hr e0 r hs
  have hl := len _ _ _ _ _ _ hs
  refine LamX.run_ofS lk hcd S hr e0 (.of_eq (hb kV doc pm an (.ref c) ct us (by rw [← r.length]; exact hl))) r hl fun hr' => ?_
  obtain ⟨t, h1, h2⟩ := hbody A outer s H vs Q E hG hr' hs
  exact ⟨t, h1.nox, h2⟩
variable {P : Program} {w : World} {K : PySem.W.Frag} {mg : Str → Option Value} {bs : Heap}
section
variable {Tb : List (Addr × Str)} {G H H2 H4 H5 : Hp} {pen q q2 a ls lt lo t l1 l2 l3 : Addr} {B C : List Addr} {W : WD} {past : List Fr} {n m : Nat} {ps : List V}
/-- nothing stands there, or a table -/
def Nw (H : Hp) (b : Addr) : Prop := ∀ o, H b = some o → ∃ ps, o = .tbl ps
theorem Nw.of {H : Hp} {b : Addr} (h : H b = none) : Nw H b := fun o e => by
  rw [h] at e
  cases e
/-- a trial begins: the list q2 is a copy, q and C are set aside -/
theorem LS.trial (L : LS K Tb G H pen q a ls lt lo B W past n) (k : ∀ b o, H b = some o → (∀ ps, o ≠ .tbl ps) → H4 b = some o) (T4 : Tabs Tb H4) (hq : H q = some (.lst ps)) (n2 : H q2 = none) (hq2 : H4 q2 = some (.lst ps))
    (hC : ∀ b ∈ C, Nw H b ∧ b ≠ q2 ∧ ((∃ xs, H4 b = some (.lst xs)) ∨ ∃ C dx fs, H4 b = some (.ins C dx fs))) : LS K Tb G H4 pen q2 a ls lt lo (q :: C ++ B) W past n := by
  have gn : ∀ {b : Addr}, Nw H b → G b = none := fun {b} h => by
    cases e : G b with
    | none => rfl
    | some o =>
      obtain ⟨ps, z⟩ := h _ (L.gx _ _ e)
      exact (L.gt b ps (by rw [e, z])).elim
  have fr := L.fresh n2
  simp only [List.cons_append, List.nil_append, List.mem_cons, not_or] at fr
  obtain ⟨f1, f2, f3, f4, f5, f6, f7⟩ := fr
  obtain ⟨z1, z2, z3, z4, z5, z6, z7, z8, z9, z10, z11, z12, z13, z14, z15⟩ := L.ne
  have so : ∀ b ∈ [pen, q, a, ls, lt, lo], ∃ o, H b = some o ∧ ∀ ps, o ≠ .tbl ps := fun b hb => by
    rcases L.muts b (List.mem_append_left _ hb) with ⟨xs, e⟩ | ⟨C, dx, fs, e⟩
    · exact ⟨_, e, fun _ z => nomatch z⟩
    · exact ⟨_, e, fun _ z => nomatch z⟩
  obtain ⟨ps', hq', hT⟩ := L.pst
  obtain rfl : ps = ps' := by
    rw [hq] at hq'
    injection hq' with h
    injection h
  have cx : Ex (cut ([pen, q, a, ls, lt, lo] ++ B) H) (cut ([pen, q2, a, ls, lt, lo] ++ (q :: C ++ B)) H4) := fun b o h => by
    obtain ⟨nb, hb, tt⟩ := cut_of h
    refine cut_in (k _ _ hb tt) (fun z => ?_) tt
    simp only [List.cons_append, List.nil_append, List.mem_cons, List.mem_append, not_or] at z nb
    rcases z with z | z | z | z | z | z | z | z | z
    · exact nb.1 z
    · rw [z, n2] at hb
      cases hb
    · exact nb.2.2.1 z
    · exact nb.2.2.2.1 z
    · exact nb.2.2.2.2.1 z
    · exact nb.2.2.2.2.2.1 z
    · exact nb.2.1 z
    · obtain ⟨ps, e⟩ := (hC b z).1 _ hb
      exact tt ps e
    · exact nb.2.2.2.2.2.2 z
  have kk : ∀ {b : Addr}, b ∈ [pen, q, a, ls, lt, lo] → ∀ o, H b = some o → H4 b = some o := fun {b} hb o h => by
    obtain ⟨u, hu, tu⟩ := so b hb
    rw [h] at hu
    cases hu
    exact k _ _ h tu
  refine ⟨L.net.mono cx fun b hb o h => kk (by simp only [List.mem_cons, List.not_mem_nil, or_false] at hb ⊢; rcases hb with rfl | rfl | rfl | rfl <;> simp) o h, ⟨ps, hq2, Paired.mapP hT fun v f ⟨p, q1, q2⟩ => ⟨p, q1, k _ _ q2 fun _ z => nomatch z⟩⟩, L.pn.mono (Ex.refl G) (fun o h => kk (by simp) o h) (Nat.le_refl _), ?_,
    fun b o h => k _ _ (L.gx _ _ h) fun ps e => L.gt b ps (by rw [h, e]), fun b hb => ?_, L.gt, T4, fun b hb => ?_, fun b hb => ?_, fun b hb => ?_, L.no⟩
  · simp only [List.nodup_cons, List.mem_cons, List.not_mem_nil, or_false, not_or, not_false_eq_true, List.nodup_nil, and_true]
    exact ⟨⟨Ne.symm f1, z2, z3, z4, z5⟩, ⟨f3, f4, f5, f6⟩, ⟨z10, z11, z12⟩, ⟨z13, z14⟩, z15⟩
  · simp only [List.mem_cons, List.not_mem_nil, or_false] at hb
    rcases hb with rfl | rfl | rfl | rfl | rfl | rfl
    · exact L.ga _ (by simp)
    · exact gn (Nw.of n2)
    all_goals exact L.ga _ (by simp)
  · rcases List.mem_cons.mp hb with rfl | hb
    · exact .inl ⟨ps, kk (by simp) _ hq⟩
    rcases List.mem_append.mp hb with hb | hb
    · exact (hC b hb).2.2
    · rcases L.mb b hb with ⟨xs, e⟩ | ⟨C, dx, fs, e⟩
      · exact .inl ⟨xs, k _ _ e fun _ z => nomatch z⟩
      · exact .inr ⟨C, dx, fs, k _ _ e fun _ z => nomatch z⟩
  · intro z
    simp only [List.mem_cons, List.not_mem_nil, or_false] at z
    rcases List.mem_cons.mp hb with rfl | hb
    · rcases z with z | z | z | z | z | z
      · exact z1 z.symm
      · exact f2 z.symm
      · exact z6 z
      · exact z7 z
      · exact z8 z
      · exact z9 z
    rcases List.mem_append.mp hb with hb | hb
    · obtain ⟨c1, c2, _⟩ := hC b hb
      have old : ∀ {y : Addr}, y ∈ [pen, q, a, ls, lt, lo] → b ≠ y := fun {y} hy e => by
        obtain ⟨u, hu, tu⟩ := so y hy
        rw [← e] at hu
        obtain ⟨ps, e2⟩ := c1 _ hu
        exact tu ps e2
      rcases z with z | z | z | z | z | z
      · exact old (by simp) z
      · exact c2 z
      all_goals exact old (by simp) z
    · have db := L.db b hb
      simp only [List.mem_cons, List.not_mem_nil, or_false, not_or] at db
      rcases z with z | z | z | z | z | z
      · exact db.1 z
      · exact f7 (z ▸ hb)
      · exact db.2.2.1 z
      · exact db.2.2.2.1 z
      · exact db.2.2.2.2.1 z
      · exact db.2.2.2.2.2 z
  · rcases List.mem_cons.mp hb with rfl | hb
    · exact L.ga _ (by simp)
    rcases List.mem_append.mp hb with hb | hb
    · exact gn (hC b hb).1
    · exact L.gb b hb
theorem netFs_injH {w p a b c w' p' a' b' c' : Addr} (h : netFs w p a b c = netFs w' p' a' b' c') : p = p' := by
  injection h with _ h
  injection h with _ h
  injection h with h _
  injection h with _ h
  injection h
/-- a trial ends: all is as it was when it began -/
theorem LS.back {ls5 lt5 lo5 ls6 lt6 lo6 nn dt dy w p : Addr} {past5 : List Fr} {ss fs os : List V} {ct : Addr} {ft : List (Str × V)} (L : LS K Tb G H pen q a ls lt lo B W past n) (k : ∀ b o, H b = some o → (∀ ps, o ≠ .tbl ps) → H4 b = some o) (n2 : H q2 = none) (hls : H ls = some (.lst ss)) (hlt : H lt = some (.lst fs)) (hlo : H lo = some (.lst os))
    (L5 : LS K Tb G H5 pen q2 a ls5 lt5 lo5 (q :: [l1, l2, l3, t, nn] ++ B) W past5 m) (M5 : Mw [pen, q2, a, ls, lt, lo] H4 [pen, q2, a, ls5, lt5, lo5] H5) (h1 : H4 l1 = some (.lst ss)) (h2 : H4 l2 = some (.lst fs)) (h3 : H4 l3 = some (.lst os)) (ht : H4 t = some (.ins ct dt ft))
    (e1 : Nw H l1 ∧ l1 ≠ q2) (e2 : Nw H l2 ∧ l2 ≠ q2) (e3 : Nw H l3 ∧ l3 ≠ q2) (et : Nw H t) (d12 : l1 ≠ l2) (d13 : l1 ≠ l3) (d23 : l2 ≠ l3) (ha5 : H5 a = some (.ins (He.ga K "Network") dy (netFs w p ls6 lt6 lo6))) :
    LS K Tb G (backAt K H5 t dt a dy w p l1 l2 l3) pen q a l1 l2 l3 B W past m ∧ Mw [pen, q, a, ls, lt, lo] H [pen, q, a, l1, l2, l3] (backAt K H5 t dt a dy w p l1 l2 l3) := by
  obtain ⟨z1, z2, z3, z4, z5, z6, z7, z8, z9, z10, z11, z12, z13, z14, z15⟩ := L.ne
  obtain ⟨ps, hq, hT⟩ := L.pst
  have old : ∀ {x y : Addr} {o : HO}, H x = some o → (∀ ps, o ≠ .tbl ps) → Nw H y → x ≠ y := fun h1 tt h2 z => by
    rw [z] at h1
    obtain ⟨ps, e⟩ := h2 _ h1
    exact tt ps e
  have six : ∀ {x : Addr}, x ∈ [pen, q, a, ls, lt, lo] ++ B → ¬ Nw H x := fun {x} hx z => by
    rcases L.muts x hx with ⟨xs, e⟩ | ⟨C, dx, fs, e⟩ <;> (obtain ⟨ps, e2⟩ := z _ e; cases e2)
  have apart : ∀ {x y : Addr}, x ∈ [pen, q, a, ls, lt, lo] ++ B → Nw H y → x ≠ y := fun hx hy z => six hx (z ▸ hy)
  have n2 : Nw H q2 := Nw.of n2
  have far : ∀ {y : Addr}, Nw H y → y ≠ q2 → y ∉ [pen, q2, a, ls, lt, lo] := fun {y} hy hn z => by
    simp only [List.mem_cons, List.not_mem_nil, or_false] at z
    rcases z with z | z | z | z | z | z
    · exact apart (by simp) hy z.symm
    · exact hn z
    all_goals exact apart (by simp) hy z.symm
  have b6 : ∀ {x : Addr} {o : HO}, H5 x = some o → x ≠ a → x ≠ t → backAt K H5 t dt a dy w p l1 l2 l3 x = some o := fun h n1 n2 => by
    unfold backAt
    rw [upd_ne n2, upd_ne n1]
    exact h
  have old5 : ∀ b o, H b = some o → b ∉ [pen, a, ls, lt, lo] → (∀ ps, o ≠ .tbl ps) → H5 b = some o := fun b o h nb tt => by
    refine (M5 b o (k b o h tt) (fun z => ?_) tt).1
    simp only [List.mem_cons, List.not_mem_nil, or_false, not_or] at z nb
    rcases z with z | z | z | z | z | z
    · exact nb.1 z
    · exact old h tt n2 z
    · exact nb.2.1 z
    · exact nb.2.2.1 z
    · exact nb.2.2.2.1 z
    · exact nb.2.2.2.2 z
  have tt4 : t ≠ l1 ∧ t ≠ l2 ∧ t ≠ l3 := ⟨ne_of ht h1 (fun z => nomatch z), ne_of ht h2 (fun z => nomatch z), ne_of ht h3 (fun z => nomatch z)⟩
  have tq2 : t ≠ q2 := fun z => by
    have := L5.db t (by simp)
    exact this (by simp [z])
  have nl : ∀ (xs : List V) (ps : Array Value), HO.lst xs ≠ .tbl ps := fun _ _ z => nomatch z
  have g1 := (M5 _ _ h1 (far e1.1 e1.2) (nl _)).1
  have g2 := (M5 _ _ h2 (far e2.1 e2.2) (nl _)).1
  have g3 := (M5 _ _ h3 (far e3.1 e3.2) (nl _)).1
  have an : ∀ {y : Addr}, Nw H y → y ≠ a := fun hy => Ne.symm (apart (by simp) hy)
  have hq5 : H5 q = some (.lst ps) := old5 _ _ hq (by simp [Ne.symm z1, z6, z7, z8, z9]) (nl _)
  have qt : q ≠ t := apart (by simp) et
  have pt : pen ≠ t := apart (by simp) et
  have at_ : a ≠ t := apart (by simp) et
  have cx5 : Ex (cut ([pen, q2, a, ls5, lt5, lo5] ++ (q :: [l1, l2, l3, t, nn] ++ B)) H5) (cut ([pen, q, a, l1, l2, l3] ++ B) (backAt K H5 t dt a dy w p l1 l2 l3)) := fun b o h => by
    obtain ⟨nb, hb, tt⟩ := cut_of h
    simp only [List.cons_append, List.nil_append, List.mem_cons, List.mem_append, List.not_mem_nil, or_false, not_or] at nb
    obtain ⟨m1, m2, m3, m4, m5, m6, m7, m8, m9, m10, m11, m12, m13⟩ := nb
    refine cut_in (b6 hb m3 m11) (fun z => ?_) tt
    simp only [List.cons_append, List.nil_append, List.mem_cons, not_or] at z
    rcases z with z | z | z | z | z | z | z
    · exact m1 z
    · exact m7 z
    · exact m3 z
    · exact m8 z
    · exact m9 z
    · exact m10 z
    · exact m13 z
  have cx0 : Ex (cut ([pen, q, a, ls, lt, lo] ++ B) H) (cut ([pen, q, a, l1, l2, l3] ++ B) (backAt K H5 t dt a dy w p l1 l2 l3)) := fun b o h => by
    obtain ⟨nb, hb, tt⟩ := cut_of h
    simp only [List.cons_append, List.nil_append, List.mem_cons, not_or] at nb
    obtain ⟨m1, m2, m3, m4, m5, m6, m7⟩ := nb
    refine cut_in (b6 (old5 _ _ hb (by simp [m1, m3, m4, m5, m6]) tt) m3 (old hb tt et)) (fun z => ?_) tt
    simp only [List.cons_append, List.nil_append, List.mem_cons, not_or] at z
    rcases z with z | z | z | z | z | z | z
    · exact m1 z
    · exact m2 z
    · exact m3 z
    · exact old hb tt e1.1 z
    · exact old hb tt e2.1 z
    · exact old hb tt e3.1 z
    · exact m7 z
  obtain ⟨dx, w0, pH, ss0, fs0, os0, n1, n2', n3, n4, n5, n6, n7, n8, n9, _⟩ := L.net
  obtain rfl : ss0 = ss := by rw [n4] at hls; injection hls with h; injection h
  obtain rfl : fs0 = fs := by rw [n6] at hlt; injection hlt with h; injection h
  obtain rfl : os0 = os := by rw [n8] at hlo; injection hlo with h; injection h
  obtain ⟨dx5, w5, pH5, ss5, fs5, os5, v1, v2, v3, _⟩ := L5.net
  rw [ha5] at v1
  injection v1 with v1
  injection v1 with _ v0 v1
  have v4 := netFs_inj v1
  have v5 := netFs_injH v1
  subst v4 v5
  obtain ⟨cl, cs, a1, r1, p1, p2, p3, p4, p5⟩ := L5.pn
  have fa : (backAt K H5 t dt a dy w p l1 l2 l3) a = some (.ins (He.ga K "Network") dy (netFs w p l1 l2 l3)) := by
    unfold backAt
    rw [upd_ne at_, upd_same]
  have G5 : ∀ {b : Addr}, b ∈ (q :: [l1, l2, l3, t, nn] ++ B) → G b = none := fun hb => L5.gb _ hb
  refine ⟨⟨⟨dy, w, p, _, _, _, fa, v2.mono cx5, cx5 _ _ v3, b6 g1 (an e1.1) (Ne.symm tt4.1), Paired.mapP n5 fun v m ⟨d, q1, q2⟩ => ⟨d, q1, q2.mono cx0⟩, b6 g2 (an e2.1) (Ne.symm tt4.2.1), n7.mono cx0, b6 g3 (an e3.1) (Ne.symm tt4.2.2), Paired.mapP n9 fun v m ⟨d, q1, q2⟩ => ⟨d, q1, cx0 _ _ q2⟩, d12, d13, d23⟩,
    ⟨ps, b6 hq5 z6 qt, Paired.mapP hT fun v f ⟨x, q1, q2⟩ => ⟨x, q1, ?_⟩⟩, ⟨cl, cs, a1, r1, b6 p1 z2 pt, p2, p3, p4, p5⟩, ?_, fun b o h => b6 (L5.gx _ _ h) (fun z => ?_) (fun z => ?_), fun b hb => ?_, L.gt, tabs_keep L5.tb fun b o h t1 t2 => b6 h (fun z => ?_) (fun z => ?_), fun b hb => ?_, fun b hb z => ?_, L.gb, L.no⟩, fun b o h nb tt => ⟨?_, fun z => ?_⟩⟩
  · exact (cut_of (cx0 _ _ (cut_in q2 (fun z => L.tup q2 z) fun _ z => nomatch z))).2.1
  · simp only [List.nodup_cons, List.mem_cons, List.not_mem_nil, or_false, not_or, not_false_eq_true, List.nodup_nil, and_true]
    exact ⟨⟨z1, z2, apart (by simp) e1.1, apart (by simp) e2.1, apart (by simp) e3.1⟩, ⟨z6, apart (by simp) e1.1, apart (by simp) e2.1, apart (by simp) e3.1⟩, ⟨apart (by simp) e1.1, apart (by simp) e2.1, apart (by simp) e3.1⟩, ⟨d12, d13⟩, d23⟩
  · rw [z, L.ga a (by simp)] at h
    cases h
  · rw [z, G5 (b := t) (by simp)] at h
    cases h
  · simp only [List.mem_cons, List.not_mem_nil, or_false] at hb
    rcases hb with rfl | rfl | rfl | rfl | rfl | rfl
    · exact L.ga _ (by simp)
    · exact L.ga _ (by simp)
    · exact L.ga _ (by simp)
    all_goals exact G5 (by simp)
  · rw [z, ha5] at h
    exact t2 _ _ _ (Option.some.inj h).symm
  · rcases L5.mb t (by simp) with ⟨xs, e⟩ | ⟨C, dx, fs, e⟩
    · rw [z, e] at h
      exact t1 _ (Option.some.inj h).symm
    · rw [z, e] at h
      exact t2 _ _ _ (Option.some.inj h).symm
  · have na : b ≠ a := fun z => L.db b hb (by simp [z])
    have nt : b ≠ t := apart (List.mem_append_right _ hb) et
    rcases L5.mb b (List.mem_append_right _ hb) with ⟨xs, e⟩ | ⟨C, dx, fs, e⟩
    · exact .inl ⟨xs, b6 e na nt⟩
    · exact .inr ⟨C, dx, fs, b6 e na nt⟩
  · have db := L.db b hb
    simp only [List.mem_cons, List.not_mem_nil, or_false, not_or] at z db
    rcases z with z | z | z | z | z | z
    · exact db.1 z
    · exact db.2.1 z
    · exact db.2.2.1 z
    · exact apart (List.mem_append_right _ hb) e1.1 z
    · exact apart (List.mem_append_right _ hb) e2.1 z
    · exact apart (List.mem_append_right _ hb) e3.1 z
  · simp only [List.mem_cons, List.not_mem_nil, or_false, not_or] at nb
    exact b6 (old5 _ _ h (by simp [nb]) tt) nb.2.2.1 (old h tt et)
  · simp only [List.mem_cons, List.not_mem_nil, or_false, not_or] at z nb
    rcases z with z | z | z | z | z | z
    · exact nb.1 z
    · exact nb.2.1 z
    · exact nb.2.2.1 z
    · exact old h tt e1.1 z
    · exact old h tt e2.1 z
    · exact old h tt e3.1 z
end
/-- how the two errors are caught -/
structure TQ (K : PySem.W.Frag) : Prop where
  nn : PySem.W.exmOne K (.ref (He.ga K "NoHost")) (.ref (He.ga K "NoHost")) = some true
  kn : PySem.W.exmOne K (.type "KeyError") (.ref (He.ga K "NoHost")) = some false
  kk : PySem.W.exmOne K (.type "KeyError") (.type "KeyError") = some true
abbrev qT : Str := ("_law_tried" : Str) ++ ".<locals>." ++ "<lambda>"
/-- what the lambda does, read in the maker's slots -/
abbrev tLam (K : PySem.W.Frag) (Tb : List (Addr × Str)) (deep : Nat) (E : XK) : TE := tCallR (spInside K Tb deep) E (tCons (tVar 1) (tCons (tVar 0) (tCons (tVar 8) (tCons (tOp (rI0 fun i j => .int (i - j)) (tVar 4) (tC (.int 1))) tNil))))
theorem L_ltried (T : TX K mg) (U : TY P K) (Z : TZ P K) (Y : TV K) (R : TQ K) {Tb : List (Addr × Str)} {c1 P1 : Addr} (FC : FnC K (He.ga K "_law_tried") "_law_tried" "_law_tried" s_law_tried c1) (TB : TabB bs mg c1 P1) (hm : (P1, qT) ∈ Tb) (hu : ∀ p ∈ Tb, p.1 = P1 → p.2 = qT)
    {lv deep : Nat} (l8 : 8 ≤ lv) (FI : GInside P w K mg bs Tb lv deep) : GTried P w K mg bs Tb (lv + 5) deep :=
  FC.fnG0 S_law_tried (fun outer s vs H Q E ⟨_, _, _, _, _, _, _, _, _, _, _, h, _⟩ => by rw [h] <;> rfl) (fun _ _ _ _ _ _ us hl => match us, hl with | [_, _, _, _], _ => rfl) fun Ar outer s H vs Q E hG hr qq => by
    obtain ⟨G, pen, q, a, ls, lt, lo, B, W, past, n, rfl, L, ok, hF, few, hn, k⟩ := qq
    refine ⟨_, (pss_cons (ps_asg (pe_tup (pa_cons (pe_callTy call_list_of (by rfl) T.b_list (by decide +kernel) (pa_cons (pv 2) pa_nil)) (pa_cons pe_non (pa_cons pe_bl pa_nil)))) (pg_tup (n := 3) (by rfl) (pgs_cons (pg_name (i := 7) S_law_tried.nd rfl (Or.inr rfl)) (pgs_cons (pg_name (i := 4) S_law_tried.nd rfl (Or.inl rfl)) (pgs_cons (pg_name (i := 5) S_law_tried.nd rfl (Or.inl rfl)) pgs_nil))))) (pss_cons (ps_try2 (i := 6) (c := .ref (He.ga K "NoHost")) (c2 := .type "KeyError") (Wout := fun _ _ _ _ => False) rfl rfl S_law_tried.nd rfl rfl ⟨rfl, by decide, .inl T.g_NoHost⟩ ⟨rfl, by decide, .inr ⟨T.b_KeyError, by decide +kernel, by decide⟩⟩ LamX.takes0 (tb := fun W => tAsg (tTriedL K Tb qT W (tVar 1) (tLam K Tb deep)) (gName 4)) (fun W pn xe tk _ => pss_one (ps_set (i := 4) S_law_tried.nd rfl (Or.inl rfl) (pe_triedL (k := lv) (Tb := Tb) (c := c1) (P := P1) (p := "_law_same") (tb := tLam K Tb deep) T (pv 1) hG (hr.mono (by omega)) tk ⟨lamS1_by (by show lamS1B _ (defScope s_law_tried) _ = true; decide +kernel), (by show ("_law_same" : Str) ∉ N_law_tried; decide +kernel), rfl, fun _ _ _ _ _ _ => rfl⟩ ⟨TB, rfl, hm, hu⟩ (fun A outer s H E f c9 hG2 hr2 => pe_callG FI hG2 (hr2.mono (by omega)) T.f_law_inside.kp T.g__law_inside (passes_call (takes_of rfl rfl rfl rfl) fun _ _ _ _ h => h) (pa_cons (pv 1) (pa_cons (pv 0) (pa_cons (pv 8) (pa_cons (pe_op op_sub (pv 4) pe_int) pa_nil)))))))) (fun a oe cls d pn hz hf => pss_one (ps_set (i := 5) S_law_tried.nd rfl (Or.inl rfl) (pe_cmpR op_eq (pe_xf Z.xf Z.no hz hf (pv 6)) pe_str (nomark _)))) (fun a oe cls d pn _ _ => pss_one (ps_set (i := 5) S_law_tried.nd rfl (Or.inl rfl) pe_bl))) (pss_cons (ps_if (PW.pt (pw_and (pt_cmpR op_isN (pv 4) pe_non (nomark _)) (pw_and1 (pt_not (pt_val (pv 5)))))) (pss_one (ps_ret pe_bl)) pss_nil) (pss_cons (ps_if (PW.pt (pw_and (pt_cmpR op_notN (pv 4) pe_non (nomark _)) (pw_and1 (PW.pt (pw_or (pt_cmpR op_isnot_bl (pe_ix ix_tup (pv 4) pe_int (fun _ _ => rfl)) pe_bl (nomark _)) (pw_or1 (pt_cmpR op_ne (pe_callB call_len_seq (by rfl) T.b_len PySem.boot_len (pa_cons (pe_ix ix_tup (pv 4) pe_int (fun _ _ => rfl)) pa_nil)) (pe_callB call_len_seq (by rfl) T.b_len PySem.boot_len (pa_cons (pv 7) pa_nil)) (nomark _)))))))) (pss_one (ps_ret pe_bl)) pss_nil) (pss_one (ps_ret (pe_callG (F_law_is_so T U Y) hG (hr.mono (by omega)) T.f_law_is_so.kp T.g__law_is_so pass0 (pa_cons (pv 1) (pa_cons (pv 2) pa_nil))))))))), ?_⟩
    obtain ⟨ps, hq, hT⟩ := L.pst
    obtain ⟨z1, z2, z3, z4, z5, z6, z7, z8, z9, z10, z11, z12, z13, z14, z15⟩ := L.ne
    refine ⟨.ref q, rfl, q, ps, rfl, .inl (.inl (.inl hq)), fun q2 hq2 => ⟨Evl.sz_of (by show 3 ≤ 100000; decide), fun tp htp => ⟨tp, _, rfl, .inl (.inl upd_same), rfl, _, _, rfl, _, _, rfl, _, _, rfl, rfl, ?_⟩⟩⟩
    have e02 : Ex H (upd (upd H q2 (.lst ps)) tp (.tup [.ref q2, .non, .bl false])) := (Ex.new hq2).trans (Ex.new htp)
    have hq22 : upd (upd H q2 (.lst ps)) tp (.tup [.ref q2, .non, .bl false]) q2 = some (.lst ps) := (Ex.new htp) _ _ upd_same
    revert e02 hq22
    generalize upd (upd H q2 (.lst ps)) tp (.tup [.ref q2, .non, .bl false]) = H2
    intro e02 hq22
    obtain ⟨dx, w1, pH, ss, fs, os, h1, h2, h3, h4, h5, h6, h7, h8, h9, d1, d2, d3⟩ := id L.net
    refine ⟨.ref a, rfl, a, dx, _, rfl, e02 _ _ h1, netFs_no (by decide +kernel), (L.ex e02).tb, fun cf H3 eN T3 hco => ?_⟩
    have nt : ∀ {o : HO}, (∃ xs, o = .lst xs) ∨ (∃ C dx fs, o = .ins C dx fs) → ∀ ps, o ≠ .tbl ps := fun h ps z => by
      rcases h with ⟨xs, rfl⟩ | ⟨C, dx, fs, rfl⟩ <;> cases z
    have k3 : ∀ b o, H b = some o → (∀ ps, o ≠ .tbl ps) → H3 b = some o := fun b o h t => eN _ _ (e02 _ _ h) t
    have q3 : H3 q2 = some (.lst ps) := eN _ _ hq22 fun _ z => nomatch z
    refine ⟨dx, w1, pH, ls, lt, lo, ss, fs, os, k3 _ _ h1 (fun _ z => nomatch z), k3 _ _ h4 (fun _ z => nomatch z), k3 _ _ h6 (fun _ z => nomatch z), k3 _ _ h8 (fun _ z => nomatch z), fun H4 t dt nn dn l1 l2 l3 e34 nt0 nn0 n10 n20 n30 d12 d13 d23 ht hnn g1 g2 g3 => ?_⟩
    have k4 : ∀ b o, H b = some o → (∀ ps, o ≠ .tbl ps) → H4 b = some o := fun b o h t => e34 _ _ (k3 _ _ h t)
    have nw : ∀ {b : Addr}, H3 b = none → Nw H b := fun {b} h o e => by
      cases o with
      | tbl ps => exact ⟨ps, rfl⟩
      | _ => exact absurd (k3 _ _ e (fun _ z => nomatch z)) (by rw [h]; exact fun z => nomatch z)
    have nq : ∀ {b : Addr}, H3 b = none → b ≠ q2 := fun h z => by
      rw [z, q3] at h
      cases h
    have L4 : LS K Tb G H4 pen q2 a ls lt lo (q :: [l1, l2, l3, t, nn] ++ B) W past n := L.trial k4 (T3.ext e34) hq hq2 (e34 _ _ q3) fun b hb => by
      simp only [List.mem_cons, List.not_mem_nil, or_false] at hb
      rcases hb with rfl | rfl | rfl | rfl | rfl
      · exact ⟨nw n10, nq n10, .inl ⟨_, g1⟩⟩
      · exact ⟨nw n20, nq n20, .inl ⟨_, g2⟩⟩
      · exact ⟨nw n30, nq n30, .inl ⟨_, g3⟩⟩
      · exact ⟨nw nt0, nq nt0, .inr ⟨_, _, _, ht⟩⟩
      · exact ⟨nw nn0, nq nn0, .inr ⟨_, _, _, hnn⟩⟩
    refine ⟨.ref a, rfl, e34 _ _ hco, .ref pen, rfl, .ref a, rfl, .ref q2, rfl, .int ((deep + 1 : Nat) : Int), rfl, ((deep + 1 : Nat) : Int), 1, rfl, rfl, G, pen, q2, a, ls, lt, lo, _, W, past, n, ?_, L4, ok, hF, by omega, by omega, fun H5 ls5 lt5 lo5 past5 L5 M5 => ?_⟩
    · show [V.ref pen, V.ref a, V.ref q2, V.int (((deep + 1 : Nat) : Int) - 1)] = _
      rw [show (((deep + 1 : Nat) : Int) - 1) = (deep : Nat) by omega]
    have six4 : ∀ {b : Addr}, H3 b = none → b ∉ [pen, q2, a, ls, lt, lo] := fun {b} h z => by
      simp only [List.mem_cons, List.not_mem_nil, or_false] at z
      have st : ∀ {x : Addr} {o : HO}, H3 x = some o → b ≠ x := fun hx e => by
        rw [e, hx] at h
        cases h
      obtain ⟨cl, cs, a1, r1, p1, _⟩ := L.pn
      rcases z with z | z | z | z | z | z
      · exact st (k3 _ _ p1 fun _ z => nomatch z) z
      · exact st q3 z
      · exact st (k3 _ _ h1 fun _ z => nomatch z) z
      · exact st (k3 _ _ h4 fun _ z => nomatch z) z
      · exact st (k3 _ _ h6 fun _ z => nomatch z) z
      · exact st (k3 _ _ h8 fun _ z => nomatch z) z
    have t5 := (M5 _ _ ht (six4 nt0) (fun _ z => nomatch z)).1
    have nn5 := (M5 _ _ hnn (six4 nn0) (fun _ z => nomatch z)).1
    obtain ⟨dx5, w5, pH5, ss5, fs5, os5, v1, _⟩ := id L5.net
    obtain ⟨L6, M6⟩ := L.back k4 hq2 h4 h6 h8 L5 M5 g1 g2 g3 ht ⟨nw n10, nq n10⟩ ⟨nw n20, nq n20⟩ ⟨nw n30, nq n30⟩ (nw nt0) d12 d13 d23 v1
    have keep6 : ∀ {x : Addr} {o : HO}, H5 x = some o → x ≠ a → x ≠ t → backAt K H5 t dt a dx5 w5 pH5 l1 l2 l3 x = some o := fun h n1 n2 => by
      unfold backAt
      rw [upd_ne n2, upd_ne n1]
      exact h
    have fin : ∀ {H9 : Hp}, Ex (backAt K H5 t dt a dx5 w5 pH5 l1 l2 l3) H9 → Q (.bl true) H9 := fun {H9} e9 => k H9 l1 l2 l3 ((L6.ex e9).le (by omega)) (M6.trans (Mw.ex e9))
    refine ⟨fun p sg os' hp hsg hlen => exit_ok t5 nn5 v1 ?_, fun dd hdd => ⟨⟨.ref _, rfl⟩, fun x y z => exit_ok t5 nn5 v1 ⟨rfl, ?_⟩⟩, fun d => ⟨⟨.ty "KeyError", rfl⟩, fun x y z => exit_ok t5 nn5 v1 ⟨rfl, ?_⟩⟩⟩
    · obtain ⟨ps5, hq5, hT5⟩ := L5.pst
      have ne5 := L5.ne
      have p6 := keep6 hp (ne_of hp v1 (fun z => nomatch z)) (ne_of hp t5 (fun z => nomatch z))
      have s6 := keep6 hsg (ne_of hsg v1 (fun z => nomatch z)) (ne_of hsg t5 (fun z => nomatch z))
      have q6 := keep6 hq5 ne5.2.2.2.2.2.1 (ne_of hq5 t5 (fun z => nomatch z))
      have le : os'.length = ps5.length := hlen.trans (Paired.length hT5).symm
      refine ⟨.ref p, rfl, rfl, _, rfl, iteF (iteF ⟨.ref p, rfl, rfl, _, rfl, iteT ⟨.ref p, rfl, p, _, 0, .bl true, rfl, rfl, .inl (.inl p6), rfl, true, true, rfl, rfl, _, rfl, iteF ⟨.ref p, rfl, p, _, 1, .ref sg, rfl, rfl, .inl (.inl p6), rfl, sg, os', rfl, .inr (.inl (.inl s6)), .ref q2, rfl, q2, ps5, rfl, .inl (.inl (.inl q6)), rfl, _, rfl, ?_⟩⟩⟩)⟩
      rw [decide_eq_true (by rw [le])]
      exact iteF ⟨.ref a, rfl, .ref q, rfl, L6.isso (E := E0) ok hF (by omega) fun H9 e9 => fin e9⟩
    · refine ⟨true, R.nn, fun _ ae hae => ?_, fun h => nomatch h⟩
      have d6 := keep6 hdd (ne_of hdd v1 (fun z => nomatch z)) (ne_of hdd t5 (fun z => nomatch z))
      refine ⟨.ref ae, rfl, rfl, rfl, dd, _, .str "nobody", rfl, d6, rfl, rfl, ?_⟩
      rw [decide_eq_true rfl]
      exact ⟨.non, rfl, rfl, _, rfl, iteT ⟨.bl true, rfl, true, rfl, iteF ⟨.non, rfl, rfl, _, rfl, iteF (iteF ⟨.ref a, rfl, .ref q, rfl, L6.isso (E := E0) ok hF (by omega) fun H9 e9 => fin e9⟩)⟩⟩⟩
    · refine ⟨false, R.kn, (fun h => nomatch h), fun _ => ⟨true, R.kk, (fun _ ae hae => ?_), (fun h => nomatch h)⟩⟩
      exact ⟨.non, rfl, rfl, _, rfl, iteT ⟨.bl true, rfl, true, rfl, iteF ⟨.non, rfl, rfl, _, rfl, iteF (iteF ⟨.ref a, rfl, .ref q, rfl, L6.isso (E := E0) ok hF (by omega) fun H9 e9 => fin e9⟩)⟩⟩⟩
end SfW
namespace SfW
open PySem PySem.Spec PyProof.Rows
open L2 hiding del del_ne del_same
open Evl (Ex RetV)
open LamX (CodeO TabS Tabs ExtN TabB lamEnv)
/-! the law's last trial -/
/-- len(x), x an instance with its own __len__ -/
theorem call_lenO {X : Cx} {CX : CXT} {n : Nat} {C f : Addr} {sp : Sp} {E : XK} (F : FnR X.prog X.w X.K X.mg X.base CX n f sp) (hr : Room (n + 1) X.A) (hs : PySem.W.findIn X.K (.ref C) "__len__" = some (some (.ref f))) (hf : PySem.W.isFn X.K (.ref f) = true) (hx : Passes CX X E) :
    CallR X (.builtin "len") (fun xs H Q => ∃ a dx fs, xs = [.ref a] ∧ H a = some (.ins C dx fs) ∧ sp [.ref a] H (fun v H2 => ∃ k : Nat, v = .int k ∧ k < 1000000 ∧ Q v H2) E) := by
  intro pins s σ H xs us Q I r h
  obtain ⟨a, dx, fs, rfl, ha, q⟩ := h
  obtain ⟨u, rfl, ru⟩ := vals1 r
  obtain rfl : u = Value.ref a := ru
  obtain ⟨mA, J, _⟩ := ins_get I.hok ha
  obtain ⟨od, J, _⟩ := J.look
  obtain ⟨m, hF⟩ := I.fr
  have e := I.env0
  have eI : Env0 X.prog X.w X.K X.mg X.base X.A.in1 X.stack s H := ⟨e.frames, e.mod, e.bs, e.bsz, e.funs, e.frf, e.hok, e.bare⟩
  refine PySem.W.len_K hF I.ok.mod.kin J hs hf ?_
  refine wpAny_call (codeAny_mono (F X.A.in1 X.stack s H [.ref a] [.ref a] _ E (L2.Sub.in1 ⟨hr, rfl⟩).room eI (.cons rfl .nil) q) fun r s' hq => ?_)
  cases r with
  | error er => exact hx pins σ H s er s' I hq
  | ok fl =>
    cases fl with
    | ret w =>
      obtain ⟨z, H', I', rz, k, rfl, hk, q⟩ := I.after hq
      obtain ⟨t, rfl⟩ := rz
      exact ⟨⟨by omega, by omega⟩, ⟨.int k, H', I'.tok _, ⟨_, rfl⟩, q⟩⟩
    | next => exact False.elim hq
    | brk => exact False.elim hq
    | cont => exact False.elim hq
variable {P : Program} {w : World} {K : PySem.W.Frag} {mg : Str → Option Value} {bs : Heap}
def spIsOne (K : PySem.W.Frag) : Sp := fun vs H Q _ => ∃ (A : List Addr) (a ls lt lo : Addr) (W : WD) (past : List Fr), vs = [.ref a, .ref a] ∧ NetAt K (cut A H) H a W past ls lt lo ∧ Muts A H ∧ ls ∈ A ∧ lt ∈ A ∧ lo ∈ A ∧ WOk W ∧ (∀ f ∈ past, SfM.FrIn W.wb f) ∧ past.length ≤ 99 ∧
  ∀ H2, (∀ b o, H b = some o → b ≠ ls → b ≠ lt → b ≠ lo → H2 b = some o) → Q (.bl true) H2
theorem F_law_is_one (T : TX K mg) : FnR P w K mg bs CX0 6 (He.ga K "_law_is_one") (spIsOne K) :=
  T.f_law_is_one.fn S_law_is_one (fun vs H Q E ⟨_, _, _, _, _, _, _, h, _⟩ => by rw [h] <;> rfl) (fun _ _ _ _ _ _ us hl => match us, hl with | [_, _], _ => rfl) (body0 fun cdv Ar outer s H vs Q E hr qq => by
    obtain ⟨A, a, ls, lt, lo, W, past, rfl, hN, mu, i1, i2, i3, ok, fins, few, k⟩ := qq
    refine ⟨_, (pss_cons (ps_set (i := 2) S_law_is_one.nd rfl (Or.inl rfl) (pe_callB (call_lenO (F_Player_len T) (hr.mono (by decide)) T.m_Network_len.at_ T.m_Network_len.fn pass0) (by rfl) T.b_len PySem.boot_len (pa_cons (pv 0) pa_nil))) (pss_cons (ps_expr (pe_methR (pv 1) T.c_Network T.m_Network_send (F_send T) (hr.mono (by decide)) pass0 (pa_cons (StX.pe_makeR T.k_Frame (F_Frame1 T) (hr.mono (by decide)) (by rfl) T.g_Frame pass0 (pa_cons (pe_ix ix_tup (pe_propR (pv 1) T.c_Network T.p_Network_hosts (F_Player_hosts T) (hr.mono (by decide)) pass0) pe_int (fun _ _ => rfl)) pa_nil)) pa_nil))) (pss_one (ps_ret (pe_cmpR op_eq (pe_callB (call_lenO (F_Player_len T) (hr.mono (by decide)) T.m_Network_len.at_ T.m_Network_len.fn pass0) (by rfl) T.b_len PySem.boot_len (pa_cons (pv 0) pa_nil)) (pe_op op_add (pv 2) pe_int) (nomark _)))))), ?_⟩
    have hNH : NetAt K H H a W past ls lt lo := hN.mono cut_ex fun b _ o q => q
    obtain ⟨dx, w1, pH, ss, fs, os, h1, h2, h3, h4, h5, h6, h7, h8, h9, _⟩ := id hNH
    refine ⟨.ref a, rfl, a, dx, _, rfl, h1, a, W, past, ls, lt, lo, rfl, hNH, fun H1 e1 => ⟨past.length, rfl, by omega, ?_⟩⟩
    have two := ok.two
    obtain ⟨x0, r0, hx0⟩ : ∃ x r, W.hs = x :: r := by
      cases h : W.hs with
      | nil =>
        rw [h] at two
        exact absurd two (by decide)
      | cons x r => exact ⟨x, r, rfl⟩
    have mem0' : x0 ∈ W.hs := by rw [hx0] <;> exact List.mem_cons_self
    refine ⟨.ref a, rfl, a, dx, _, rfl, e1 _ _ h1, netFs_no (by decide +kernel), .ref a, rfl, a, dx, _, rfl, e1 _ _ h1, a, dx, _, .ref pH, rfl, e1 _ _ h1, rfl, pH, _, 0, .str x0, rfl, rfl, .inl (.inl (e1 _ _ h3)), (by rw [hx0]; exact atI_nat (xs := txs (x0 :: r0)) (j := 0) rfl), fun y dy hy hdy ny => ⟨y, dy, x0, none, rfl, upd_same, ⟨ok.nm _ mem0', fun x e => nomatch e⟩, fun H2 e2 fr2 => ⟨rfl, ?_⟩⟩⟩
    have e12 : Ex H1 H2 := mk_ex hy hdy e2
    have e02 := e1.trans e12
    obtain ⟨dxf, hfx⟩ := fr2
    have mu2 : Muts A H2 := fun b hb => (mu b hb).imp (fun ⟨xs, h⟩ => ⟨xs, e02 _ _ h⟩) fun ⟨C, dx, fs, h⟩ => ⟨C, dx, fs, e02 _ _ h⟩
    refine ⟨A, a, y, W, past, (x0, none), ls, lt, lo, rfl, hN.mono (cut_mono e02) (fun b _ o h => e02 b o h), mu2, i1, i2, i3, ok, fins, ⟨dxf, cut_in hfx (fun z => ?_) fun _ z => nomatch z⟩, ⟨mem0', fun t e => nomatch e⟩, by omega, fun v H3 fr3 net3 => ?_⟩
    · rcases mu y z with ⟨xs, h⟩ | ⟨C, dx, fs, h⟩ <;> (rw [e1 _ _ h] at hy; cases hy)
    have net3' : NetAt K H3 H3 a W (past ++ [(x0, none)]) ls lt lo := net3.mono cut_ex fun b _ o q => q
    obtain ⟨dx3, w3, pH3, ss3, fs3, os3, c1, _⟩ := id net3'
    refine ⟨.ref a, rfl, a, dx3, _, rfl, c1, a, W, _, ls, lt, lo, rfl, net3', fun H4 e4 => ⟨(past ++ [(x0, none)]).length, rfl, by rw [List.length_append]; show past.length + 1 < 1000000; omega, ?_⟩⟩
    refine ⟨.int (past.length : Nat), rfl, _, 1, rfl, rfl, rfl, ?_⟩
    rw [decide_eq_true (by rw [List.length_append] <;> rfl)]
    exact k H4 fun b o h n1 n2 n3 => e4 _ _ (fr3 _ _ (e02 _ _ h) n1 n2 n3))
end SfW
namespace SfW
open PySem PySem.Spec PyProof.Rows
open L2 hiding del del_ne del_same
open Evl (Ex RetV)
open LamX (CodeO TabS Tabs ExtN TabB lamEnv)
/-! the law -/
variable {P : Program} {w : World} {K : PySem.W.Frag} {mg : Str → Option Value} {bs : Heap}
theorem step_all (T : TX K mg) (U : TY P K) (Z : TZ P K) (Y : TV K) (R : TQ K) {Tb : List (Addr × Str)} {c1 P1 : Addr} (FC : FnC K (He.ga K "_law_tried") "_law_tried" "_law_tried" s_law_tried c1) (TB : TabB bs mg c1 P1) (hm : (P1, qT) ∈ Tb) (hu : ∀ p ∈ Tb, p.1 = P1 → p.2 = qT) :
    ∀ d, GStep P w K mg bs Tb (9 + 7 * d) d
  | 0 => L_step (lv := 8) (spT := fun _ _ _ _ => False) T U Y (Nat.le_refl _) (fun _ _ _ _ _ _ _ _ _ _ _ _ h => h.elim) fun d e => nomatch e
  | d + 1 => L_step (lv := 9 + 7 * d + 6) (spT := spLTried K Tb d) T U Y (by omega) (L_ltried T U Z Y R FC TB hm hu (by omega) (L_inside T U Z (by omega) (step_all T U Z Y R FC TB hm hu d))) fun d' e => by
      cases e
      rfl
section
variable {Tb : List (Addr × Str)} {G H H2 H5 : Hp} {pen q a ls lt lo t l1 l2 l3 : Addr} {B C : List Addr} {W : WD} {past : List Fr} {n m : Nat} {ps : List V}
/-- a trial ends in which only the network's own lists were changed -/
theorem LS.back2 {dx dt w p ct : Addr} {ss fs os : List V} {ft : List (Str × V)} (L : LS K Tb G H pen q a ls lt lo B W past n) (k : ∀ b o, H b = some o → (∀ ps, o ≠ .tbl ps) → b ∉ [ls, lt, lo] → H5 b = some o) (T5 : Tabs Tb H5) (ha : H a = some (.ins (He.ga K "Network") dx (netFs w p ls lt lo)))
    (hls : H ls = some (.lst ss)) (hlt : H lt = some (.lst fs)) (hlo : H lo = some (.lst os)) (h1 : H5 l1 = some (.lst ss)) (h2 : H5 l2 = some (.lst fs)) (h3 : H5 l3 = some (.lst os)) (ht : H5 t = some (.ins ct dt ft)) (e1 : Nw H l1) (e2 : Nw H l2) (e3 : Nw H l3) (et : Nw H t) (d12 : l1 ≠ l2) (d13 : l1 ≠ l3) (d23 : l2 ≠ l3) :
    LS K Tb G (backAt K H5 t dt a dx w p l1 l2 l3) pen q a l1 l2 l3 B W past n := by
  obtain ⟨z1, z2, z3, z4, z5, z6, z7, z8, z9, z10, z11, z12, z13, z14, z15⟩ := L.ne
  obtain ⟨ps, hq, hT⟩ := L.pst
  have six : ∀ {x : Addr}, x ∈ [pen, q, a, ls, lt, lo] ++ B → ¬ Nw H x := fun {x} hx z => by
    rcases L.muts x hx with ⟨xs, e⟩ | ⟨C, dx, fs, e⟩ <;> (obtain ⟨ps, e2⟩ := z _ e; cases e2)
  have apart : ∀ {x y : Addr}, x ∈ [pen, q, a, ls, lt, lo] ++ B → Nw H y → x ≠ y := fun hx hy z => six hx (z ▸ hy)
  have old : ∀ {x y : Addr} {o : HO}, H x = some o → (∀ ps, o ≠ .tbl ps) → Nw H y → x ≠ y := fun h1 tt h2 z => by
    rw [z] at h1
    obtain ⟨ps, e⟩ := h2 _ h1
    exact tt ps e
  have b6 : ∀ {x : Addr} {o : HO}, H5 x = some o → x ≠ a → x ≠ t → backAt K H5 t dt a dx w p l1 l2 l3 x = some o := fun h n1 n2 => by
    unfold backAt
    rw [upd_ne n2, upd_ne n1]
    exact h
  have tt4 : t ≠ l1 ∧ t ≠ l2 ∧ t ≠ l3 := ⟨ne_of ht h1 (fun z => nomatch z), ne_of ht h2 (fun z => nomatch z), ne_of ht h3 (fun z => nomatch z)⟩
  have at_ : a ≠ t := apart (by simp) et
  have gn : ∀ {b : Addr}, Nw H b → G b = none := fun {b} h => by
    cases e : G b with
    | none => rfl
    | some o =>
      obtain ⟨ps, z⟩ := h _ (L.gx _ _ e)
      exact (L.gt b ps (by rw [e, z])).elim
  have cx0 : Ex (cut ([pen, q, a, ls, lt, lo] ++ B) H) (cut ([pen, q, a, l1, l2, l3] ++ B) (backAt K H5 t dt a dx w p l1 l2 l3)) := fun b o h => by
    obtain ⟨nb, hb, tt⟩ := cut_of h
    simp only [List.cons_append, List.nil_append, List.mem_cons, not_or] at nb
    obtain ⟨m1, m2, m3, m4, m5, m6, m7⟩ := nb
    refine cut_in (b6 (k _ _ hb tt (by simp [m4, m5, m6])) m3 (old hb tt et)) (fun z => ?_) tt
    simp only [List.cons_append, List.nil_append, List.mem_cons] at z
    rcases z with z | z | z | z | z | z | z
    · exact m1 z
    · exact m2 z
    · exact m3 z
    · exact old hb tt e1 z
    · exact old hb tt e2 z
    · exact old hb tt e3 z
    · exact m7 z
  obtain ⟨dx0, w0, pH, ss0, fs0, os0, n1, n2', n3, n4, n5, n6, n7, n8, n9, _⟩ := L.net
  obtain rfl : ss0 = ss := by rw [n4] at hls; injection hls with h; injection h
  obtain rfl : fs0 = fs := by rw [n6] at hlt; injection hlt with h; injection h
  obtain rfl : os0 = os := by rw [n8] at hlo; injection hlo with h; injection h
  rw [ha] at n1
  injection n1 with v1
  injection v1 with _ v0 v1
  have v4 := netFs_inj v1
  have v5 := netFs_injH v1
  subst v4 v5
  obtain ⟨cl, cs, a1, r1, p1, p2, p3, p4, p5⟩ := L.pn
  have fa : (backAt K H5 t dt a dx w p l1 l2 l3) a = some (.ins (He.ga K "Network") dx (netFs w p l1 l2 l3)) := by
    unfold backAt
    rw [upd_ne at_, upd_same]
  have an : ∀ {y : Addr}, Nw H y → y ≠ a := fun hy => Ne.symm (apart (by simp) hy)
  refine ⟨⟨dx, w, p, _, _, _, fa, n2'.mono cx0, cx0 _ _ n3, b6 h1 (an e1) (Ne.symm tt4.1), Paired.mapP n5 fun v m ⟨d, q1, q2⟩ => ⟨d, q1, q2.mono cx0⟩, b6 h2 (an e2) (Ne.symm tt4.2.1), n7.mono cx0, b6 h3 (an e3) (Ne.symm tt4.2.2), Paired.mapP n9 fun v m ⟨d, q1, q2⟩ => ⟨d, q1, cx0 _ _ q2⟩, d12, d13, d23⟩,
    ⟨ps, b6 (k _ _ hq (fun _ z => nomatch z) (by simp [z7, z8, z9])) z6 (apart (by simp) et), Paired.mapP hT fun v f ⟨x, q1, q2⟩ => ⟨x, q1, ?_⟩⟩, ⟨cl, cs, a1, r1, b6 (k _ _ p1 (fun _ z => nomatch z) (by simp [z3, z4, z5])) z2 (apart (by simp) et), p2, p3, p4, p5⟩, ?_, fun b o h => ?_, fun b hb => ?_, L.gt, tabs_keep T5 fun b o h t1 t2 => b6 h (fun z => ?_) (fun z => ?_), fun b hb => ?_, fun b hb z => ?_, L.gb, L.no⟩
  · exact (cut_of (cx0 _ _ (cut_in q2 (fun z => L.tup q2 z) fun _ z => nomatch z))).2.1
  · simp only [List.nodup_cons, List.mem_cons, List.not_mem_nil, or_false, not_or, not_false_eq_true, List.nodup_nil, and_true]
    exact ⟨⟨z1, z2, apart (by simp) e1, apart (by simp) e2, apart (by simp) e3⟩, ⟨z6, apart (by simp) e1, apart (by simp) e2, apart (by simp) e3⟩, ⟨apart (by simp) e1, apart (by simp) e2, apart (by simp) e3⟩, ⟨d12, d13⟩, d23⟩
  · have gb : ∀ x ∈ [pen, q, a, ls, lt, lo], b ≠ x := fun x hx z => by
      rw [z, L.ga x hx] at h
      cases h
    have tt : ∀ ps, o ≠ .tbl ps := fun ps e => L.gt b ps (by rw [h, e])
    have hb := L.gx _ _ h
    exact b6 (k _ _ hb tt (by simp [gb ls (by simp), gb lt (by simp), gb lo (by simp)])) (gb a (by simp)) (old hb tt et)
  · simp only [List.mem_cons, List.not_mem_nil, or_false] at hb
    rcases hb with rfl | rfl | rfl | rfl | rfl | rfl
    · exact L.ga _ (by simp)
    · exact L.ga _ (by simp)
    · exact L.ga _ (by simp)
    · exact gn e1
    · exact gn e2
    · exact gn e3
  · have := k _ _ ha (fun _ z => nomatch z) (by simp [z10, z11, z12])
    rw [z, this] at h
    exact t2 _ _ _ (Option.some.inj h).symm
  · rw [z, ht] at h
    exact t2 _ _ _ (Option.some.inj h).symm
  · have db := L.db b hb
    simp only [List.mem_cons, List.not_mem_nil, or_false, not_or] at db
    have nt : b ≠ t := apart (List.mem_append_right _ hb) et
    rcases L.mb b hb with ⟨xs, e⟩ | ⟨C, dx, fs, e⟩
    · exact .inl ⟨xs, b6 (k _ _ e (fun _ z => nomatch z) (by simp [db])) db.2.2.1 nt⟩
    · exact .inr ⟨C, dx, fs, b6 (k _ _ e (fun _ z => nomatch z) (by simp [db])) db.2.2.1 nt⟩
  · have db := L.db b hb
    simp only [List.mem_cons, List.not_mem_nil, or_false, not_or] at z db
    rcases z with z | z | z | z | z | z
    · exact db.1 z
    · exact db.2.1 z
    · exact db.2.2.1 z
    · exact apart (List.mem_append_right _ hb) e1 z
    · exact apart (List.mem_append_right _ hb) e2 z
    · exact apart (List.mem_append_right _ hb) e3 z
end
theorem web_nt {H : Hp} {a : Addr} {W : WD} (h : WebAt K H a W) : WebAt K (cut [] H) a W := by
  obtain ⟨dx, x, pL, pH, dP, pS, dS, dG, refs, sd, gd, h1, h2, h3, h4, h5, h6, h7, h8, h9, h10, h11⟩ := h
  have e : ∀ {b : Addr} {o : HO}, H b = some o → (∀ ps, o ≠ .tbl ps) → cut [] H b = some o := fun h t => cut_in h (by simp) t
  exact ⟨dx, x, pL, pH, dP, pS, dS, dG, refs, sd, gd, e h1 (fun _ z => nomatch z), h2, e h3 (fun _ z => nomatch z), Paired.mapP h4 (fun v f ⟨b, q1, q2⟩ => ⟨b, q1, e q2 (fun _ z => nomatch z)⟩), e h5 (fun _ z => nomatch z), e h6 (fun _ z => nomatch z), e h7 (fun _ z => nomatch z), e h8 (fun _ z => nomatch z),
    (fun s hs => let ⟨l, a, b⟩ := h9 s hs; ⟨l, a, e b (fun _ z => nomatch z)⟩), e h10 (fun _ z => nomatch z), fun s hs => let ⟨l, a, b⟩ := h11 s hs; ⟨l, a, e b (fun _ z => nomatch z)⟩⟩
theorem hide_ex {a : Addr} {H0 H2 : Hp} : Ex (hide a H0 H2) H2 := fun b o h => by
  unfold hide at h
  split at h
  · exact h
  · split at h
    · cases h
    · cases h
    · exact h
theorem hide_no {a b : Addr} {H0 H2 : Hp} {o : HO} (h : hide a H0 H2 b = some o) (n : b ≠ a) : ∀ xs, H0 b ≠ some (.lst xs) := fun xs e => by
  unfold hide at h
  rw [if_neg n, e] at h
  cases h
theorem tabs_pen {Tb : List (Addr × Str)} {H H2 : Hp} {pen : Addr} {xs : List V} (t : Tabs Tb H) (e : Ex (del pen H) H2) (h : H pen = some (.lst xs)) : Tabs Tb H2 := tabs_keep t fun b o hb t1 _ => e _ _ (by rw [del_ne (fun z => by rw [z, h] at hb; exact t1 _ (Option.some.inj hb).symm)]; exact hb)
abbrev s_law : Stmt := topS 97
abbrev N_law : List Str := ["_law_script", "_law_pen_here", "_law_lap", "_law_ties", "_law_homes", "_law_past", "_law_turn", "_law_net"]
theorem S_law : FnScope N_law ["_law_script"] (defScope s_law) := ⟨rfl, rfl, rfl, by decide +kernel, rfl, by decide +kernel, by decide +kernel⟩
abbrev qL : Str := ("law" : Str) ++ ".<locals>." ++ "<lambda>"
def spLaw (K : PySem.W.Frag) (Tb : List (Addr × Str)) : Sp := fun vs H Q _ => ∃ (l : Addr) (ns : List Int), vs = [.ref l] ∧ SqL K H l (ns.map V.int) ∧ ns.length ≤ 63 ∧ Tabs Tb H ∧ ∀ H2, Q (.bl true) H2
abbrev tOne (K : PySem.W.Frag) (E : XK) : TE := tCallR (spIsOne K) E0 (tCons (tVar 8) (tCons (tVar 0) tNil))
theorem F_law (T : TX K mg) (U : TY P K) (Z : TZ P K) (Y : TV K) (R : TQ K) {Tb : List (Addr × Str)} {c1 P1 c2 P2 : Addr} (FC : FnC K (He.ga K "_law_tried") "_law_tried" "_law_tried" s_law_tried c1) (TB : TabB bs mg c1 P1) (hm : (P1, qT) ∈ Tb) (hu : ∀ p ∈ Tb, p.1 = P1 → p.2 = qT)
    {fa : Addr} (FL : FnC K fa "law" "law" s_law c2) (TB2 : TabB bs mg c2 P2) (hm2 : (P2, qL) ∈ Tb) (hu2 : ∀ p ∈ Tb, p.1 = P2 → p.2 = qL) : FnGR P w K mg bs CX0 32 fa (spLaw K Tb) :=
  FL.fnG0 S_law (fun outer s vs H Q E ⟨_, _, h, _⟩ => by rw [h] <;> rfl) (fun _ _ _ _ _ _ us hl => match us, hl with | [_], _ => rfl) fun Ar outer s H vs Q E hG hr qq => by
    obtain ⟨l, ns, rfl, hl, few, tb, k⟩ := qq
    have FS := step_all (w := w) T U Z Y R FC TB hm hu 3
    refine ⟨_, (pss_cons (ps_set (i := 1) S_law.nd rfl (Or.inl rfl) (pe_callR (F_law_pen T) (hr.mono (by omega)) T.f_law_pen.kp T.g__law_pen pass0 (pa_cons (pv 0) pa_nil))) (pss_cons (ps_for PassesOwn.never rfl (pi_range1 (by rfl) T.b_range (pa_cons pe_int pa_nil)) (pg_name (i := 2) S_law.nd rfl (Or.inl rfl)) (pss_cons (ps_asg (pe_callR (F_law_site T) (hr.mono (by omega)) T.f_law_site.kp T.g__law_site pass0 (pa_cons (pv 1) (pa_cons pe_int (pa_cons (pe_callR (F_law_words T) (hr.mono (by omega)) T.f_law_words.kp T.g__law_words pass0 (pa_cons (pv 1) (pa_cons (pe_op op_add pe_int (pe_callR (F_law_draw T) (hr.mono (by omega)) T.f_law_draw.kp T.g__law_draw pass0 (pa_cons (pv 1) (pa_cons pe_int pa_nil)))) pa_nil))) pa_nil)))) (pg_tup (n := 2) (by rfl) (pgs_cons (pg_name (i := 3) S_law.nd rfl (Or.inl rfl)) (pgs_cons (pg_name (i := 4) S_law.nd rfl (Or.inl rfl)) pgs_nil)))) (pss_cons (ps_asg (pe_tup (pa_cons (StX.pe_makeR T.k_Network (F_Network T U) (hr.mono (by omega)) (by rfl) T.g_Network pass0 (pa_cons (StX.pe_makeR T.k_Web (F_Web T) (hr.mono (by omega)) (by rfl) T.g_Web pass0 (pa_cons (pv 3) (pa_cons (pv 4) pa_nil))) pa_nil)) (pa_cons (pe_lst pa_nil) pa_nil))) (pg_tup (n := 2) (by rfl) (pgs_cons (pg_name (i := 7) S_law.nd rfl (Or.inr rfl)) (pgs_cons (pg_name (i := 5) S_law.nd rfl (Or.inl rfl)) pgs_nil)))) (pss_cons (ps_for PassesOwn.never rfl (pi_range1 (by rfl) T.b_range (pa_cons (pe_op op_add pe_int (pe_callR (F_law_draw T) (hr.mono (by omega)) T.f_law_draw.kp T.g__law_draw pass0 (pa_cons (pv 1) (pa_cons pe_int pa_nil)))) pa_nil)) (pg_name (i := 6) S_law.nd rfl (Or.inl rfl)) (pss_one (ps_if (pt_not (pt_val (pe_callG FS hG (hr.mono (by omega)) T.f_law_step.kp T.g__law_step pass0 (pa_cons (pv 1) (pa_cons (pv 7) (pa_cons (pv 5) (pa_cons pe_int pa_nil))))))) (pss_one (ps_ret pe_bl)) pss_nil))) (pss_one (ps_if (PW.pt (pw_or (pt_cmpR op_isnot_bl (pe_triedK (k := 20) (Tb := Tb) (c := c2) (P := P2) (p := "_law_same") (W := fun _ _ _ _ => False) (tb := tOne K) T (pv 7) hG (hr.mono (by omega)) LamX.takes0 ⟨lamS1_by (by show lamS1B _ (defScope s_law) _ = true; decide +kernel), (by show ("_law_same" : Str) ∉ N_law; decide +kernel), rfl, fun _ _ _ _ _ _ => rfl⟩ ⟨TB2, rfl, hm2, hu2⟩ (fun A outer s H E f c9 hG2 hr2 => pe_callR (F_law_is_one T) (hr2.mono (by omega)) T.f_law_is_one.kp T.g__law_is_one pass0 (pa_cons (pv 8) (pa_cons (pv 0) pa_nil)))) pe_bl (nomark _)) (pw_or1 (pt_not (pt_val (pe_callG (F_law_is_so T U Y) hG (hr.mono (by omega)) T.f_law_is_so.kp T.g__law_is_so pass0 (pa_cons (pv 7) (pa_cons (pv 5) pa_nil)))))))) (pss_one (ps_ret pe_bl)) pss_nil)))))) (pss_one (ps_ret pe_bl)))), ?_⟩
    refine ⟨.ref l, rfl, l, ns, rfl, hl, few, fun cl pen zs H1 ncl npen ne e1 hz hcl hpen => ?_⟩
    obtain ⟨G, hG0⟩ : ∃ G : Hp, G = fun b => if b = cl then some (.lst (zs.map V.int)) else none := ⟨_, rfl⟩
    have gcl : G cl = some (.lst (zs.map V.int)) := by rw [hG0] <;> exact if_pos rfl
    have gof : ∀ {b : Addr} {o : HO}, G b = some o → b = cl ∧ o = .lst (zs.map V.int) := fun {b o} h => by
      rw [hG0] at h
      by_cases c : b = cl
      · refine ⟨c, ?_⟩
        have h : (if b = cl then some (HO.lst (zs.map V.int)) else none) = some o := h
        rw [if_pos c] at h
        exact (Option.some.inj h).symm
      · have h : (if b = cl then some (HO.lst (zs.map V.int)) else none) = some o := h
        rw [if_neg c] at h
        cases h
    have gno : ∀ {b : Addr}, b ≠ cl → G b = none := fun {b} n => by
      cases h : G b with
      | none => rfl
      | some o => exact absurd (gof h).1 n
    have gx : ∀ {Hy : Hp}, Hy cl = some (.lst (zs.map V.int)) → Ex G Hy := fun h b o hb => by
      obtain ⟨rfl, rfl⟩ := gof hb
      exact h
    have gt : ∀ b ps, G b ≠ some (.tbl ps) := fun b ps h => nomatch (gof h).2
    have gp : G pen = none := gno (Ne.symm ne)
    clear hG0
    refine ⟨3, rfl, by decide, by decide, for_it (walk_range (lo := 0) (n := 3)) (fun i σ' Hx => ∃ x2 x3 x4 x5 x6 x7, σ' = [some (.ref l), some (.ref pen), x2, x3, x4, x5, x6, x7] ∧ PenAt G Hx pen (i * 5000) ∧ Ex G Hx ∧ Tabs Tb Hx) ⟨none, none, none, none, none, none, rfl, ⟨cl, zs, 0, 0, hpen, gcl, hz, by decide, by decide⟩, gx hcl, tb.ext e1⟩ (fun _ _ _ _ _ => trivial) ?_ ?_⟩
    · intro i x σ' Hq Hx hi ⟨x2, x3, x4, x5, x6, x7, hs, pn, ge, tx⟩ ⟨hz, hx⟩
      subst hz hs hx
      refine ⟨.ref pen, rfl, .ref pen, rfl, .ref pen, rfl, G, pen, i * 5000, 5, rfl, pn, ge, gp, by omega, by decide, by decide, fun r Ha r0 r1 ea pa => ?_⟩
      obtain ⟨m, hm⟩ : ∃ m : Nat, 2 + r = m := ⟨(2 + r).toNat, by omega⟩
      have gput : ∀ {Hy Hw : Hp}, Ex G Hy → Ex (del pen Hy) Hw → Ex G Hw := fun g e b o h => e _ _ (by rw [del_ne (fun z => by rw [z, gp] at h; cases h)]; exact g _ _ h)
      refine ⟨2, r, rfl, rfl, G, pen, i * 5000 + 1, m, ?_, pa, gput ge ea, gp, by omega, by omega, fun lw ws Hb nlw hwl hnd hwok hlw eb pb => ?_⟩
      · show [V.ref pen, V.int (2 + r)] = _
        rw [hm]
      have gb := gput (gput ge ea) eb
      refine ⟨G, pen, lw, _, ws, rfl, pb, gb, gp, by omega, hlw, by omega, hnd, fun t lk d refs L S D pl Hc ec ht hlk hLA hd hT hLok hL50 hS50 hSw hpl pc => ?_⟩
      have gc := gput gb ec
      refine ⟨t, _, rfl, .inl (.inl ht), rfl, _, _, rfl, _, _, rfl, rfl, ?_⟩
      refine ⟨.ref lk, rfl, .ref d, rfl, fun y1 d1 hy1 hd1 hne1 => ?_⟩
      have eW : Ex Hc (upd (upd Hc d1 (.own y1)) y1 (.ins (He.ga K "Web") d1 [])) := (Ex.new hd1).trans (Ex.new (by rw [upd_ne (Ne.symm hne1)]; exact hy1))
      refine ⟨y1, d1, lk, d, refs, L, S, D, ws, pl, rfl, upd_same, eW _ _ hlk, hLA.mono eW, eW _ _ hd, hT, hLok, hL50, hS50, hSw, hnd, fun h hh => (hwok h hh).1, hpl, by omega, by omega, fun Hd W ed hW ok hper hpl2 => ⟨rfl, fun y2 d2 hy2 hd2 hne2 => ?_⟩⟩
      have e1d : Ex Hc Hd := mk_ex hy1 hd1 ed
      have eM : Ex Hd (upd (upd Hd d2 (.own y2)) y2 (.ins (He.ga K "Network") d2 [])) := (Ex.new hd2).trans (Ex.new (by rw [upd_ne (Ne.symm hne2)]; exact hy2))
      refine ⟨y2, d2, y1, W, rfl, upd_same, (hW.mono hide_ex).mono eM, ok, fun Hn pH ls lt lo dd ee hx2 hpH n1 n2 n3 d12 d13 d23 s1 s2 s3 s4 => ⟨rfl, Evl.sz_of (by show 0 ≤ 100000; decide), fun q hq => ⟨Evl.sz_of (by show 2 ≤ 100000; decide), fun tp htp => ⟨tp, _, rfl, .inl (.inl upd_same), rfl, _, _, rfl, _, _, rfl, rfl, ?_⟩⟩⟩⟩
      have eHe : Ex Hd Hn := mk_ex hy2 hd2 ee
      have xf : Ex Hn (upd (upd Hn q (.lst [])) tp (.tup [.ref y2, .ref q])) := (Ex.new hq).trans (Ex.new htp)
      have qf : upd (upd Hn q (.lst [])) tp (.tup [.ref y2, .ref q]) q = some (.lst []) := (Ex.new htp) _ _ upd_same
      revert xf qf
      generalize upd (upd Hn q (.lst [])) tp (.tup [.ref y2, .ref q]) = Hf
      intro xf qf
      have m1 : Hd ls = none := Evl.fresh_back eM n1
      have m2 : Hd lt = none := Evl.fresh_back eM n2
      have m3 : Hd lo = none := Evl.fresh_back eM n3
      have ecf : Ex Hc Hf := e1d.trans (eHe.trans xf)
      obtain ⟨cl2, cs2, at2, rs2, penc, _⟩ := id pc
      have pnew : ∀ {b : Addr}, Hd b = none → pen ≠ b := fun h z => by
        rw [← z, e1d _ _ penc] at h
        cases h
      have pq : pen ≠ q := fun z => by
        rw [← z, eHe _ _ (e1d _ _ penc)] at hq
        cases hq
      have qnew : ∀ {b : Addr} {o : HO}, Hn b = some o → q ≠ b := fun h z => by
        rw [z, h] at hq
        cases hq
      have gnew : ∀ {b : Addr}, Hc b = none → G b = none := fun {b} h => by
        cases e : G b with
        | none => rfl
        | some o =>
          rw [gc _ _ e] at h
          cases h
      have fb : ∀ {b : Addr}, Hd b = none → Hc b = none := fun h => Evl.fresh_back e1d h
      have mu : Muts ([pen, q, y2, ls, lt, lo] ++ []) Hf := fun b hb => by
        simp only [List.append_nil, List.mem_cons, List.not_mem_nil, or_false] at hb
        rcases hb with rfl | rfl | rfl | rfl | rfl | rfl
        · exact .inl ⟨_, ecf _ _ penc⟩
        · exact .inl ⟨_, qf⟩
        · exact .inr ⟨_, _, _, xf _ _ hx2⟩
        · exact .inl ⟨_, xf _ _ s1⟩
        · exact .inl ⟨_, xf _ _ s3⟩
        · exact .inl ⟨_, xf _ _ s4⟩
      have cw : Ex (cut [] (hide y1 (upd (upd Hc d1 (.own y1)) y1 (.ins (He.ga K "Web") d1 [])) Hd)) (cut ([pen, q, y2, ls, lt, lo] ++ []) Hf) := fun b o h => by
        obtain ⟨_, hh, tt⟩ := cut_of h
        have hd' := hide_ex _ _ hh
        refine cut_in (xf _ _ (eHe _ _ hd')) (fun z => ?_) tt
        simp only [List.append_nil, List.mem_cons, List.not_mem_nil, or_false] at z
        rcases z with rfl | rfl | rfl | rfl | rfl | rfl
        · exact hide_no hh (fun z => by rw [z, hy1] at penc; cases penc) _ (eW _ _ penc)
        · rw [eHe _ _ hd'] at hq
          cases hq
        · rw [hd'] at hy2
          cases hy2
        · rw [hd'] at m1
          cases m1
        · rw [hd'] at m2
          cases m2
        · rw [hd'] at m3
          cases m3
      have net0 : NetAt K (cut ([pen, q, y2, ls, lt, lo] ++ []) Hf) Hf y2 W [] ls lt lo := ⟨d2, y1, pH, [.ref dd], [], [], xf _ _ hx2, (web_nt hW).mono cw, cut_in (xf _ _ hpH) (mu.no (Ex.refl _) (xf _ _ hpH) (fun _ z => nomatch z) fun _ _ _ z => nomatch z) (fun _ z => nomatch z), xf _ _ s1, .cons ⟨dd, rfl, StateAt.cut mu (Ex.refl _) (s2.mono xf)⟩ .nil, xf _ _ s3, .nil, xf _ _ s4, .nil, d12, d13, d23⟩
      have L0 : LS K Tb G Hf pen q y2 ls lt lo [] W [] (i * 5000 + 1 + 7 + 60) := by
        obtain ⟨p1, p2, p3, p4, _⟩ := id pn
        obtain ⟨p1a, p2a, p3a, p4a, p5a, _⟩ := id pa
        obtain ⟨p1b, p2b, p3b, p4b, p5b, _⟩ := id pb
        obtain ⟨_, _, _, _, pnx, _⟩ := id pn
        refine ⟨net0, ⟨[], qf, .nil⟩, pc.mono (Ex.refl G) (fun o h => ecf _ _ h) (Nat.le_refl _), ?_, gc.trans ecf, fun b hb => ?_, gt, (tabs_pen (tabs_pen (tabs_pen tx ea pnx) eb p5a) ec p5b).ext ecf, (fun b hb => nomatch hb), (fun b hb => nomatch hb), (fun b hb => nomatch hb), fun z => (hwok _ (hper.mem_iff.mp z)).2 rfl⟩
        · simp only [List.nodup_cons, List.mem_cons, List.not_mem_nil, or_false, not_or, not_false_eq_true, List.nodup_nil, and_true]
          exact ⟨⟨pq, pnew hy2, pnew m1, pnew m2, pnew m3⟩, ⟨qnew hx2, qnew s1, qnew s3, qnew s4⟩, ⟨ne_of hx2 s1 (fun z => nomatch z), ne_of hx2 s3 (fun z => nomatch z), ne_of hx2 s4 (fun z => nomatch z)⟩, ⟨d12, d13⟩, d23⟩
        · simp only [List.mem_cons, List.not_mem_nil, or_false] at hb
          rcases hb with rfl | rfl | rfl | rfl | rfl | rfl
          · exact gp
          · exact gnew (Evl.fresh_back (e1d.trans eHe) hq)
          · exact gnew (fb hy2)
          · exact gnew (fb m1)
          · exact gnew (fb m2)
          · exact gnew (fb m3)
      clear net0 cw
      refine ⟨.ref pen, rfl, G, pen, _, 10, rfl, L0.pn, L0.gx, gp, by omega, by decide, by decide, fun r2 Hg q0 q1 eg pg => ?_⟩
      have L1 := L0.drawn eg pg
      obtain ⟨c, hc⟩ : ∃ c : Nat, 1 + r2 = c := ⟨(1 + r2).toNat, by omega⟩
      have c3 : cst 3 = 468 := rfl
      refine ⟨1, r2, rfl, rfl, (c : Nat), (by show [V.int (1 + r2)] = _; rw [hc]), by omega, by omega, for_it (walk_range (lo := 0) (n := c)) (fun j σ' Hy => ∃ x6 ls lt lo past, σ' = [some (.ref l), some (.ref pen), some (.int (0 + (i : Nat))), some (.ref lk), some (.ref d), some (.ref q), x6, some (.ref y2)] ∧
        LS K Tb G Hy pen q y2 ls lt lo [] W past (i * 5000 + 1 + 7 + 60 + 1 + j * 468) ∧ (∀ f ∈ past, FOk W.hs f) ∧ past.length ≤ j) ⟨_, ls, lt, lo, [], rfl, L1.le (by omega), (fun f hf => nomatch hf), Nat.le_refl _⟩ (fun _ _ _ _ _ => trivial) ?_ ?_⟩
      · intro j xj σ2 Hq2 Hy hj ⟨x6', ls', lt', lo', past, hs2, L2, hF2, hl2⟩ ⟨hz2, hx2'⟩
        subst hz2 hs2 hx2'
        refine ⟨.ref pen, rfl, .ref y2, rfl, .ref q, rfl, G, pen, q, y2, ls', lt', lo', [], W, past, _, rfl, L2, ok, hF2, by omega, by omega, fun H3 ls3 lt3 lo3 past3 L3 hF3 hl3 M3 => ⟨true, rfl, iteF ⟨_, ls3, lt3, lo3, past3, rfl, L3.le (by omega), hF3, by omega⟩⟩⟩
      · intro σ2 Hy ⟨x6', ls', lt', lo', past, hs2, L2, hF2, hl2⟩
        subst hs2
        obtain ⟨dx, w1, pH2, ss, fs, os, h1, h2, h3, h4, h5, h6, h7, h8, h9, _⟩ := id L2.net
        refine ⟨.ref y2, rfl, y2, dx, _, rfl, h1, netFs_no (by decide +kernel), L2.tb, fun cf H3 eN T3 hco => ?_⟩
        have k3 : ∀ b o, Hy b = some o → (∀ ps, o ≠ .tbl ps) → H3 b = some o := fun b o h t => eN _ _ h t
        refine ⟨dx, w1, pH2, ls', lt', lo', ss, fs, os, k3 _ _ h1 (fun _ z => nomatch z), k3 _ _ h4 (fun _ z => nomatch z), k3 _ _ h6 (fun _ z => nomatch z), k3 _ _ h8 (fun _ z => nomatch z), fun H4 t4 dt nn dn l1 l2 l3 e34 nt0 nn0 n10 n20 n30 t12 t13 t23 ht4 hnn g1 g2 g3 => ?_⟩
        have k4 : ∀ b o, Hy b = some o → (∀ ps, o ≠ .tbl ps) → H4 b = some o := fun b o h t => e34 _ _ (k3 _ _ h t)
        have nw : ∀ {b : Addr}, H3 b = none → Nw Hy b := fun {b} h o e => by
          cases o with
          | tbl ps => exact ⟨ps, rfl⟩
          | _ => exact absurd (k3 _ _ e (fun _ z => nomatch z)) (by rw [h]; exact fun z => nomatch z)
        have mu4 : Muts ([pen, q, y2, ls', lt', lo'] ++ []) H4 := fun b hb => by
          rcases L2.muts b hb with ⟨xs, e⟩ | ⟨C, dx, fs, e⟩
          · exact .inl ⟨xs, k4 _ _ e fun _ z => nomatch z⟩
          · exact .inr ⟨C, dx, fs, k4 _ _ e fun _ z => nomatch z⟩
        have net4 : NetAt K (cut ([pen, q, y2, ls', lt', lo'] ++ []) H4) H4 y2 W past ls' lt' lo' := by
          refine L2.net.mono (fun b o h => ?_) fun b hb o h => ?_
          · obtain ⟨nb, hh, tt⟩ := cut_of h
            exact cut_in (k4 _ _ hh tt) nb tt
          · refine k4 _ _ h fun ps e => ?_
            have hb2 : b ∈ [pen, q, y2, ls', lt', lo'] ++ [] := by
              simp only [List.append_nil, List.mem_cons, List.not_mem_nil, or_false] at hb ⊢
              rcases hb with rfl | rfl | rfl | rfl <;> simp
            rcases L2.muts b hb2 with ⟨xs, z⟩ | ⟨C, dx, fs, z⟩ <;> (rw [h, e] at z; cases z)
        have a4 := k4 _ _ h4 (fun _ z => nomatch z)
        have b4 := k4 _ _ h6 (fun _ z => nomatch z)
        have c4 := k4 _ _ h8 (fun _ z => nomatch z)
        refine ⟨.ref y2, rfl, e34 _ _ hco, .ref y2, rfl, .ref y2, rfl, [pen, q, y2, ls', lt', lo'] ++ [], y2, ls', lt', lo', W, past, rfl, net4, mu4, by simp, by simp, by simp, ok, fun g hg => ⟨(hF2 g hg).1, fun t e => ((hF2 g hg).2 t e).1⟩, by omega, fun H5 fr5 => ?_⟩
        have n3 : ∀ {b : Addr}, H3 b = none → b ≠ ls' ∧ b ≠ lt' ∧ b ≠ lo' := fun {b} h => by
          refine ⟨fun z => ?_, fun z => ?_, fun z => ?_⟩
          · rw [z, k3 _ _ h4 (fun _ z => nomatch z)] at h
            cases h
          · rw [z, k3 _ _ h6 (fun _ z => nomatch z)] at h
            cases h
          · rw [z, k3 _ _ h8 (fun _ z => nomatch z)] at h
            cases h
        have f5 : ∀ {b : Addr} {o : HO}, H4 b = some o → H3 b = none → H5 b = some o := fun h n => fr5 _ _ h (n3 n).1 (n3 n).2.1 (n3 n).2.2
        have z5 := L2.ne
        have a5 := fr5 _ _ (k4 _ _ h1 (fun _ z => nomatch z)) z5.2.2.2.2.2.2.2.2.2.1 z5.2.2.2.2.2.2.2.2.2.2.1 z5.2.2.2.2.2.2.2.2.2.2.2.1
        have T5 : Tabs Tb H5 := tabs_keep (T3.ext e34) fun b o h t1 t2 => fr5 _ _ h (fun z => by rw [z, a4] at h; exact t1 _ (Option.some.inj h).symm) (fun z => by rw [z, b4] at h; exact t1 _ (Option.some.inj h).symm) (fun z => by rw [z, c4] at h; exact t1 _ (Option.some.inj h).symm)
        have L6 := L2.back2 (H5 := H5) (t := t4) (dt := dt) (fun b o h t nb => by
          simp only [List.mem_cons, List.not_mem_nil, or_false, not_or] at nb
          exact fr5 _ _ (k4 _ _ h t) nb.1 nb.2.1 nb.2.2) T5 h1 h4 h6 h8 (f5 g1 n10) (f5 g2 n20) (f5 g3 n30) (f5 ht4 nt0) (nw n10) (nw n20) (nw n30) (nw nt0) t12 t13 t23
        refine exit_ok (f5 ht4 nt0) (f5 hnn nn0) a5 ⟨true, true, rfl, rfl, _, rfl, iteF ?_⟩
        refine ⟨.ref y2, rfl, .ref q, rfl, L6.isso (E := E0) ok hF2 (by omega) fun H9 e9 => ⟨true, rfl, iteF ?_⟩⟩
        have L9 := L6.ex e9
        have hj : c * 468 ≤ 4680 := by omega
        exact ⟨_, _, _, _, _, _, rfl, L9.pn.mono (Ex.refl G) (fun o h => h) (by omega), L9.gx, L9.tb⟩
    · intro σ' Hx _
      exact k Hx
end SfW
namespace SfW
open PySem PySem.Spec PyProof.Rows L2
/-! the defs told of as the walk takes them -/
theorem DefC.fnC {K : PySem.W.Frag} {d : DefC} (e : fnV K (d.at_ K) = d.val) (c : d.good K = true) (h : d.cl = []) (h2 : d.dfl = []) {p : He.Defn} (hp : d.at_ K = He.fAd K p) : FnC K (d.at_ K) d.name d.qual d.st (He.codeOf K p) := by
  obtain ⟨oc, od, osl, cl, dV, kV, doc, pm, an, cdv, ct, hcl, lk, hc, hd, kp⟩ := DefC.read e c
  have e0 : cl = [] := List.map_eq_nil_iff.mp (hcl.trans h)
  subst e0
  have e1 : d.dv K = [] := by
    unfold DefC.dv
    rw [h2] <;> rfl
  rw [e1] at hd
  have e2 := dfl_nil hd
  subst e2
  obtain ⟨cc, e3⟩ := He.codeIn_ref hc
  subst e3
  have e4 : He.codeOf K p = cc := He.codeOf_eq (hp ▸ lk) rfl
  rw [e4]
  exact ⟨oc, od, osl, kV, doc, pm, an, ct, lk, hc⟩
theorem DefC.clsFn {P : Program} {K : PySem.W.Frag} {d : DefC} {D : Addr} (e : fnV K (d.at_ K) = d.val) (c : d.good K = true) (h : d.cl = ([("__class__" : Str)] : List Str)) (h2 : d.dfl = []) (hb : celB K P.main.file (d.at_ K) D = true) : ClsFn P K (d.at_ K) d.name d.qual d.st D := by
  obtain ⟨oc, od, osl, cl, dV, kV, doc, pm, an, cdv, ct, hcl, lk, hc, hd, kp⟩ := DefC.read e c
  have e1 : d.dv K = [] := by
    unfold DefC.dv
    rw [h2] <;> rfl
  rw [e1] at hd
  have e2 := dfl_nil hd
  subst e2
  unfold celB at hb
  rw [lk] at hb
  obtain ⟨b1, b2⟩ := He.ba hb
  obtain ⟨cc0, e3⟩ := He.codeIn_ref hc
  subst e3
  obtain ⟨cc, o, e4, e5, e6⟩ := cellB_ok (x := ("__class__" : Str)) (show cellB K D cl = true from b1) (hcl.trans h)
  subst e4
  obtain ⟨o2, vs, f, tf, e7, e8, e9, e10⟩ := fileB_ok (c := cc0) b2
  exact ⟨oc, od, osl, kV, doc, pm, an, cc0, ct, cc, o, o2, vs, f, tf, lk, hc, e5, e6, e7, e8, e9, e10⟩
end SfW
namespace SfW
open PySem PySem.Spec PyProof.Rows L2
/-! what is told (printed by genhd.py) -/
variable {w : World} {K : PySem.W.Frag} {h : Heap} {mg : Str → Option Value}
theorem tx_of (X : K.In h) (G : h.Ns mainGlobals mg) (c : Told fbn fsn tfn h K) : TX K mg where
  g_is_name := He.glo_ok X G (c.fact 0 0 rfl rfl : ((He.Fa.glo "is_name").ok K) = true)
  g_ascending_names := He.glo_ok X G (c.fact 0 1 rfl rfl : ((He.Fa.glo "ascending_names").ok K) = true)
  g_hosts_of := He.glo_ok X G (c.fact 0 2 rfl rfl : ((He.Fa.glo "hosts_of").ok K) = true)
  g_Frame := He.glo_ok X G (c.fact 0 3 rfl rfl : ((He.Fa.glo "Frame").ok K) = true)
  g_History := He.glo_ok X G (c.fact 0 4 rfl rfl : ((He.Fa.glo "History").ok K) = true)
  g_PlayerNote := He.glo_ok X G (c.fact 0 5 rfl rfl : ((He.Fa.glo "PlayerNote").ok K) = true)
  g_PlayerTrial := He.glo_ok X G (c.fact 0 6 rfl rfl : ((He.Fa.glo "PlayerTrial").ok K) = true)
  g_is_side := He.glo_ok X G (c.fact 0 7 rfl rfl : ((He.Fa.glo "is_side").ok K) = true)
  g_ascending_cuts := He.glo_ok X G (c.fact 0 8 rfl rfl : ((He.Fa.glo "ascending_cuts").ok K) = true)
  g_Cut := He.glo_ok X G (c.fact 0 9 rfl rfl : ((He.Fa.glo "Cut").ok K) = true)
  g_in_order := He.glo_ok X G (c.fact 1 0 rfl rfl : ((He.Fa.glo "in_order").ok K) = true)
  g_first_crossing := He.glo_ok X G (c.fact 1 1 rfl rfl : ((He.Fa.glo "first_crossing").ok K) = true)
  g_need_cuts := He.glo_ok X G (c.fact 1 2 rfl rfl : ((He.Fa.glo "need_cuts").ok K) = true)
  g_Tree := He.glo_ok X G (c.fact 1 3 rfl rfl : ((He.Fa.glo "Tree").ok K) = true)
  g_is_switch := He.glo_ok X G (c.fact 1 4 rfl rfl : ((He.Fa.glo "is_switch").ok K) = true)
  g_is_link := He.glo_ok X G (c.fact 1 5 rfl rfl : ((He.Fa.glo "is_link").ok K) = true)
  g_need_links := He.glo_ok X G (c.fact 1 6 rfl rfl : ((He.Fa.glo "need_links").ok K) = true)
  g_need_places := He.glo_ok X G (c.fact 1 7 rfl rfl : ((He.Fa.glo "need_places").ok K) = true)
  g_links_in_order := He.glo_ok X G (c.fact 1 8 rfl rfl : ((He.Fa.glo "links_in_order").ok K) = true)
  g_next_to := He.glo_ok X G (c.fact 1 9 rfl rfl : ((He.Fa.glo "next_to").ok K) = true)
  g_guests_of := He.glo_ok X G (c.fact 2 0 rfl rfl : ((He.Fa.glo "guests_of").ok K) = true)
  g_grouped := He.glo_ok X G (c.fact 2 1 rfl rfl : ((He.Fa.glo "grouped").ok K) = true)
  g_Web := He.glo_ok X G (c.fact 2 2 rfl rfl : ((He.Fa.glo "Web").ok K) = true)
  g_web_of := He.glo_ok X G (c.fact 2 3 rfl rfl : ((He.Fa.glo "web_of").ok K) = true)
  g_Network := He.glo_ok X G (c.fact 2 4 rfl rfl : ((He.Fa.glo "Network").ok K) = true)
  g_Player := He.glo_ok X G (c.fact 2 5 rfl rfl : ((He.Fa.glo "Player").ok K) = true)
  g_NoHost := He.glo_ok X G (c.fact 2 6 rfl rfl : ((He.Fa.glo "NoHost").ok K) = true)
  g__law_pen := He.glo_ok X G (c.fact 2 7 rfl rfl : ((He.Fa.glo "_law_pen").ok K) = true)
  g__law_draw := He.glo_ok X G (c.fact 2 8 rfl rfl : ((He.Fa.glo "_law_draw").ok K) = true)
  g__law_pick := He.glo_ok X G (c.fact 2 9 rfl rfl : ((He.Fa.glo "_law_pick").ok K) = true)
  g__law_words := He.glo_ok X G (c.fact 3 0 rfl rfl : ((He.Fa.glo "_law_words").ok K) = true)
  g__law_site := He.glo_ok X G (c.fact 3 1 rfl rfl : ((He.Fa.glo "_law_site").ok K) = true)
  g__law_frame := He.glo_ok X G (c.fact 3 2 rfl rfl : ((He.Fa.glo "_law_frame").ok K) = true)
  g__law_is_so := He.glo_ok X G (c.fact 3 3 rfl rfl : ((He.Fa.glo "_law_is_so").ok K) = true)
  g__law_step := He.glo_ok X G (c.fact 3 4 rfl rfl : ((He.Fa.glo "_law_step").ok K) = true)
  g__law_inside := He.glo_ok X G (c.fact 3 5 rfl rfl : ((He.Fa.glo "_law_inside").ok K) = true)
  g__law_tried := He.glo_ok X G (c.fact 3 6 rfl rfl : ((He.Fa.glo "_law_tried").ok K) = true)
  g__law_is_one := He.glo_ok X G (c.fact 3 7 rfl rfl : ((He.Fa.glo "_law_is_one").ok K) = true)
  b_isinstance := He.free_ok X G (c.fact 3 8 rfl rfl : ((He.Fa.free "isinstance").ok K) = true)
  b_len := He.free_ok X G (c.fact 3 9 rfl rfl : ((He.Fa.free "len").ok K) = true)
  b_all := He.free_ok X G (c.fact 4 0 rfl rfl : ((He.Fa.free "all").ok K) = true)
  b_any := He.free_ok X G (c.fact 4 1 rfl rfl : ((He.Fa.free "any").ok K) = true)
  b_list := He.free_ok X G (c.fact 4 2 rfl rfl : ((He.Fa.free "list").ok K) = true)
  b_tuple := He.free_ok X G (c.fact 4 3 rfl rfl : ((He.Fa.free "tuple").ok K) = true)
  b_set := He.free_ok X G (c.fact 4 4 rfl rfl : ((He.Fa.free "set").ok K) = true)
  b_str := He.free_ok X G (c.fact 4 5 rfl rfl : ((He.Fa.free "str").ok K) = true)
  b_int := He.free_ok X G (c.fact 4 6 rfl rfl : ((He.Fa.free "int").ok K) = true)
  b_sorted := He.free_ok X G (c.fact 4 7 rfl rfl : ((He.Fa.free "sorted").ok K) = true)
  b_dict := He.free_ok X G (c.fact 4 8 rfl rfl : ((He.Fa.free "dict").ok K) = true)
  b_enumerate := He.free_ok X G (c.fact 4 9 rfl rfl : ((He.Fa.free "enumerate").ok K) = true)
  b_range := He.free_ok X G (c.fact 5 0 rfl rfl : ((He.Fa.free "range").ok K) = true)
  b_zip := He.free_ok X G (c.fact 5 1 rfl rfl : ((He.Fa.free "zip").ok K) = true)
  b_min := He.free_ok X G (c.fact 5 2 rfl rfl : ((He.Fa.free "min").ok K) = true)
  b_max := He.free_ok X G (c.fact 5 3 rfl rfl : ((He.Fa.free "max").ok K) = true)
  b_super := He.free_ok X G (c.fact 5 4 rfl rfl : ((He.Fa.free "super").ok K) = true)
  b_repr := He.free_ok X G (c.fact 5 5 rfl rfl : ((He.Fa.free "repr").ok K) = true)
  b_abs := He.free_ok X G (c.fact 5 6 rfl rfl : ((He.Fa.free "abs").ok K) = true)
  b_KeyError := He.free_ok X G (c.fact 5 7 rfl rfl : ((He.Fa.free "KeyError").ok K) = true)
  b_bool := He.free_ok X G (c.fact 5 8 rfl rfl : ((He.Fa.free "bool").ok K) = true)
  i_LONGEST_NAME := He.int_ok X G (c.fact 5 9 rfl rfl : ((He.Fa.int "LONGEST_NAME" 8).ok K) = true)
  i_LEAST_SIDE := He.int_ok X G (c.fact 6 0 rfl rfl : ((He.Fa.int "LEAST_SIDE" 2).ok K) = true)
  i_MOST_HOSTS_webs := He.int_ok X G (c.fact 6 1 rfl rfl : ((He.Fa.int "MOST_HOSTS_webs" 40).ok K) = true)
  i_SWITCHES := He.int_ok X G (c.fact 6 2 rfl rfl : ((He.Fa.int "SWITCHES" 100).ok K) = true)
  t_LETTERS := He.str_ok X G (c.fact 6 3 rfl rfl : ((He.Fa.str "LETTERS" "abcdefghijklmnopqrstuvwxyz").ok K) = true)
  c_Frame := He.cls_ok (c.fact 6 4 rfl rfl : ((He.Fa.cls "Frame").ok K) = true)
  c_History := He.cls_ok (c.fact 6 5 rfl rfl : ((He.Fa.cls "History").ok K) = true)
  c_PlayerNote := He.cls_ok (c.fact 6 6 rfl rfl : ((He.Fa.cls "PlayerNote").ok K) = true)
  c_PlayerTrial := He.cls_ok (c.fact 6 7 rfl rfl : ((He.Fa.cls "PlayerTrial").ok K) = true)
  c_Cut := He.cls_ok (c.fact 6 8 rfl rfl : ((He.Fa.cls "Cut").ok K) = true)
  c_Tree := He.cls_ok (c.fact 6 9 rfl rfl : ((He.Fa.cls "Tree").ok K) = true)
  c_Web := He.cls_ok (c.fact 7 0 rfl rfl : ((He.Fa.cls "Web").ok K) = true)
  c_Network := He.cls_ok (c.fact 7 1 rfl rfl : ((He.Fa.cls "Network").ok K) = true)
  n_Frame_sender := He.noat_ok (c.fact 7 2 rfl rfl : ((He.Fa.noat "Frame" "sender").ok K) = true)
  n_Frame_target := He.noat_ok (c.fact 7 3 rfl rfl : ((He.Fa.noat "Frame" "target").ok K) = true)
  n_History_rows := He.noat_ok (c.fact 7 4 rfl rfl : ((He.Fa.noat "History" "rows").ok K) = true)
  n_PlayerNote_states := He.noat_ok (c.fact 7 5 rfl rfl : ((He.Fa.noat "PlayerNote" "states").ok K) = true)
  n_PlayerNote_sent := He.noat_ok (c.fact 7 6 rfl rfl : ((He.Fa.noat "PlayerNote" "sent").ok K) = true)
  n_PlayerNote_own_sights := He.noat_ok (c.fact 7 7 rfl rfl : ((He.Fa.noat "PlayerNote" "own_sights").ok K) = true)
  n_PlayerNote_outer := He.noat_ok (c.fact 7 8 rfl rfl : ((He.Fa.noat "PlayerNote" "outer").ok K) = true)
  n_PlayerTrial_subject := He.noat_ok (c.fact 7 9 rfl rfl : ((He.Fa.noat "PlayerTrial" "subject").ok K) = true)
  n_PlayerTrial_kept := He.noat_ok (c.fact 8 0 rfl rfl : ((He.Fa.noat "PlayerTrial" "kept").ok K) = true)
  n_Cut_near_side := He.noat_ok (c.fact 8 1 rfl rfl : ((He.Fa.noat "Cut" "near_side").ok K) = true)
  n_Cut_far_side := He.noat_ok (c.fact 8 2 rfl rfl : ((He.Fa.noat "Cut" "far_side").ok K) = true)
  n_Cut_all_names := He.noat_ok (c.fact 8 3 rfl rfl : ((He.Fa.noat "Cut" "all_names").ok K) = true)
  n_Tree_all_names := He.noat_ok (c.fact 8 4 rfl rfl : ((He.Fa.noat "Tree" "all_names").ok K) = true)
  n_Tree_own_cuts := He.noat_ok (c.fact 8 5 rfl rfl : ((He.Fa.noat "Tree" "own_cuts").ok K) = true)
  n_Web_own_links := He.noat_ok (c.fact 8 6 rfl rfl : ((He.Fa.noat "Web" "own_links").ok K) = true)
  n_Web_own_hosts := He.noat_ok (c.fact 8 7 rfl rfl : ((He.Fa.noat "Web" "own_hosts").ok K) = true)
  n_Web_own_places := He.noat_ok (c.fact 8 8 rfl rfl : ((He.Fa.noat "Web" "own_places").ok K) = true)
  n_Web_own_switches := He.noat_ok (c.fact 8 9 rfl rfl : ((He.Fa.noat "Web" "own_switches").ok K) = true)
  n_Web_sides := He.noat_ok (c.fact 9 0 rfl rfl : ((He.Fa.noat "Web" "sides").ok K) = true)
  n_Web_guests := He.noat_ok (c.fact 9 1 rfl rfl : ((He.Fa.noat "Web" "guests").ok K) = true)
  n_Web_own_tree := He.noat_ok (c.fact 9 2 rfl rfl : ((He.Fa.noat "Web" "own_tree").ok K) = true)
  n_Network_own_web := He.noat_ok (c.fact 9 3 rfl rfl : ((He.Fa.noat "Network" "own_web").ok K) = true)
  n_Network_ground_told := He.noat_ok (c.fact 9 4 rfl rfl : ((He.Fa.noat "Network" "ground_told").ok K) = true)
  n_Network_own_hosts := He.noat_ok (c.fact 9 5 rfl rfl : ((He.Fa.noat "Network" "own_hosts").ok K) = true)
  n_Network_states := He.noat_ok (c.fact 9 6 rfl rfl : ((He.Fa.noat "Network" "states").ok K) = true)
  n_Network_sent := He.noat_ok (c.fact 9 7 rfl rfl : ((He.Fa.noat "Network" "sent").ok K) = true)
  n_Network_own_sights := He.noat_ok (c.fact 9 8 rfl rfl : ((He.Fa.noat "Network" "own_sights").ok K) = true)
  m_PlayerTrial_enter := He.meth_ok (c.fact 9 9 rfl rfl : ((He.Fa.meth "PlayerTrial" "__enter__").ok K) = true)
  m_PlayerTrial_exit := He.meth_ok (c.fact 10 0 rfl rfl : ((He.Fa.meth "PlayerTrial" "__exit__").ok K) = true)
  m_Frame_frame_place := He.meth_ok (c.fact 10 1 rfl rfl : ((He.Fa.meth "Frame" "frame_place").ok K) = true)
  m_Frame_eq := He.meth_ok (c.fact 10 2 rfl rfl : ((He.Fa.meth "Frame" "__eq__").ok K) = true)
  m_Network_sight_at := He.meth_ok (c.fact 10 3 rfl rfl : ((He.Fa.meth "Network" "sight_at").ok K) = true)
  m_Network_state_behind := He.meth_ok (c.fact 10 4 rfl rfl : ((He.Fa.meth "Network" "state_behind").ok K) = true)
  m_Network_need_host := He.meth_ok (c.fact 10 5 rfl rfl : ((He.Fa.meth "Network" "need_host").ok K) = true)
  m_Network_need_frame := He.meth_ok (c.fact 10 6 rfl rfl : ((He.Fa.meth "Network" "need_frame").ok K) = true)
  m_Network_send := He.meth_ok (c.fact 10 7 rfl rfl : ((He.Fa.meth "Network" "send").ok K) = true)
  m_Network_play := He.meth_ok (c.fact 10 8 rfl rfl : ((He.Fa.meth "Network" "play").ok K) = true)
  m_Network_seers := He.meth_ok (c.fact 10 9 rfl rfl : ((He.Fa.meth "Network" "seers").ok K) = true)
  m_Network_back := He.meth_ok (c.fact 11 0 rfl rfl : ((He.Fa.meth "Network" "back").ok K) = true)
  m_Network_reset := He.meth_ok (c.fact 11 1 rfl rfl : ((He.Fa.meth "Network" "reset").ok K) = true)
  m_Network_trial := He.meth_ok (c.fact 11 2 rfl rfl : ((He.Fa.meth "Network" "trial").ok K) = true)
  m_Network_tried := He.meth_ok (c.fact 11 3 rfl rfl : ((He.Fa.meth "Network" "tried").ok K) = true)
  m_Network_passage := He.meth_ok (c.fact 11 4 rfl rfl : ((He.Fa.meth "Network" "passage").ok K) = true)
  m_Network_ports_out := He.meth_ok (c.fact 11 5 rfl rfl : ((He.Fa.meth "Network" "ports_out").ok K) = true)
  m_Network_knowers := He.meth_ok (c.fact 11 6 rfl rfl : ((He.Fa.meth "Network" "knowers").ok K) = true)
  m_Network_eq := He.meth_ok (c.fact 11 7 rfl rfl : ((He.Fa.meth "Network" "__eq__").ok K) = true)
  m_Network_len := He.meth_ok (c.fact 11 8 rfl rfl : ((He.Fa.meth "Network" "__len__").ok K) = true)
  m_Web_home := He.meth_ok (c.fact 11 9 rfl rfl : ((He.Fa.meth "Web" "home").ok K) = true)
  m_Web_hosts_beyond := He.meth_ok (c.fact 12 0 rfl rfl : ((He.Fa.meth "Web" "hosts_beyond").ok K) = true)
  m_Web_is_joined := He.meth_ok (c.fact 12 1 rfl rfl : ((He.Fa.meth "Web" "is_joined").ok K) = true)
  m_Web_cut_of := He.meth_ok (c.fact 12 2 rfl rfl : ((He.Fa.meth "Web" "cut_of").ok K) = true)
  m_Web_eq := He.meth_ok (c.fact 12 3 rfl rfl : ((He.Fa.meth "Web" "__eq__").ok K) = true)
  m_Cut_crosses := He.meth_ok (c.fact 12 4 rfl rfl : ((He.Fa.meth "Cut" "crosses").ok K) = true)
  k_Frame := He.mkr_ok (c.fact 12 5 rfl rfl : ((He.Fa.mkr "Frame").ok K) = true)
  k_History := He.mkr_ok (c.fact 12 6 rfl rfl : ((He.Fa.mkr "History").ok K) = true)
  k_PlayerNote := He.mkr_ok (c.fact 12 7 rfl rfl : ((He.Fa.mkr "PlayerNote").ok K) = true)
  k_PlayerTrial := He.mkr_ok (c.fact 12 8 rfl rfl : ((He.Fa.mkr "PlayerTrial").ok K) = true)
  k_Cut := He.mkr_ok (c.fact 12 9 rfl rfl : ((He.Fa.mkr "Cut").ok K) = true)
  k_Tree := He.mkr_ok (c.fact 13 0 rfl rfl : ((He.Fa.mkr "Tree").ok K) = true)
  k_Web := He.mkr_ok (c.fact 13 1 rfl rfl : ((He.Fa.mkr "Web").ok K) = true)
  k_Network := He.mkr_ok (c.fact 13 2 rfl rfl : ((He.Fa.mkr "Network").ok K) = true)
  q_Frame := sisB_ok (c.fact 13 3 rfl rfl : (sisB K (He.ga K "Frame")) = true)
  q_History := sisB_ok (c.fact 13 4 rfl rfl : (sisB K (He.ga K "History")) = true)
  q_PlayerNote := sisB_ok (c.fact 13 5 rfl rfl : (sisB K (He.ga K "PlayerNote")) = true)
  q_PlayerTrial := sisB_ok (c.fact 13 6 rfl rfl : (sisB K (He.ga K "PlayerTrial")) = true)
  q_Cut := sisB_ok (c.fact 13 7 rfl rfl : (sisB K (He.ga K "Cut")) = true)
  q_Tree := sisB_ok (c.fact 13 8 rfl rfl : (sisB K (He.ga K "Tree")) = true)
  q_Web := sisB_ok (c.fact 13 9 rfl rfl : (sisB K (He.ga K "Web")) = true)
  q_Network := sisB_ok (c.fact 14 0 rfl rfl : (sisB K (He.ga K "Network")) = true)
  is_Frame_Frame := of_decide_eq_true (c.fact 14 1 rfl rfl : (decide (PySem.W.kitOne K (.ref (He.ga K "Frame")) (.ref (He.ga K "Frame")) = some true)) = true)
  is_Cut_Cut := of_decide_eq_true (c.fact 14 2 rfl rfl : (decide (PySem.W.kitOne K (.ref (He.ga K "Cut")) (.ref (He.ga K "Cut")) = some true)) = true)
  is_Web_Web := of_decide_eq_true (c.fact 14 3 rfl rfl : (decide (PySem.W.kitOne K (.ref (He.ga K "Web")) (.ref (He.ga K "Web")) = some true)) = true)
  is_Network_Player := of_decide_eq_true (c.fact 14 4 rfl rfl : (decide (PySem.W.kitOne K (.ref (He.ga K "Network")) (.ref (He.ga K "Player")) = some true)) = true)
  cr_History := readB_ok (c.fact 14 5 rfl rfl : (readB K (He.ga K "History")) = true)
  cv_History := cvalB_ok (c.fact 14 6 rfl rfl : (cvalB K (He.ga K "History") "MOST" (.int 60)) = true)
  cm_History := cmetB_ok (c.fact 14 7 rfl rfl : (cmetB K (He.ga K "History") "of") = true)
  p_History_frames := propB_ok (c.fact 14 8 rfl rfl : (propB K (He.ga K "History") "frames") = true)
  p_History_hosts := propB_ok (c.fact 14 9 rfl rfl : (propB K (He.ga K "History") "hosts") = true)
  p_Network_hosts := propB_ok (c.fact 15 0 rfl rfl : (propB K (He.ga K "Network") "hosts") = true)
  p_Network_sights := propB_ok (c.fact 15 1 rfl rfl : (propB K (He.ga K "Network") "sights") = true)
  p_Cut_near := propB_ok (c.fact 15 2 rfl rfl : (propB K (He.ga K "Cut") "near") = true)
  p_Cut_far := propB_ok (c.fact 15 3 rfl rfl : (propB K (He.ga K "Cut") "far") = true)
  p_Cut_hosts := propB_ok (c.fact 15 4 rfl rfl : (propB K (He.ga K "Cut") "hosts") = true)
  p_Web_hosts := propB_ok (c.fact 15 5 rfl rfl : (propB K (He.ga K "Web") "hosts") = true)
  p_Web_switches := propB_ok (c.fact 15 6 rfl rfl : (propB K (He.ga K "Web") "switches") = true)
  p_Network_web := propB_ok (c.fact 15 7 rfl rfl : (propB K (He.ga K "Network") "web") = true)
  f_is_name := (let z := c.def_ 0 0 rfl rfl; DefC.fnAt (d := fs0_0) z.1 z.2 rfl)
  f_ascending_names := (let z := c.def_ 0 1 rfl rfl; DefC.fnAt (d := fs0_1) z.1 z.2 rfl)
  f_hosts_of := (let z := c.def_ 0 2 rfl rfl; DefC.fnAt (d := fs0_2) z.1 z.2 rfl)
  f_Frame_init := (let z := c.def_ 0 3 rfl rfl; DefC.fnAt (d := fs0_3) z.1 z.2 rfl)
  f_Frame_place := (let z := c.def_ 0 4 rfl rfl; DefC.fnAt (d := fs0_4) z.1 z.2 rfl)
  f_Frame_eq := (let z := c.def_ 0 5 rfl rfl; DefC.fnAt (d := fs0_5) z.1 z.2 rfl)
  f_History_init := (let z := c.def_ 0 6 rfl rfl; DefC.fnAt (d := fs0_6) z.1 z.2 rfl)
  f_History_of := (let z := c.def_ 0 7 rfl rfl; DefC.fnAt (d := fs0_7) z.1 z.2 rfl)
  f_History_frames := (let z := c.def_ 0 8 rfl rfl; DefC.fnAt (d := fs0_8) z.1 z.2 rfl)
  f_History_hosts := (let z := c.def_ 0 9 rfl rfl; DefC.fnAt (d := fs0_9) z.1 z.2 rfl)
  f_Note_init := (let z := c.def_ 1 0 rfl rfl; DefC.fnAt (d := fs1_0) z.1 z.2 rfl)
  f_Trial_init := (let z := c.def_ 1 1 rfl rfl; DefC.fnAt (d := fs1_1) z.1 z.2 rfl)
  f_Trial_enter := (let z := c.def_ 1 2 rfl rfl; DefC.fnAt (d := fs1_2) z.1 z.2 rfl)
  f_Trial_exit := (let z := c.def_ 1 3 rfl rfl; DefC.fnAt (d := fs1_3) z.1 z.2 rfl)
  f_Player_init := (let z := c.def_ 1 4 rfl rfl; DefC.fnAt (d := fs1_4) z.1 z.2 rfl)
  f_Player_hosts := (let z := c.def_ 1 5 rfl rfl; DefC.fnAt (d := fs1_5) z.1 z.2 rfl)
  f_Player_sights := (let z := c.def_ 1 6 rfl rfl; DefC.fnAt (d := fs1_6) z.1 z.2 rfl)
  f_need_host := (let z := c.def_ 1 7 rfl rfl; DefC.fnAt (d := fs1_7) z.1 z.2 rfl)
  f_need_frame := (let z := c.def_ 1 8 rfl rfl; DefC.fnAt (d := fs1_8) z.1 z.2 rfl)
  f_send := (let z := c.def_ 1 9 rfl rfl; DefC.fnAt (d := fs1_9) z.1 z.2 rfl)
  f_play := (let z := c.def_ 2 0 rfl rfl; DefC.fnAt (d := fs2_0) z.1 z.2 rfl)
  f_seers := (let z := c.def_ 2 1 rfl rfl; DefC.fnAt (d := fs2_1) z.1 z.2 rfl)
  f_back := (let z := c.def_ 2 2 rfl rfl; DefC.fnAt (d := fs2_2) z.1 z.2 rfl)
  f_reset := (let z := c.def_ 2 3 rfl rfl; DefC.fnAt (d := fs2_3) z.1 z.2 rfl)
  f_trial := (let z := c.def_ 2 4 rfl rfl; DefC.fnAt (d := fs2_4) z.1 z.2 rfl)
  f_tried := (let z := c.def_ 2 5 rfl rfl; DefC.fnAt (d := fs2_5) z.1 z.2 rfl)
  f_Player_eq := (let z := c.def_ 2 6 rfl rfl; DefC.fnAt (d := fs2_6) z.1 z.2 rfl)
  f_Player_len := (let z := c.def_ 2 7 rfl rfl; DefC.fnAt (d := fs2_7) z.1 z.2 rfl)
  f_is_side := (let z := c.def_ 2 8 rfl rfl; DefC.fnAt (d := fs2_8) z.1 z.2 rfl)
  f_ascending_cuts := (let z := c.def_ 2 9 rfl rfl; DefC.fnAt (d := fs2_9) z.1 z.2 rfl)
  f_Cut_init := (let z := c.def_ 3 0 rfl rfl; DefC.fnAt (d := fs3_0) z.1 z.2 rfl)
  f_Cut_near := (let z := c.def_ 3 1 rfl rfl; DefC.fnAt (d := fs3_1) z.1 z.2 rfl)
  f_Cut_far := (let z := c.def_ 3 2 rfl rfl; DefC.fnAt (d := fs3_2) z.1 z.2 rfl)
  f_Cut_hosts := (let z := c.def_ 3 3 rfl rfl; DefC.fnAt (d := fs3_3) z.1 z.2 rfl)
  f_crosses := (let z := c.def_ 3 4 rfl rfl; DefC.fnAt (d := fs3_4) z.1 z.2 rfl)
  f_in_order := (let z := c.def_ 3 5 rfl rfl; DefC.fnAt (d := fs3_5) z.1 z.2 rfl)
  f_first_crossing := (let z := c.def_ 3 6 rfl rfl; DefC.fnAt (d := fs3_6) z.1 z.2 rfl)
  f_need_cuts := (let z := c.def_ 3 7 rfl rfl; DefC.fnAt (d := fs3_7) z.1 z.2 rfl)
  f_Tree_init := (let z := c.def_ 3 8 rfl rfl; DefC.fnAt (d := fs3_8) z.1 z.2 rfl)
  f_is_switch := (let z := c.def_ 3 9 rfl rfl; DefC.fnAt (d := fs3_9) z.1 z.2 rfl)
  f_is_link := (let z := c.def_ 4 0 rfl rfl; DefC.fnAt (d := fs4_0) z.1 z.2 rfl)
  f_need_links := (let z := c.def_ 4 1 rfl rfl; DefC.fnAt (d := fs4_1) z.1 z.2 rfl)
  f_need_places := (let z := c.def_ 4 2 rfl rfl; DefC.fnAt (d := fs4_2) z.1 z.2 rfl)
  f_links_in_order := (let z := c.def_ 4 3 rfl rfl; DefC.fnAt (d := fs4_3) z.1 z.2 rfl)
  f_next_to := (let z := c.def_ 4 4 rfl rfl; DefC.fnAt (d := fs4_4) z.1 z.2 rfl)
  f_guests_of := (let z := c.def_ 4 5 rfl rfl; DefC.fnAt (d := fs4_5) z.1 z.2 rfl)
  f_grouped := (let z := c.def_ 4 6 rfl rfl; DefC.fnAt (d := fs4_6) z.1 z.2 rfl)
  f_Web_init := (let z := c.def_ 4 7 rfl rfl; DefC.fnAt (d := fs4_7) z.1 z.2 rfl)
  f_Web_hosts := (let z := c.def_ 4 8 rfl rfl; DefC.fnAt (d := fs4_8) z.1 z.2 rfl)
  f_Web_switches := (let z := c.def_ 4 9 rfl rfl; DefC.fnAt (d := fs4_9) z.1 z.2 rfl)
  f_home := (let z := c.def_ 5 0 rfl rfl; DefC.fnAt (d := fs5_0) z.1 z.2 rfl)
  f_hosts_beyond := (let z := c.def_ 5 1 rfl rfl; DefC.fnAt (d := fs5_1) z.1 z.2 rfl)
  f_is_joined := (let z := c.def_ 5 2 rfl rfl; DefC.fnAt (d := fs5_2) z.1 z.2 rfl)
  f_cut_of := (let z := c.def_ 5 3 rfl rfl; DefC.fnAt (d := fs5_3) z.1 z.2 rfl)
  f_Web_eq := (let z := c.def_ 5 4 rfl rfl; DefC.fnAt (d := fs5_4) z.1 z.2 rfl)
  f_web_of := (let z := c.def_ 5 5 rfl rfl; DefC.fnAt (d := fs5_5) z.1 z.2 rfl)
  f_Network_web := (let z := c.def_ 5 6 rfl rfl; DefC.fnAt (d := fs5_6) z.1 z.2 rfl)
  f_ports_out := (let z := c.def_ 5 7 rfl rfl; DefC.fnAt (d := fs5_7) z.1 z.2 rfl)
  f_passage := (let z := c.def_ 5 8 rfl rfl; DefC.fnAt (d := fs5_8) z.1 z.2 rfl)
  f_sight_at := (let z := c.def_ 5 9 rfl rfl; DefC.fnAt (d := fs5_9) z.1 z.2 rfl)
  f_state_behind := (let z := c.def_ 6 0 rfl rfl; DefC.fnAt (d := fs6_0) z.1 z.2 rfl)
  f_knowers := (let z := c.def_ 6 1 rfl rfl; DefC.fnAt (d := fs6_1) z.1 z.2 rfl)
  f_law_pen := (let z := c.def_ 6 2 rfl rfl; DefC.fnAt (d := fs6_2) z.1 z.2 rfl)
  f_law_draw := (let z := c.def_ 6 3 rfl rfl; DefC.fnAt (d := fs6_3) z.1 z.2 rfl)
  f_law_pick := (let z := c.def_ 6 4 rfl rfl; DefC.fnAt (d := fs6_4) z.1 z.2 rfl)
  f_law_words := (let z := c.def_ 6 5 rfl rfl; DefC.fnAt (d := fs6_5) z.1 z.2 rfl)
  f_law_site := (let z := c.def_ 6 6 rfl rfl; DefC.fnAt (d := fs6_6) z.1 z.2 rfl)
  f_law_frame := (let z := c.def_ 6 7 rfl rfl; DefC.fnAt (d := fs6_7) z.1 z.2 rfl)
  f_law_is_so := (let z := c.def_ 6 8 rfl rfl; DefC.fnAt (d := fs6_8) z.1 z.2 rfl)
  f_law_step := (let z := c.def_ 6 9 rfl rfl; DefC.fnAt (d := fs6_9) z.1 z.2 rfl)
  f_law_inside := (let z := c.def_ 7 0 rfl rfl; DefC.fnAt (d := fs7_0) z.1 z.2 rfl)
  f_law_tried := (let z := c.def_ 7 1 rfl rfl; DefC.fnAt (d := fs7_1) z.1 z.2 rfl)
  f_law_is_one := (let z := c.def_ 7 2 rfl rfl; DefC.fnAt (d := fs7_2) z.1 z.2 rfl)
theorem ty_of (c : Told fbn fsn tfn h K) : TY PySem.Challenge.rw_seenframes_k39_whole_trials_of_networks.prog K where
  top := by kernel_rfl
  net := (let z := c.def_ 7 3 rfl rfl; DefC.clsFn (d := fs7_3) z.1 z.2 rfl rfl (c.fact 15 8 rfl rfl : (celB K PySem.Challenge.pw_seenframes_k39_whole_trials_of_networks.main.file (He.ma K (He.ga K "Network") "__init__") (He.ga K "Network")) = true))
  cls := Option.isSome_iff_exists.mp (c.fact 15 9 rfl rfl : ((PySem.W.clsIn K (He.ga K "Network")).isSome) = true)
  sub := of_decide_eq_true (c.fact 16 0 rfl rfl : (decide (PySem.W.mroIn K (He.ga K "Network") (.ref (He.ga K "Network")) = some true)) = true)
  any := He.eqO_ok (c.fact 16 1 rfl rfl : (He.eqO (PySem.W.nsIn K cStatics "thirdparty.any") (some none)) = true)
  sup := He.eqO_ok (c.fact 16 2 rfl rfl : (He.eqO (PySem.W.ks_superIn K (He.ga K "Network") (He.ga K "Network") "__init__") (some (some (.ref (He.ma K (He.ga K "Player") "__init__"))))) = true)
  ty := of_decide_eq_true (c.fact 16 3 rfl rfl : (decide (PySem.W.typeIn K (.ref (He.ma K (He.ga K "Player") "__init__")) = some (.type "function"))) = true)
  fi := (c.fact 16 4 rfl rfl : (PySem.W.fnIn K (He.ma K (He.ga K "Player") "__init__")) = true)
theorem tz_of (c : Told fbn fsn tfn h K) : TZ PySem.Challenge.rw_seenframes_k39_whole_trials_of_networks.prog K where
  oex := oexB_ok (c.fact 16 5 rfl rfl : (oexB K (He.ga K "NoHost")) = true)
  fn := (let z := c.def_ 7 4 rfl rfl; DefC.clsFn (d := fs7_4) z.1 z.2 rfl rfl (c.fact 16 6 rfl rfl : (celB K PySem.Challenge.pw_seenframes_k39_whole_trials_of_networks.main.file (He.ma K (He.ga K "NoHost") "__init__") (He.ga K "NoHost")) = true))
  cls := Option.isSome_iff_exists.mp (c.fact 16 7 rfl rfl : ((PySem.W.clsIn K (He.ga K "NoHost")).isSome) = true)
  sub := of_decide_eq_true (c.fact 16 8 rfl rfl : (decide (PySem.W.mroIn K (He.ga K "NoHost") (.ref (He.ga K "NoHost")) = some true)) = true)
  sup := He.eqO_ok (c.fact 16 9 rfl rfl : (He.eqO (PySem.W.ks_superIn K (He.ga K "NoHost") (He.ga K "NoHost") "__init__") (some (some (.builtin "ValueError.__init__")))) = true)
  ve := of_decide_eq_true (c.fact 17 0 rfl rfl : (decide (PySem.W.subIn K (.ref (He.ga K "NoHost")) (.type "ValueError") = some true)) = true)
  no := He.eqO_ok (c.fact 17 1 rfl rfl : (He.eqO (PySem.W.findIn K (.ref (He.ga K "NoHost")) "name") (some none)) = true)
  ini := He.eqO_ok (c.fact 17 2 rfl rfl : (He.eqO (PySem.W.findIn K (.ref (He.ga K "NoHost")) "__init__") (some (some (.ref (He.ma K (He.ga K "NoHost") "__init__"))))) = true)
  ty := of_decide_eq_true (c.fact 17 3 rfl rfl : (decide (PySem.W.typeIn K (.ref (He.ma K (He.ga K "NoHost") "__init__")) = some (.type "function"))) = true)
  xf := xfB_ok (c.fact 17 4 rfl rfl : (xfB K (He.ga K "NoHost")) = true)
theorem tv_of (c : Told fbn fsn tfn h K) : TV K where
  ne := He.eqO_ok (c.fact 17 5 rfl rfl : (He.eqO (PySem.W.findIn K (.ref (He.ga K "Network")) "__ne__") (some (some (.builtin "object.__ne__")))) = true)
  ob := of_decide_eq_true (c.fact 17 6 rfl rfl : (decide (PySem.W.mroIn K (He.ga K "Network") (.type "object") = some true)) = true)
theorem tq_of (c : Told fbn fsn tfn h K) : TQ K where
  nn := of_decide_eq_true (c.fact 17 7 rfl rfl : (decide (PySem.W.exmOne K (.ref (He.ga K "NoHost")) (.ref (He.ga K "NoHost")) = some true)) = true)
  kn := of_decide_eq_true (c.fact 17 8 rfl rfl : (decide (PySem.W.exmOne K (.type "KeyError") (.ref (He.ga K "NoHost")) = some false)) = true)
  kk := of_decide_eq_true (c.fact 17 9 rfl rfl : (decide (PySem.W.exmOne K (.type "KeyError") (.type "KeyError") = some true)) = true)
theorem fct_of (c : Told fbn fsn tfn h K) : FnC K (He.ga K "_law_tried") "_law_tried" "_law_tried" s_law_tried (He.cT K ("_law_tried", none)).1 := (let z := c.def_ 7 1 rfl rfl; DefC.fnC (d := fs7_1) z.1 z.2 rfl rfl (p := ("_law_tried", none)) rfl)
theorem fcl_of (c : Told fbn fsn tfn h K) : FnC K (He.ga K "law") "law" "law" s_law (He.cT K ("law", none)).1 := (let z := c.def_ 7 5 rfl rfl; DefC.fnC (d := fs7_5) z.1 z.2 rfl rfl (p := ("law", none)) rfl)
theorem law_at (X : K.In h) (G : h.Ns mainGlobals mg) (c : Told fbn fsn tfn h K) : mg "law" = some (.ref (He.ga K "law")) := He.glo_ok X G (c.fact 18 1 rfl rfl : ((He.Fa.glo "law").ok K) = true)
theorem tabs_apart (c : Told fbn fsn tfn h K) : (He.cT K ("_law_tried", none)).2 ≠ (He.cT K ("law", none)).2 := fun z => by
  have q := (c.fact 18 0 rfl rfl : (!decide ((He.cT K ("_law_tried", none)).2 = (He.cT K ("law", none)).2)) = true)
  rw [decide_eq_true z] at q
  cases q
end SfW
namespace SfW
open PySem PySem.Spec PyProof.Rows L2 LamX
/-! the end: a law whose promise asks that no repr is under way -/
section
variable {P : Program} {w : World} {K : PySem.W.Frag} {mg mb : Str → Option Value} {k : Nat} {fa a : Addr} {cs : List (Addr × Addr)} {sp : Sp} {S : Shared} {vs : List Value} {ns : List Int}
/-- an empty table of a code object -/
abbrev tab0 : Obj := { cls := .none, data := .fields #[] }
/-- what the caller hands over: the tables are empty, the script's list is told -/
def hp0 (K : PySem.W.Frag) (T : List Addr) (a : Addr) (vs : List Value) (ns : List Int) : Hp := fun b =>
  if b ∈ T then some (.tbl #[]) else if b = a ∧ K.lookup a = none then some (.frz { cls := .type "list", data := .seq vs.toArray } (.lst (ns.map V.int))) else none
theorem hp0_tab {T : List Addr} {b : Addr} (h : b ∈ T) : hp0 K T a vs ns b = some (.tbl #[]) := if_pos h
theorem hp0_lst {T : List Addr} (h : a ∉ T) (q : K.lookup a = none) : hp0 K T a vs ns a = some (.frz { cls := .type "list", data := .seq vs.toArray } (.lst (ns.map V.int))) := (if_neg h).trans (if_pos ⟨rfl, q⟩)
theorem hp0_cases {T : List Addr} {b : Addr} {u : HO} (h : hp0 K T a vs ns b = some u) : (b ∈ T ∧ u = .tbl #[]) ∨ (b = a ∧ K.lookup a = none ∧ u = .frz { cls := .type "list", data := .seq vs.toArray } (.lst (ns.map V.int))) := by
  unfold hp0 at h
  split at h
  · rename_i m
    exact .inl ⟨m, (Option.some.inj h).symm⟩
  · split at h
    · rename_i m2
      exact .inr ⟨m2.1, m2.2, (Option.some.inj h).symm⟩
    · cases h
/-- what stands at an address that the tables and the script leave alone -/
structure Rest (S : Shared) (cs : List (Addr × Addr)) (a : Addr) (vs : List Value) : Prop where
  tabs : ∀ p ∈ cs, S.heap.get? p.2 = some tab0
  list : S.heap.get? a = some { cls := .type "list", data := .seq vs.toArray }
theorem Rest.tab (R : Rest S cs a vs) {b : Addr} (h : b ∈ cs.map (·.2)) : S.heap.get? b = some tab0 := by
  obtain ⟨p, hp, e⟩ := List.mem_map.mp h
  exact e ▸ R.tabs p hp
theorem Rest.apart (R : Rest S cs a vs) : a ∉ cs.map (·.2) := fun z => by
  have q := R.tab z
  rw [R.list] at q
  have q2 : Data.seq vs.toArray _ = Data.fields #[] := congrArg Obj.data (Option.some.inj q)
  cases q2
theorem Rest.free (R : Rest S cs a vs) {b : Addr} {o : Obj} (e : S.heap.get? b = some o) (h1 : ∀ us n, o.data ≠ .seq us n) (h2 : o.data ≠ .fields #[]) : hp0 K (cs.map (·.2)) a vs ns b = none := by
  cases q : hp0 K (cs.map (·.2)) a vs ns b with
  | none => rfl
  | some u =>
    rcases hp0_cases q with ⟨m, _⟩ | ⟨m, _, _⟩
    · rw [R.tab m] at e
      exact absurd (congrArg Obj.data (Option.some.inj e)).symm h2
    · rw [m, R.list] at e
      exact absurd (congrArg Obj.data (Option.some.inj e)).symm (h1 _ _)
theorem Rest.dict (R : Rest S cs a vs) {b : Addr} {o : Obj} {es : Array DictEntry} {n : Nat} (e : S.heap.get? b = some o) (d : o.data = .dict es n) : hp0 K (cs.map (·.2)) a vs ns b = none :=
  R.free e (fun us m z => by rw [d] at z; cases z) fun z => by rw [d] at z; cases z
theorem Rest.names (R : Rest S cs a vs) {b : Addr} {m : Str → Option Value} : S.heap.Ns b m → (hidT S.heap (hp0 K (cs.map (·.2)) a vs ns)).Ns b m := fun ⟨o, es, n, e, d, r⟩ => ⟨o, es, n, hidT_get e (R.dict e d), d, r⟩
theorem law_ends (KX : K.In S.heap) (hns : S.heap.Ns mainGlobals mg) (hb : S.heap.Ns builtinsNs mb) (hbb : ∀ x : Str, x ≠ "__name__" → mb x = bootBuiltins x) (hlim : S.heap.NoLimit) (hg : S.gens = #[]) (R : Rest S cs a vs) (nT : ∀ p ∈ cs, K.lookup p.2 = none)
    (C : ∀ p ∈ cs, PySem.W.CodeHd S.heap p.1 p.2) (hbm : ∃ (bm : Addr) (ob : Obj), mg "__builtins__" = some (.ref bm) ∧ bm ≠ builtinsNs ∧ S.heap.get? bm = some ob ∧ ob.cls = .type "module" ∧ ob.dict = some builtinsNs ∧ ob.data = .plain) (hi : IntsAre vs ns) (hl : ns.length ≤ sizeLine)
    (hr : Room k callerA) (hgd : callerA.guards = some []) (F : ∀ bs : Heap, K.In bs → bs.Ns mainGlobals mg → (∀ p ∈ cs, TabB bs mg p.1 p.2) → FnGR P w K mg bs CX0 k fa sp)
    (hsp : ∀ H : Hp, (∀ p ∈ cs, H p.2 = some (.tbl #[])) → SqL K H a (ns.map V.int) → sp [.ref a] H (fun v _ => v = .bl true) fun _ _ _ => False) :
    codeAny (model P w) callerA (.call (.ref fa) ⟨[.ref a], []⟩) (fun r t => r = .ok (.ret (.bool true)) ∧ OldK S.heap t.heap ∧ t.os = S.os ∧ AllBare t.gens) S := by
  have rv := vals_ints hi
  obtain ⟨H, hH⟩ : ∃ H : Hp, H = hp0 K (cs.map (·.2)) a vs ns := ⟨_, rfl⟩
  have inT : ∀ p ∈ cs, p.2 ∈ cs.map (·.2) := fun p hp => List.mem_map.mpr ⟨p, hp, rfl⟩
  have hT : ∀ p ∈ cs, H p.2 = some (.tbl #[]) := fun p hp => by rw [hH]; exact hp0_tab (inT p hp)
  have hS : SqL K H a (ns.map V.int) := by
    cases q : K.lookup a with
    | none => exact .inl (.inr ⟨_, by rw [hH]; exact hp0_lst R.apart q⟩)
    | some o =>
      have e := (KX a o q).symm.trans R.list
      cases e
      exact .inr ⟨_, vs.toArray, _, q, rfl, rfl, rfl, by rw [List.size_toArray, hi.length]; exact hl, by simpa using rv⟩
  have ok : HOk P w H S.heap := fun b u z => by
    rw [hH] at z
    rcases hp0_cases z with ⟨m, e⟩ | ⟨m, _, e⟩
    · rw [e]
      exact R.tab m
    · rw [e, m]
      exact ⟨R.list, by rw [List.length_map]; exact hl, vs, _, rv, R.list⟩
  have bIn : K.In (hidT S.heap H) := fun b o e => hidT_get (KX b o e) (by
    cases q : H b with
    | none => rfl
    | some u =>
      rw [hH] at q
      rcases hp0_cases q with ⟨m, _⟩ | ⟨m, n, _⟩
      · obtain ⟨p, hp, ep⟩ := List.mem_map.mp m
        have n := nT p hp
        rw [ep, e] at n
        cases n
      · rw [m, n] at e
        cases e)
  have bNs : ∀ {b : Addr} {m : Str → Option Value}, S.heap.Ns b m → (hidT S.heap H).Ns b m := fun {b m} z => by rw [hH]; exact R.names z
  have free : ∀ {b : Addr} {o : Obj}, S.heap.get? b = some o → (∀ us n, o.data ≠ .seq us n) → o.data ≠ .fields #[] → (hidT S.heap H).get? b = some o := fun e h1 h2 => hidT_get e (by rw [hH]; exact R.free e h1 h2)
  have TB : ∀ p ∈ cs, TabB (hidT S.heap H) mg p.1 p.2 := fun p hp => by
    have hTp := R.tabs p hp
    refine ⟨?_, ?_, fun z => ?_⟩
    · obtain ⟨o, us, file, tf, flags, tg, inF, text, tt, e1, r1, r2, r3, r4, r5, r6, r7, r8, hne⟩ := C p hp
      refine ⟨o, us, file, tf, flags, tg, inF, text, tt, free e1 (fun us n z => by rw [r2] at z; cases z) (fun z => ?_), r1, r2, r3, r4, r5, r6, r7, r8, hne⟩
      rw [r2] at z
      cases z
      simp at r3
    · obtain ⟨bm, ob, b1, b2, b3, b4, b5, b6⟩ := hbm
      refine ⟨bm, ob, b1, b2, fun q => ?_, fun q => ?_, free b3 (fun us n z => by rw [b6] at z; cases z) (fun z => by rw [b6] at z; cases z), b4, b5, b6⟩
      · obtain ⟨o, es, n, e, hd, _⟩ := hns
        rw [q, e] at b3
        cases b3
        rw [hd] at b6
        cases b6
      · rw [q, hTp] at b3
        cases b3
        cases b6
    · obtain ⟨o, es, n, e, hd, _⟩ := hns
      rw [z, hTp] at e
      cases e
      cases hd
  have E0 : Env0 P w K mg (hidT S.heap H) callerA [] S H := ⟨rfl, ⟨bIn, bNs hns, ⟨mb, bNs hb, hbb⟩, let ⟨mc, h1, h2⟩ := hlim; ⟨mc, bNs h1, h2⟩⟩, fun b o e => of_hidT e, Nat.le_of_eq (hidT_size _ _), trivial, fun b z => (List.not_mem_nil z).elim, ok, .of_eq hg⟩
  refine codeAny_mono (F _ bIn (bNs hns) TB callerA [] S H [.ref a] [.ref a] _ _ hgd hr E0 (.cons rfl .nil) (hsp H hT hS)) fun r t h => ?_
  match r, h with
  | .error e, h => exact False.elim h
  | .ok .next, h => exact False.elim h
  | .ok .brk, h => exact False.elim h
  | .ok .cont, h => exact False.elim h
  | .ok (.ret u), ⟨v, H1, os, bare, un, ok1, r1, q1⟩ =>
    have q1 : v = .bl true := q1
    subst q1
    obtain rfl : u = Value.bool true := r1
    have kept : ∀ b o, b ∉ cs.map (·.2) → S.heap.get? b = some o → t.heap.get? b = some o := fun b o nb e => by
      cases q : H b with
      | none => exact un.keep b o e q (List.not_mem_nil) (by simp)
      | some u =>
        have q0 := q
        rw [hH] at q0
        rcases hp0_cases q0 with ⟨m, _⟩ | ⟨_, _, eu⟩
        · exact absurd m nb
        · rw [eu] at q
          obtain ⟨g1, _⟩ := ok b _ q
          obtain ⟨g2, _⟩ := ok1 b _ (un.frzs b _ _ q)
          rw [e] at g1
          cases g1
          exact g2
    have grew : ∀ p ∈ cs, ∃ us : Array Value, t.heap.get? p.2 = some { cls := .none, data := .fields us } := fun p hp => by
      obtain ⟨us, z⟩ := un.tbls p.2 #[] (hT p hp)
      exact ⟨_, ok1 p.2 _ z⟩
    refine ⟨rfl, ⟨fun b o e => ?_, fun b o e => ?_⟩, os, bare⟩
    · by_cases m : b ∈ cs.map (·.2)
      · obtain ⟨p, hp, ep⟩ := List.mem_map.mp m
        obtain ⟨us, gm⟩ := grew p hp
        subst ep
        rw [R.tabs p hp] at e
        cases e
        exact .inr (.inl ⟨((C p hp).tab (R.tabs p hp)).isCodeTable, rfl, #[], us, rfl, by rw [Array.empty_append]; exact gm⟩)
      · exact .inl (kept b o m e)
    · by_cases m : b ∈ cs.map (·.2)
      · obtain ⟨p, hp, ep⟩ := List.mem_map.mp m
        subst ep
        obtain ⟨us, gm⟩ := grew p hp
        exact ⟨_, gm⟩
      · exact ⟨o, kept b o m e⟩
/-- a law's walk, if its promise asks so -/
theorem law_walk {l : PySem.W.OpenLaw} {n j : Nat} {q : Program} {loose : List Str} {XP : (Str → Option Value) → Heap → Prop} {YP : World → Heap → Prop} {d : DefRec} (hn : l.most = some n) (hs : n ≤ sizeLine) (hd : d.params.defaults = []) (hr : Room j callerA)
    (F : ∀ (w : World) (mg : Str → Option Value) (fa : Addr) (h : Heap), YP w h → h.Ns mainGlobals mg → mg d.name = some (.ref fa) → ∃ (K : PySem.W.Frag) (cs : List (Addr × Addr)) (sp : Sp), K.In h ∧ (∀ p ∈ cs, h.get? p.2 = some tab0) ∧ (∀ p ∈ cs, K.lookup p.2 = none) ∧ (∀ p ∈ cs, PySem.W.CodeHd h p.1 p.2) ∧
      (∀ (H : Hp) (a : Addr) (ns : List Int), ns.length ≤ n → (∀ p ∈ cs, H p.2 = some (.tbl #[])) → SqL K H a (ns.map V.int) → sp [.ref a] H (fun v _ => v = .bl true) fun _ _ _ => False) ∧
      ∀ bs : Heap, K.In bs → bs.Ns mainGlobals mg → (∀ p ∈ cs, TabB bs mg p.1 p.2) → FnGR l.prog w K mg bs CX0 j fa sp) : PySem.W.WalkO q loose XP YP l.row.toRowW d [] fun f vs => PySem.call f vs := by
  refine Att.attach_callB hn hd fun w s0 S mg mb fa o pm cd doc a vs ns G Y ho hdt hcd hmg hobj hints hlen _ hg => ?_
  obtain ⟨K, cs, sp, KX, hT, nT, C, hsp, hF⟩ := F w mg fa _ Y G.T.g hmg
  exact law_ends KX G.T.g G.T.b G.T.builtins G.T.nolimit hg ⟨hT, hobj⟩ nT C G.T.bmain hints (Nat.le_trans hlen hs) hr rfl hF fun H hH hS => hsp H a ns hlen hH hS
end
end SfW
namespace SfW
open PySem PySem.Spec PyProof.Rows L2
/-! the law holds -/
theorem law_told {w : World} {mg : Str → Option Value} {fa : Addr} {h : Heap} (Y : hk.says w h) (G : h.Ns mainGlobals mg) (hmg : mg "law" = some (.ref fa)) : ∃ (K : PySem.W.Frag) (cs : List (Addr × Addr)) (sp : Sp), K.In h ∧ (∀ p ∈ cs, h.get? p.2 = some tab0) ∧ (∀ p ∈ cs, K.lookup p.2 = none) ∧ (∀ p ∈ cs, PySem.W.CodeHd h p.1 p.2) ∧
      (∀ (H : Hp) (a : Addr) (ns : List Int), ns.length ≤ 63 → (∀ p ∈ cs, H p.2 = some (.tbl #[])) → SqL K H a (ns.map V.int) → sp [.ref a] H (fun v _ => v = .bl true) fun _ _ _ => False) ∧
      ∀ bs : Heap, K.In bs → bs.Ns mainGlobals mg → (∀ p ∈ cs, LamX.TabB bs mg p.1 p.2) → FnGR PySem.Challenge.rw_seenframes_k39_whole_trials_of_networks.prog w K mg bs CX0 32 fa sp := by
  obtain ⟨K, KX, c⟩ := Y
  have e := hmg.symm.trans (law_at KX G c)
  have e := Option.some.inj e
  cases e
  have ap := tabs_apart c
  refine ⟨K, tfn.map (He.cT K), spLaw K [((He.cT K ("_law_tried", none)).2, qT), ((He.cT K ("law", none)).2, qL)], KX, fun p hp => ?_, fun p hp => ?_, fun p hp => ?_, fun H a ns hl hT hS => ⟨a, ns, rfl, hS, hl, fun p hp => ?_, fun _ => rfl⟩, fun bs KB GB TB => ?_⟩
  · obtain ⟨d, hd, e⟩ := List.mem_map.mp hp
    exact e ▸ c.emp d hd
  · obtain ⟨d, hd, e⟩ := List.mem_map.mp hp
    exact e ▸ c.out d hd
  · obtain ⟨d, hd, e⟩ := List.mem_map.mp hp
    exact e ▸ PySem.W.codeHd_of_K KX (c.hd d hd)
  · rcases List.mem_cons.mp hp with e | hp
    · rw [e]
      exact LamX.TabS.nil (hT _ (List.mem_map.mpr ⟨_, List.mem_cons_self, rfl⟩))
    · rw [List.mem_singleton.mp hp]
      exact LamX.TabS.nil (hT _ (List.mem_map.mpr ⟨_, List.mem_cons_of_mem _ List.mem_cons_self, rfl⟩))
  · refine F_law (tx_of KX G c) (ty_of c) (tz_of c) (tv_of c) (tq_of c) (fct_of c) (TB _ (List.mem_map.mpr ⟨_, List.mem_cons_self, rfl⟩)) List.mem_cons_self (fun p hp z => ?_) (fcl_of c) (TB _ (List.mem_map.mpr ⟨_, List.mem_cons_of_mem _ List.mem_cons_self, rfl⟩)) (List.mem_cons_of_mem _ List.mem_cons_self) fun p hp z => ?_
    · rcases List.mem_cons.mp hp with e | hp
      · rw [e]
      · rw [List.mem_singleton.mp hp] at z
        exact absurd z.symm ap
    · rcases List.mem_cons.mp hp with e | hp
      · rw [e] at z
        exact absurd z ap
      · rw [List.mem_singleton.mp hp]
end SfW
section
open PySem PySem.W PySem.Calls PyProof.Rows
theorem PySem.Challenge.cw_seenframes_k39_whole_trials_of_networks_holds : PySem.Challenge.rw_seenframes_k39_whole_trials_of_networks.Holds := by
  w_on; o_law
  refine HandSHeadRun.head_any (r := SfW.R39) (q := SfW.qv) (H := SfW.hk) (ob := SfW.ob) (M := 20000) (loose := SfW.qN) (d := HandSHeadRun.topDef SfW.R39.prog 97) (kwd := []) SfW.ob_eq (by kernel_rfl) (fun s => by kernel_rfl) SfW.run_look
    (by kernel_rfl) (by kernel_rfl) (by kernel_rfl) (by rfl) (by first | assumption | decide +kernel) (by decide +kernel) ⟨rfl, rfl, rfl, rfl, rfl, by decide +kernel⟩ ?hw ?hc
  case hw => w_witness2
  case hc =>
    refine SfW.law_walk (l := PySem.Challenge.rw_seenframes_k39_whole_trials_of_networks) (n := 63) (j := 32) rfl (by decide) (by kernel_rfl) ⟨rfl, by decide, by decide⟩ fun w mg fa h Y G hmg => ?_
    have e : (HandSHeadRun.topDef SfW.R39.prog 97).name = ("law" : PySem.Str) := by kernel_rfl
    exact SfW.law_told Y G (e ▸ hmg)
end
