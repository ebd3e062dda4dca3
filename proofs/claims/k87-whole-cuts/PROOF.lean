import PyProof.Rows.All
import Wide.All
import OpenK.AllK
import Wide.FinOn
import KE.KOpsOwn
import HandS.ForMost
import HandS.DictComp
import HandS.Defaults
import HandS.Slots
import HandS.SlotsOwn
import HandS.Property
import HandS.ClsMeth
import HandS.IsInst
import HandS.HeadHook1
import HandS.HeadHook2
import HandS.HeadNt
import KE.KStateDown
import Lean
import HandS.Ends
import HandS.Head0
import HandS.Head1
import HandS.Head2
import HandS.HeadEnd
import HandS.Walk
import HandS.Dict
import HandS.DictTup
import HandS.Iter
import HandS.Deep
import HandS.TupAny
import HandS.RaiseMore
import HandS.WideBits
import HandS.Wide
import HandS.More
import HandS.Set
import HandS.SetFor
import HandS.SetTxt0
import HandS.Strs
import HandS.TupSets
import PyProof.Rows.SortShellAny
import HandS.Style
import PyProof.TupleOfSeq
import HandS.SortRule
import PyProof.Rows.SortKeyStr
import PySem.Challenge.RW_howmanyeach_k87_whole_cuts_judged
set_option Elab.async false
set_option linter.all false
set_option maxRecDepth 100000
set_option maxHeartbeats 0
/-! Rul -/
/-! Rules that the layer lacks: operators of one's own class, a thing locked for good, xs[i] read for xs[i] += e. -/
namespace Dn
open PySem PySem.Spec PyProof.Rows L2
theorem rref (p : Addr) : RelV (.ref p) (Value.ref p) := rfl
theorem rty (n : String) : RelV (.ty n) (Value.type n) := rfl
theorem rbl (c : Bool) : RelV (.bl c) (Value.bool c) := rfl
section
variable {X : Cx} {pins : List (Addr × Obj)} {σ : L2.St} {H : Hp} {s : Shared} {a b e : Expr} {ta tb te : TE} {pos : Pos}
/-- the value is locked from here on: it is read only -/
def tFrz (te : TE) : TE := fun σ H Q => te σ H fun x H1 => ∃ d u, x = .ref d ∧ H1 d = some u ∧ Mut (some u) ∧ ∀ od, Q x (upd H1 d (.frz od u))
theorem pe_frz (h : PE X e te) : PE X e (tFrz te) := ⟨fun pins s σ H Q I hw => thn (h.run pins s σ H _ I hw) fun v s1 ⟨x, H1, I1, r, d, u, ex, hd, mu, q⟩ => by
  obtain ⟨od, I2⟩ := I1.lock hd mu
  exact ⟨x, _, I2, r, q od⟩⟩
/-- an own def, called from within -/
theorem run_at {A : Around} {k : Nat} {f : Addr} {fd : FuncData} {ps : List Str} {sp : Sp} {Q : VK} {us : List Value} {vs : List V} (F : FnOk X.prog X.w X.K X.mg X.base CX0 k f fd ps sp) (hr : Room k A) (hf : A.frames = X.A.frames) (hb : Binds X.K fd ps [])
    (I : Inv X pins σ H s) (r : Vals vs us) (h : sp vs H Q E0) : wpAny (model X.prog X.w) A (call (.ref f) us) (EP X pins σ Q) X.xe s := by
  have ev := I.env0
  have e1 : Env0 X.prog X.w X.K X.mg X.base A X.stack s H := ⟨hf.trans ev.frames, ev.mod, ev.bs, ev.bsz, ev.funs, ev.frf, ev.hok, ev.bare⟩
  have hl : us.length = ps.length := r.length.symm.trans (F.len _ _ _ _ h)
  have bind := hb s us I.kIn (by rw [List.append_nil]; exact hl)
  rw [List.append_nil] at bind
  refine wpAny_call (codeAny_mono (F.run A X.stack s H ⟨us, []⟩ us vs Q E0 hr e1 bind r h) fun res s' hq => ?_)
  cases res with
  | error x => exact False.elim hq
  | ok fl => cases fl with
    | ret u => exact I.after hq
    | next => exact False.elim hq
    | brk => exact False.elim hq
    | cont => exact False.elim hq
/-- what an operator of the class at C goes to -/
structure OwnOp (K : PySem.W.Frag) (C : Addr) (m : Str) (f : Addr) : Prop where
  at_ : PySem.W.findIn K (.ref C) m = some (some (.ref f))
  fn : PySem.W.isFn K (.ref f) = true
section
variable {C f : Addr} {fd : FuncData} {ps : List Str} {sp : Sp} {k : Nat}
def rOwnIn (C : Addr) (sp : Sp) : R2 := fun x y H Q => ∃ p dx fs, y = .ref p ∧ H p = some (.ins C dx fs) ∧ sp [.ref p, x] H (fun v H' => ∃ r, v = .bl r ∧ Q (.bl r) H') E0
def rOwnNi (C : Addr) (sp : Sp) : R2 := fun x y H Q => ∃ p dx fs, y = .ref p ∧ H p = some (.ins C dx fs) ∧ sp [.ref p, x] H (fun v H' => ∃ r, v = .bl r ∧ Q (.bl (!r)) H') E0
theorem op_ownIn (o : OwnOp X.K C "__contains__" f) (F : FnOk X.prog X.w X.K X.mg X.base CX0 k f fd ps sp) (hr : Room k X.A) (hb : Binds X.K fd ps []) : OpR X (compareOp .In) (rOwnIn C sp) := by
  intro pins s σ H x y v u Q I rx ry ⟨p, dx, fs, ey, hp, h⟩
  subst ey
  cases (show u = Value.ref p from ry)
  obtain ⟨mA, J, _⟩ := ins_get I.hok hp
  obtain ⟨od, J, _⟩ := J.look
  obtain ⟨m, hF⟩ := I.fr
  refine PySem.W.in_K hF I.ok.mod.kin J o.at_ o.fn (thn (run_at F hr rfl hb I (.cons (rref p) (.cons rx .nil)) h) fun r s1 ⟨z, H1, I1, rz, c, ez, q⟩ => ?_)
  subst ez
  cases (show r = Value.bool c from rz)
  exact wpAny_truthy_bool ⟨_, H1, I1, rbl _, q⟩
theorem op_ownNi (o : OwnOp X.K C "__contains__" f) (F : FnOk X.prog X.w X.K X.mg X.base CX0 k f fd ps sp) (hr : Room k X.A) (hb : Binds X.K fd ps []) : OpR X (compareOp .NotIn) (rOwnNi C sp) := by
  intro pins s σ H x y v u Q I rx ry ⟨p, dx, fs, ey, hp, h⟩
  subst ey
  cases (show u = Value.ref p from ry)
  obtain ⟨mA, J, _⟩ := ins_get I.hok hp
  obtain ⟨od, J, _⟩ := J.look
  obtain ⟨m, hF⟩ := I.fr
  refine PySem.W.notIn_K hF I.ok.mod.kin J o.at_ o.fn (thn (run_at F hr rfl hb I (.cons (rref p) (.cons rx .nil)) h) fun r s1 ⟨z, H1, I1, rz, c, ez, q⟩ => ?_)
  subst ez
  cases (show r = Value.bool c from rz)
  exact wpAny_truthy_bool ⟨_, H1, I1, rbl _, q⟩
/-- o[i] by one's own __getitem__ -/
def rOwnGet (C : Addr) (sp : Sp) : R2 := fun x y H Q => ∃ p dx fs, x = .ref p ∧ H p = some (.ins C dx fs) ∧ sp [.ref p, y] H Q E0
def SubIx (slice : Expr) : Prop := ∀ o i, subscripted slice true o i = runValue (.builtin "lifetime.subscript" ⟨[o, i], []⟩)
theorem pe_ownGet (o : OwnOp X.K C "__getitem__" f) (hfn : PySem.W.fnIn X.K f = true) (F : FnOk X.prog X.w X.K X.mg X.base CX0 k f fd ps sp) (hr : Room (k + 1) X.A) (hb : Binds X.K fd ps []) (ha : PE X a ta) (hi : PE X b tb) (hs : SubIx b := by exact fun _ _ => rfl) :
    PE X (.Subscript a b pos) (tOp (rOwnGet C sp) ta tb) := by
  refine ⟨fun pins s σ H Q I h => ?_⟩
  refine Subscript_ (binT ha hi I h fun v u s2 x y H2 I2 rx ry q => ?_)
  obtain ⟨p, dx, fs, ex, hp, q⟩ := q
  subst ex
  cases (show v = Value.ref p from rx)
  obtain ⟨mA, J, _⟩ := ins_get I2.hok hp
  obtain ⟨od, J, _⟩ := J.look
  obtain ⟨m, hF⟩ := I2.fr
  exact PySem.W.sub_K hF I2.ok.mod.kin J o.at_ hfn o.fn (run_at F hr.in1 rfl hb I2 (.cons (rref p) (.cons ry .nil)) q) (hs _ _)
/-- o[i] = v by one's own __setitem__ -/
def rOwnSet (C : Addr) (sp : Sp) : TSet := fun o i v H Q => ∃ p dx fs, o = .ref p ∧ H p = some (.ins C dx fs) ∧ sp [.ref p, i, v] H (fun _ H' => Q H') E0
theorem set_own (o : OwnOp X.K C "__setitem__" f) (hq : PySem.W.noSeq X.K C = true) (F : FnOk X.prog X.w X.K X.mg X.base CX0 k f fd ps sp) (hr : Room k X.A) (hb : Binds X.K fd ps []) : PSet X (rOwnSet C sp) := by
  intro pins s σ H x i v xv iv u Q I rx ri rv ⟨p, dx, fs, ex, hp, h⟩
  subst ex
  cases (show xv = Value.ref p from rx)
  obtain ⟨mA, J, _⟩ := ins_get I.hok hp
  obtain ⟨od, J, _⟩ := J.look
  obtain ⟨m, hF⟩ := I.fr
  exact PySem.W.ksp_setItem hF I.ok.mod.kin J hq o.at_ o.fn (thn (run_at F hr rfl hb I (.cons (rref p) (.cons ri (.cons rv .nil))) h) fun r s1 ⟨z, H1, I1, _, q⟩ => ⟨H1, I1, q⟩)
/-- o += e by one's own __iadd__ -/
def rOwnIadd (C : Addr) (sp : Sp) : TIp := fun x y H Q => ∃ p dx fs, x = .ref p ∧ H p = some (.ins C dx fs) ∧ sp [.ref p, y] H Q E0
theorem ip_own (o : OwnOp X.K C "__iadd__" f) (hc : PySem.W.selfFirst X.K C = true) (F : FnOk X.prog X.w X.K X.mg X.base CX0 k f fd ps sp) (hr : Room k X.A) (hb : Binds X.K fd ps []) : PIp X .Add (rOwnIadd C sp) := by
  intro pins s σ H x y v u Q I rx ry ⟨p, dx, fs, ex, hp, h⟩
  subst ex
  cases (show v = Value.ref p from rx)
  obtain ⟨mA, J, _⟩ := ins_get I.hok hp
  obtain ⟨od, J, _⟩ := J.look
  obtain ⟨m, hF⟩ := I.fr
  refine PySem.W.ksp_inplace hF I.ok.mod.kin J hc (by exact o.at_) o.fn (thn (run_at F hr rfl hb I (.cons (rref p) (.cons ry .nil)) h) fun r s1 hr1 => ?_)
  obtain ⟨z, H1, I1, rz, q⟩ := id hr1
  cases r <;> first
    | exact hr1
    | (cases z <;> first | (obtain ⟨_, w⟩ := rz; cases w) | cases rz)
end
/-- xs[i] read, for xs[i] += e -/
def rGetL : V → V → Hp → VK → Prop := fun o i H Q => ∃ p xs k v, o = .ref p ∧ i = .int k ∧ H p = some (.lst xs) ∧ 0 ≤ k ∧ k < 2 ^ 63 ∧ xs[k.toNat]? = some v ∧ Q v H
theorem get_list : PGet X rGetL := by
  intro pins s σ H o i ov iv Q I ro ri ⟨p, xs, k, v, eo, ei, hp, h0, h1, hv, q⟩
  subst eo ei
  cases (show ov = Value.ref p from ro)
  obtain ⟨t, rfl⟩ := ri
  obtain ⟨its, r, pl, hz⟩ := I.list (.of hp)
  obtain ⟨w, ew, rw'⟩ := r.get hv
  have hk : k.toNat < its.length := (List.getElem?_eq_some_iff.mp ew).1
  exact wpAny_getItem_list pl.isList h0 (by simp; omega) (by simpa using ew) ⟨v, H, I, rw', q⟩
end
end Dn
/-! Prog -/
/-! The program's places, scopes, facts. Printed by genprog.py. -/
namespace Pr
open PySem PySem.Spec PyProof.Rows L2
def top (i : Nat) : Stmt := PySem.Challenge.pw_howmanyeach_k87_whole_cuts_judged.main.body.getD i (.Pass ⟨0, 0, 0, 0⟩)
def inClass (c : Stmt) (j : Nat) : Stmt := match c with
  | .ClassDef _ _ _ b _ _ _ _ _ _ _ => b.getD j (.Pass ⟨0, 0, 0, 0⟩)
  | _ => c
/-- the getter of a property -/
def pg (K : PySem.W.Frag) (x f : Str) : Addr := match PySem.W.recIn K (He.ma K (He.ga K x) f) "property" with
  | some (.ref g :: _) => g
  | _ => 0
def fdOf (K : PySem.W.Frag) (a : Addr) : FuncData := match K.lookup a with
  | some ⟨_, _, .func fd, _⟩ => fd
  | _ => default
theorem fd_eq {K : PySem.W.Frag} {x q : Str} {pa : Arguments} {b : List Stmt} {sc : Scope} {dvs : List V} {kws : List (Str × V)} {f : Addr} {fd : FuncData} (F : FunD K x q pa b sc dvs kws f fd) : fd = fdOf K f := by
  obtain ⟨oc, od, dV, kV, doc, pm, an, cdv, ct, osl, e, lk, _⟩ := F.ex
  unfold fdOf
  rw [lk]
def sameO (a b : Option (Option Value)) : Bool := decide (a = b)

abbrev s_is_integer : Stmt := top 28
abbrev n_is_integer : List Str := ["value"]
theorem sc_is_integer : FnScope n_is_integer ["value"] (defScope s_is_integer) := ⟨rfl, rfl, rfl, by decide +kernel, rfl, by decide +kernel, by decide +kernel⟩
abbrev a_is_integer (K : PySem.W.Frag) : Addr := He.ga K "is_integer"
def d_is_integer : He5.DefA := ⟨fun K => a_is_integer K, "is_integer", "is_integer", defArgs s_is_integer, defBody s_is_integer, defScope s_is_integer, [], []⟩
abbrev s_is_count : Stmt := top 29
abbrev n_is_count : List Str := ["value"]
theorem sc_is_count : FnScope n_is_count ["value"] (defScope s_is_count) := ⟨rfl, rfl, rfl, by decide +kernel, rfl, by decide +kernel, by decide +kernel⟩
abbrev a_is_count (K : PySem.W.Frag) : Addr := He.ga K "is_count"
def d_is_count : He5.DefA := ⟨fun K => a_is_count K, "is_count", "is_count", defArgs s_is_count, defBody s_is_count, defScope s_is_count, [], []⟩
abbrev s_is_name : Stmt := top 30
abbrev n_is_name : List Str := ["value", "letter"]
theorem sc_is_name : FnScope n_is_name ["value"] (defScope s_is_name) := ⟨rfl, rfl, rfl, by decide +kernel, rfl, by decide +kernel, by decide +kernel⟩
abbrev a_is_name (K : PySem.W.Frag) : Addr := He.ga K "is_name"
def d_is_name : He5.DefA := ⟨fun K => a_is_name K, "is_name", "is_name", defArgs s_is_name, defBody s_is_name, defScope s_is_name, [], []⟩
abbrev s_is_end : Stmt := top 31
abbrev n_is_end : List Str := ["value"]
theorem sc_is_end : FnScope n_is_end ["value"] (defScope s_is_end) := ⟨rfl, rfl, rfl, by decide +kernel, rfl, by decide +kernel, by decide +kernel⟩
abbrev a_is_end (K : PySem.W.Frag) : Addr := He.ga K "is_end"
def d_is_end : He5.DefA := ⟨fun K => a_is_end K, "is_end", "is_end", defArgs s_is_end, defBody s_is_end, defScope s_is_end, [], []⟩
abbrev s_other_end : Stmt := top 32
abbrev n_other_end : List Str := ["end"]
theorem sc_other_end : FnScope n_other_end ["end"] (defScope s_other_end) := ⟨rfl, rfl, rfl, by decide +kernel, rfl, by decide +kernel, by decide +kernel⟩
abbrev a_other_end (K : PySem.W.Frag) : Addr := He.ga K "other_end"
def d_other_end : He5.DefA := ⟨fun K => a_other_end K, "other_end", "other_end", defArgs s_other_end, defBody s_other_end, defScope s_other_end, [], []⟩
abbrev s_want_count : Stmt := top 33
abbrev n_want_count : List Str := ["value"]
theorem sc_want_count : FnScope n_want_count ["value"] (defScope s_want_count) := ⟨rfl, rfl, rfl, by decide +kernel, rfl, by decide +kernel, by decide +kernel⟩
abbrev a_want_count (K : PySem.W.Frag) : Addr := He.ga K "want_count"
def d_want_count : He5.DefA := ⟨fun K => a_want_count K, "want_count", "want_count", defArgs s_want_count, defBody s_want_count, defScope s_want_count, [], []⟩
abbrev s_Many_init : Stmt := inClass (top 46) 2
abbrev n_Many_init : List Str := ["self", "least", "most"]
theorem sc_Many_init : FnScope n_Many_init ["self", "least", "most"] (defScope s_Many_init) := ⟨rfl, rfl, rfl, by decide +kernel, rfl, by decide +kernel, by decide +kernel⟩
abbrev a_Many_init (K : PySem.W.Frag) : Addr := He.ma K (He.ga K "Many") "__init__"
def d_Many_init : He5.DefA := ⟨fun K => a_Many_init K, "__init__", "Many.__init__", defArgs s_Many_init, defBody s_Many_init, defScope s_Many_init, [.non], []⟩
abbrev s_Many_least : Stmt := inClass (top 46) 3
abbrev n_Many_least : List Str := ["self"]
theorem sc_Many_least : FnScope n_Many_least ["self"] (defScope s_Many_least) := ⟨rfl, rfl, rfl, by decide +kernel, rfl, by decide +kernel, by decide +kernel⟩
abbrev a_Many_least (K : PySem.W.Frag) : Addr := pg K "Many" "least"
def d_Many_least : He5.DefA := ⟨fun K => a_Many_least K, "least", "Many.least", defArgs s_Many_least, defBody s_Many_least, defScope s_Many_least, [], []⟩
abbrev s_Many_most : Stmt := inClass (top 46) 4
abbrev n_Many_most : List Str := ["self"]
theorem sc_Many_most : FnScope n_Many_most ["self"] (defScope s_Many_most) := ⟨rfl, rfl, rfl, by decide +kernel, rfl, by decide +kernel, by decide +kernel⟩
abbrev a_Many_most (K : PySem.W.Frag) : Addr := pg K "Many" "most"
def d_Many_most : He5.DefA := ⟨fun K => a_Many_most K, "most", "Many.most", defArgs s_Many_most, defBody s_Many_most, defScope s_Many_most, [], []⟩
abbrev s_is_end_many : Stmt := top 49
abbrev n_is_end_many : List Str := ["value"]
theorem sc_is_end_many : FnScope n_is_end_many ["value"] (defScope s_is_end_many) := ⟨rfl, rfl, rfl, by decide +kernel, rfl, by decide +kernel, by decide +kernel⟩
abbrev a_is_end_many (K : PySem.W.Frag) : Addr := He.ga K "is_end_many"
def d_is_end_many : He5.DefA := ⟨fun K => a_is_end_many K, "is_end_many", "is_end_many", defArgs s_is_end_many, defBody s_is_end_many, defScope s_is_end_many, [], []⟩
abbrev s_are_ends : Stmt := top 50
abbrev n_are_ends : List Str := ["value"]
theorem sc_are_ends : FnScope n_are_ends ["value"] (defScope s_are_ends) := ⟨rfl, rfl, rfl, by decide +kernel, rfl, by decide +kernel, by decide +kernel⟩
abbrev a_are_ends (K : PySem.W.Frag) : Addr := He.ga K "are_ends"
def d_are_ends : He5.DefA := ⟨fun K => a_are_ends K, "are_ends", "are_ends", defArgs s_are_ends, defBody s_are_ends, defScope s_are_ends, [], []⟩
abbrev s_want_kinds : Stmt := top 51
abbrev n_want_kinds : List Str := ["value", "position", "one"]
theorem sc_want_kinds : FnScope n_want_kinds ["value"] (defScope s_want_kinds) := ⟨rfl, rfl, rfl, by decide +kernel, rfl, by decide +kernel, by decide +kernel⟩
abbrev a_want_kinds (K : PySem.W.Frag) : Addr := He.ga K "want_kinds"
def d_want_kinds : He5.DefA := ⟨fun K => a_want_kinds K, "want_kinds", "want_kinds", defArgs s_want_kinds, defBody s_want_kinds, defScope s_want_kinds, [], []⟩
abbrev s_want_links : Stmt := top 52
abbrev n_want_links : List Str := ["value", "kinds", "link", "ends"]
theorem sc_want_links : FnScope n_want_links ["value", "kinds"] (defScope s_want_links) := ⟨rfl, rfl, rfl, by decide +kernel, rfl, by decide +kernel, by decide +kernel⟩
abbrev a_want_links (K : PySem.W.Frag) : Addr := He.ga K "want_links"
def d_want_links : He5.DefA := ⟨fun K => a_want_links K, "want_links", "want_links", defArgs s_want_links, defBody s_want_links, defScope s_want_links, [], []⟩
abbrev s_want_few : Stmt := top 53
abbrev n_want_few : List Str := ["kind_count", "link_count"]
theorem sc_want_few : FnScope n_want_few ["kind_count", "link_count"] (defScope s_want_few) := ⟨rfl, rfl, rfl, by decide +kernel, rfl, by decide +kernel, by decide +kernel⟩
abbrev a_want_few (K : PySem.W.Frag) : Addr := He.ga K "want_few"
def d_want_few : He5.DefA := ⟨fun K => a_want_few K, "want_few", "want_few", defArgs s_want_few, defBody s_want_few, defScope s_want_few, [], []⟩
abbrev s_want_model : Stmt := top 54
abbrev n_want_model : List Str := ["value"]
theorem sc_want_model : FnScope n_want_model ["value"] (defScope s_want_model) := ⟨rfl, rfl, rfl, by decide +kernel, rfl, by decide +kernel, by decide +kernel⟩
abbrev a_want_model (K : PySem.W.Frag) : Addr := He.ga K "want_model"
def d_want_model : He5.DefA := ⟨fun K => a_want_model K, "want_model", "want_model", defArgs s_want_model, defBody s_want_model, defScope s_want_model, [], []⟩
abbrev s_want_kind : Stmt := top 55
abbrev n_want_kind : List Str := ["model", "value"]
theorem sc_want_kind : FnScope n_want_kind ["model", "value"] (defScope s_want_kind) := ⟨rfl, rfl, rfl, by decide +kernel, rfl, by decide +kernel, by decide +kernel⟩
abbrev a_want_kind (K : PySem.W.Frag) : Addr := He.ga K "want_kind"
def d_want_kind : He5.DefA := ⟨fun K => a_want_kind K, "want_kind", "want_kind", defArgs s_want_kind, defBody s_want_kind, defScope s_want_kind, [], []⟩
abbrev s_want_link : Stmt := top 56
abbrev n_want_link : List Str := ["model", "value"]
theorem sc_want_link : FnScope n_want_link ["model", "value"] (defScope s_want_link) := ⟨rfl, rfl, rfl, by decide +kernel, rfl, by decide +kernel, by decide +kernel⟩
abbrev a_want_link (K : PySem.W.Frag) : Addr := He.ga K "want_link"
def d_want_link : He5.DefA := ⟨fun K => a_want_link K, "want_link", "want_link", defArgs s_want_link, defBody s_want_link, defScope s_want_link, [], []⟩
abbrev s_want_end : Stmt := top 57
abbrev n_want_end : List Str := ["value"]
theorem sc_want_end : FnScope n_want_end ["value"] (defScope s_want_end) := ⟨rfl, rfl, rfl, by decide +kernel, rfl, by decide +kernel, by decide +kernel⟩
abbrev a_want_end (K : PySem.W.Frag) : Addr := He.ga K "want_end"
def d_want_end : He5.DefA := ⟨fun K => a_want_end K, "want_end", "want_end", defArgs s_want_end, defBody s_want_end, defScope s_want_end, [], []⟩
abbrev s_Model_init : Stmt := inClass (top 58) 2
abbrev n_Model_init : List Str := ["self", "kinds", "links", "found", "link"]
theorem sc_Model_init : FnScope n_Model_init ["self", "kinds", "links"] (defScope s_Model_init) := ⟨rfl, rfl, rfl, by decide +kernel, rfl, by decide +kernel, by decide +kernel⟩
abbrev a_Model_init (K : PySem.W.Frag) : Addr := He.ma K (He.ga K "Model") "__init__"
def d_Model_init : He5.DefA := ⟨fun K => a_Model_init K, "__init__", "Model.__init__", defArgs s_Model_init, defBody s_Model_init, defScope s_Model_init, [.non], []⟩
abbrev s_Model_kinds : Stmt := inClass (top 58) 3
abbrev n_Model_kinds : List Str := ["self"]
theorem sc_Model_kinds : FnScope n_Model_kinds ["self"] (defScope s_Model_kinds) := ⟨rfl, rfl, rfl, by decide +kernel, rfl, by decide +kernel, by decide +kernel⟩
abbrev a_Model_kinds (K : PySem.W.Frag) : Addr := He.ma K (He.ga K "Model") "kinds"
def d_Model_kinds : He5.DefA := ⟨fun K => a_Model_kinds K, "kinds", "Model.kinds", defArgs s_Model_kinds, defBody s_Model_kinds, defScope s_Model_kinds, [], []⟩
abbrev s_Model_links : Stmt := inClass (top 58) 4
abbrev n_Model_links : List Str := ["self", "link"]
theorem sc_Model_links : FnScope n_Model_links ["self"] (defScope s_Model_links) := ⟨rfl, rfl, rfl, by decide +kernel, rfl, by decide +kernel, by decide +kernel⟩
abbrev a_Model_links (K : PySem.W.Frag) : Addr := He.ma K (He.ga K "Model") "links"
def d_Model_links : He5.DefA := ⟨fun K => a_Model_links K, "links", "Model.links", defArgs s_Model_links, defBody s_Model_links, defScope s_Model_links, [], []⟩
abbrev s_Model_kind_at : Stmt := inClass (top 58) 5
abbrev n_Model_kind_at : List Str := ["self", "link", "end"]
theorem sc_Model_kind_at : FnScope n_Model_kind_at ["self", "link", "end"] (defScope s_Model_kind_at) := ⟨rfl, rfl, rfl, by decide +kernel, rfl, by decide +kernel, by decide +kernel⟩
abbrev a_Model_kind_at (K : PySem.W.Frag) : Addr := He.ma K (He.ga K "Model") "kind_at"
def d_Model_kind_at : He5.DefA := ⟨fun K => a_Model_kind_at K, "kind_at", "Model.kind_at", defArgs s_Model_kind_at, defBody s_Model_kind_at, defScope s_Model_kind_at, [], []⟩
abbrev s_Model_many_at : Stmt := inClass (top 58) 6
abbrev n_Model_many_at : List Str := ["self", "link", "end"]
theorem sc_Model_many_at : FnScope n_Model_many_at ["self", "link", "end"] (defScope s_Model_many_at) := ⟨rfl, rfl, rfl, by decide +kernel, rfl, by decide +kernel, by decide +kernel⟩
abbrev a_Model_many_at (K : PySem.W.Frag) : Addr := He.ma K (He.ga K "Model") "many_at"
def d_Model_many_at : He5.DefA := ⟨fun K => a_Model_many_at K, "many_at", "Model.many_at", defArgs s_Model_many_at, defBody s_Model_many_at, defScope s_Model_many_at, [], []⟩
abbrev s_Model_contains : Stmt := inClass (top 58) 12
abbrev n_Model_contains : List Str := ["self", "value"]
theorem sc_Model_contains : FnScope n_Model_contains ["self", "value"] (defScope s_Model_contains) := ⟨rfl, rfl, rfl, by decide +kernel, rfl, by decide +kernel, by decide +kernel⟩
abbrev a_Model_contains (K : PySem.W.Frag) : Addr := He.ma K (He.ga K "Model") "__contains__"
def d_Model_contains : He5.DefA := ⟨fun K => a_Model_contains K, "__contains__", "Model.__contains__", defArgs s_Model_contains, defBody s_Model_contains, defScope s_Model_contains, [], []⟩
abbrev s_are_counts : Stmt := top 60
abbrev n_are_counts : List Str := ["value", "kind"]
theorem sc_are_counts : FnScope n_are_counts ["value"] (defScope s_are_counts) := ⟨rfl, rfl, rfl, by decide +kernel, rfl, by decide +kernel, by decide +kernel⟩
abbrev a_are_counts (K : PySem.W.Frag) : Addr := He.ga K "are_counts"
def d_are_counts : He5.DefA := ⟨fun K => a_are_counts K, "are_counts", "are_counts", defArgs s_are_counts, defBody s_are_counts, defScope s_are_counts, [], []⟩
abbrev s_Sizes_init : Stmt := inClass (top 62) 0
abbrev n_Sizes_init : List Str := ["self", "counts", "kind"]
theorem sc_Sizes_init : FnScope n_Sizes_init ["self", "counts"] (defScope s_Sizes_init) := ⟨rfl, rfl, rfl, by decide +kernel, rfl, by decide +kernel, by decide +kernel⟩
abbrev a_Sizes_init (K : PySem.W.Frag) : Addr := He.ma K (He.ga K "Sizes") "__init__"
def d_Sizes_init : He5.DefA := ⟨fun K => a_Sizes_init K, "__init__", "Sizes.__init__", defArgs s_Sizes_init, defBody s_Sizes_init, defScope s_Sizes_init, [], []⟩
abbrev s_Sizes_counts : Stmt := inClass (top 62) 3
abbrev n_Sizes_counts : List Str := ["self"]
theorem sc_Sizes_counts : FnScope n_Sizes_counts ["self"] (defScope s_Sizes_counts) := ⟨rfl, rfl, rfl, by decide +kernel, rfl, by decide +kernel, by decide +kernel⟩
abbrev a_Sizes_counts (K : PySem.W.Frag) : Addr := He.ma K (He.ga K "Sizes") "counts"
def d_Sizes_counts : He5.DefA := ⟨fun K => a_Sizes_counts K, "counts", "Sizes.counts", defArgs s_Sizes_counts, defBody s_Sizes_counts, defScope s_Sizes_counts, [], []⟩
abbrev s_Sizes_getitem : Stmt := inClass (top 62) 6
abbrev n_Sizes_getitem : List Str := ["self", "kind"]
theorem sc_Sizes_getitem : FnScope n_Sizes_getitem ["self", "kind"] (defScope s_Sizes_getitem) := ⟨rfl, rfl, rfl, by decide +kernel, rfl, by decide +kernel, by decide +kernel⟩
abbrev a_Sizes_getitem (K : PySem.W.Frag) : Addr := He.ma K (He.ga K "Sizes") "__getitem__"
def d_Sizes_getitem : He5.DefA := ⟨fun K => a_Sizes_getitem K, "__getitem__", "Sizes.__getitem__", defArgs s_Sizes_getitem, defBody s_Sizes_getitem, defScope s_Sizes_getitem, [], []⟩
abbrev s_Sizes_contains : Stmt := inClass (top 62) 8
abbrev n_Sizes_contains : List Str := ["self", "value"]
theorem sc_Sizes_contains : FnScope n_Sizes_contains ["self", "value"] (defScope s_Sizes_contains) := ⟨rfl, rfl, rfl, by decide +kernel, rfl, by decide +kernel, by decide +kernel⟩
abbrev a_Sizes_contains (K : PySem.W.Frag) : Addr := He.ma K (He.ga K "Sizes") "__contains__"
def d_Sizes_contains : He5.DefA := ⟨fun K => a_Sizes_contains K, "__contains__", "Sizes.__contains__", defArgs s_Sizes_contains, defBody s_Sizes_contains, defScope s_Sizes_contains, [], []⟩
abbrev s_checked_counts : Stmt := top 63
abbrev n_checked_counts : List Str := ["model", "value", "counts", "kind"]
theorem sc_checked_counts : FnScope n_checked_counts ["model", "value"] (defScope s_checked_counts) := ⟨rfl, rfl, rfl, by decide +kernel, rfl, by decide +kernel, by decide +kernel⟩
abbrev a_checked_counts (K : PySem.W.Frag) : Addr := He.ga K "checked_counts"
def d_checked_counts : He5.DefA := ⟨fun K => a_checked_counts K, "checked_counts", "checked_counts", defArgs s_checked_counts, defBody s_checked_counts, defScope s_checked_counts, [], []⟩
abbrev s_sizes_for : Stmt := top 64
abbrev n_sizes_for : List Str := ["model", "value"]
theorem sc_sizes_for : FnScope n_sizes_for ["model", "value"] (defScope s_sizes_for) := ⟨rfl, rfl, rfl, by decide +kernel, rfl, by decide +kernel, by decide +kernel⟩
abbrev a_sizes_for (K : PySem.W.Frag) : Addr := He.ga K "sizes_for"
def d_sizes_for : He5.DefA := ⟨fun K => a_sizes_for K, "sizes_for", "sizes_for", defArgs s_sizes_for, defBody s_sizes_for, defScope s_sizes_for, [], []⟩
abbrev s_Stream_init : Stmt := inClass (top 68) 0
abbrev n_Stream_init : List Str := ["self", "needs", "rooms", "caps", "need", "room"]
theorem sc_Stream_init : FnScope n_Stream_init ["self", "needs", "rooms", "caps"] (defScope s_Stream_init) := ⟨rfl, rfl, rfl, by decide +kernel, rfl, by decide +kernel, by decide +kernel⟩
abbrev a_Stream_init (K : PySem.W.Frag) : Addr := He.ma K (He.ga K "Stream") "__init__"
def d_Stream_init : He5.DefA := ⟨fun K => a_Stream_init K, "__init__", "Stream.__init__", defArgs s_Stream_init, defBody s_Stream_init, defScope s_Stream_init, [], []⟩
abbrev s_Stream_row_left : Stmt := inClass (top 68) 1
abbrev n_Stream_row_left : List Str := ["self", "row"]
theorem sc_Stream_row_left : FnScope n_Stream_row_left ["self", "row"] (defScope s_Stream_row_left) := ⟨rfl, rfl, rfl, by decide +kernel, rfl, by decide +kernel, by decide +kernel⟩
abbrev a_Stream_row_left (K : PySem.W.Frag) : Addr := He.ma K (He.ga K "Stream") "row_left"
def d_Stream_row_left : He5.DefA := ⟨fun K => a_Stream_row_left K, "row_left", "Stream.row_left", defArgs s_Stream_row_left, defBody s_Stream_row_left, defScope s_Stream_row_left, [], []⟩
abbrev s_Stream_column_left : Stmt := inClass (top 68) 2
abbrev n_Stream_column_left : List Str := ["self", "column", "amounts"]
theorem sc_Stream_column_left : FnScope n_Stream_column_left ["self", "column"] (defScope s_Stream_column_left) := ⟨rfl, rfl, rfl, by decide +kernel, rfl, by decide +kernel, by decide +kernel⟩
abbrev a_Stream_column_left (K : PySem.W.Frag) : Addr := He.ma K (He.ga K "Stream") "column_left"
def d_Stream_column_left : He5.DefA := ⟨fun K => a_Stream_column_left K, "column_left", "Stream.column_left", defArgs s_Stream_column_left, defBody s_Stream_column_left, defScope s_Stream_column_left, [], []⟩
abbrev s_Stream_next_nodes : Stmt := inClass (top 68) 3
abbrev n_Stream_next_nodes : List Str := ["self", "side", "place", "caps", "at", "amounts", "amount"]
theorem sc_Stream_next_nodes : FnScope n_Stream_next_nodes ["self", "side", "place"] (defScope s_Stream_next_nodes) := ⟨rfl, rfl, rfl, by decide +kernel, rfl, by decide +kernel, by decide +kernel⟩
abbrev a_Stream_next_nodes (K : PySem.W.Frag) : Addr := He.ma K (He.ga K "Stream") "next_nodes"
def d_Stream_next_nodes : He5.DefA := ⟨fun K => a_Stream_next_nodes K, "next_nodes", "Stream.next_nodes", defArgs s_Stream_next_nodes, defBody s_Stream_next_nodes, defScope s_Stream_next_nodes, [], []⟩
abbrev s_Stream_searched : Stmt := inClass (top 68) 4
abbrev n_Stream_searched : List Str := ["self", "waiting", "came", "at", "node", "side", "place", "row"]
theorem sc_Stream_searched : FnScope n_Stream_searched ["self"] (defScope s_Stream_searched) := ⟨rfl, rfl, rfl, by decide +kernel, rfl, by decide +kernel, by decide +kernel⟩
abbrev a_Stream_searched (K : PySem.W.Frag) : Addr := He.ma K (He.ga K "Stream") "searched"
def d_Stream_searched : He5.DefA := ⟨fun K => a_Stream_searched K, "searched", "Stream.searched", defArgs s_Stream_searched, defBody s_Stream_searched, defScope s_Stream_searched, [], []⟩
abbrev s_Stream_push : Stmt := inClass (top 68) 5
abbrev n_Stream_push : List Str := ["self", "came", "column", "most", "node", "forth", "back", "before", "row", "place"]
theorem sc_Stream_push : FnScope n_Stream_push ["self", "came", "column"] (defScope s_Stream_push) := ⟨rfl, rfl, rfl, by decide +kernel, rfl, by decide +kernel, by decide +kernel⟩
abbrev a_Stream_push (K : PySem.W.Frag) : Addr := He.ma K (He.ga K "Stream") "push"
def d_Stream_push : He5.DefA := ⟨fun K => a_Stream_push K, "push", "Stream.push", defArgs s_Stream_push, defBody s_Stream_push, defScope s_Stream_push, [], []⟩
abbrev s_Stream_fill : Stmt := inClass (top 68) 6
abbrev n_Stream_fill : List Str := ["self", "came", "column", "side", "place"]
theorem sc_Stream_fill : FnScope n_Stream_fill ["self"] (defScope s_Stream_fill) := ⟨rfl, rfl, rfl, by decide +kernel, rfl, by decide +kernel, by decide +kernel⟩
abbrev a_Stream_fill (K : PySem.W.Frag) : Addr := He.ma K (He.ga K "Stream") "fill"
def d_Stream_fill : He5.DefA := ⟨fun K => a_Stream_fill K, "fill", "Stream.fill", defArgs s_Stream_fill, defBody s_Stream_fill, defScope s_Stream_fill, [], []⟩
abbrev s_Demand_init : Stmt := inClass (top 69) 0
abbrev n_Demand_init : List Str := ["self", "told", "link", "end", "pairs", "model", "other", "pair", "first", "second"]
theorem sc_Demand_init : FnScope n_Demand_init ["self", "told", "link", "end"] (defScope s_Demand_init) := ⟨rfl, rfl, rfl, by decide +kernel, rfl, by decide +kernel, by decide +kernel⟩
abbrev a_Demand_init (K : PySem.W.Frag) : Addr := He.ma K (He.ga K "Demand") "__init__"
def d_Demand_init : He5.DefA := ⟨fun K => a_Demand_init K, "__init__", "Demand.__init__", defArgs s_Demand_init, defBody s_Demand_init, defScope s_Demand_init, [], []⟩
abbrev s_Demand_need : Stmt := inClass (top 69) 1
abbrev n_Demand_need : List Str := ["self", "name", "other"]
theorem sc_Demand_need : FnScope n_Demand_need ["self", "name"] (defScope s_Demand_need) := ⟨rfl, rfl, rfl, by decide +kernel, rfl, by decide +kernel, by decide +kernel⟩
abbrev a_Demand_need (K : PySem.W.Frag) : Addr := He.ma K (He.ga K "Demand") "need"
def d_Demand_need : He5.DefA := ⟨fun K => a_Demand_need K, "need", "Demand.need", defArgs s_Demand_need, defBody s_Demand_need, defScope s_Demand_need, [], []⟩
abbrev s_Demand_room_at : Stmt := inClass (top 69) 2
abbrev n_Demand_room_at : List Str := ["self", "other", "most", "name"]
theorem sc_Demand_room_at : FnScope n_Demand_room_at ["self", "other", "most"] (defScope s_Demand_room_at) := ⟨rfl, rfl, rfl, by decide +kernel, rfl, by decide +kernel, by decide +kernel⟩
abbrev a_Demand_room_at (K : PySem.W.Frag) : Addr := He.ma K (He.ga K "Demand") "room_at"
def d_Demand_room_at : He5.DefA := ⟨fun K => a_Demand_room_at K, "room_at", "Demand.room_at", defArgs s_Demand_room_at, defBody s_Demand_room_at, defScope s_Demand_room_at, [], []⟩
abbrev s_Demand_new_room : Stmt := inClass (top 69) 3
abbrev n_Demand_new_room : List Str := ["self", "most"]
theorem sc_Demand_new_room : FnScope n_Demand_new_room ["self", "most"] (defScope s_Demand_new_room) := ⟨rfl, rfl, rfl, by decide +kernel, rfl, by decide +kernel, by decide +kernel⟩
abbrev a_Demand_new_room (K : PySem.W.Frag) : Addr := He.ma K (He.ga K "Demand") "new_room"
def d_Demand_new_room : He5.DefA := ⟨fun K => a_Demand_new_room K, "new_room", "Demand.new_room", defArgs s_Demand_new_room, defBody s_Demand_new_room, defScope s_Demand_new_room, [], []⟩
abbrev s_Demand_stream : Stmt := inClass (top 69) 4
abbrev n_Demand_stream : List Str := ["self", "mine", "others", "most", "needs", "rooms", "caps", "name", "other"]
theorem sc_Demand_stream : FnScope n_Demand_stream ["self", "mine", "others"] (defScope s_Demand_stream) := ⟨rfl, rfl, rfl, by decide +kernel, rfl, by decide +kernel, by decide +kernel⟩
abbrev a_Demand_stream (K : PySem.W.Frag) : Addr := He.ma K (He.ga K "Demand") "stream"
def d_Demand_stream : He5.DefA := ⟨fun K => a_Demand_stream K, "stream", "Demand.stream", defArgs s_Demand_stream, defBody s_Demand_stream, defScope s_Demand_stream, [], []⟩
abbrev s_Demand_lack : Stmt := inClass (top 69) 5
abbrev n_Demand_lack : List Str := ["self", "names", "mine", "name"]
theorem sc_Demand_lack : FnScope n_Demand_lack ["self", "names", "mine"] (defScope s_Demand_lack) := ⟨rfl, rfl, rfl, by decide +kernel, rfl, by decide +kernel, by decide +kernel⟩
abbrev a_Demand_lack (K : PySem.W.Frag) : Addr := He.ma K (He.ga K "Demand") "lack"
def d_Demand_lack : He5.DefA := ⟨fun K => a_Demand_lack K, "lack", "Demand.lack", defArgs s_Demand_lack, defBody s_Demand_lack, defScope s_Demand_lack, [], []⟩
abbrev s_Demand_offer : Stmt := inClass (top 69) 6
abbrev n_Demand_offer : List Str := ["self", "names", "mine", "other", "most", "found", "free", "name"]
theorem sc_Demand_offer : FnScope n_Demand_offer ["self", "names", "mine"] (defScope s_Demand_offer) := ⟨rfl, rfl, rfl, by decide +kernel, rfl, by decide +kernel, by decide +kernel⟩
abbrev a_Demand_offer (K : PySem.W.Frag) : Addr := He.ma K (He.ga K "Demand") "offer"
def d_Demand_offer : He5.DefA := ⟨fun K => a_Demand_offer K, "offer", "Demand.offer", defArgs s_Demand_offer, defBody s_Demand_offer, defScope s_Demand_offer, [], []⟩
abbrev s_Demand_is_too_much : Stmt := inClass (top 69) 7
abbrev n_Demand_is_too_much : List Str := ["self", "names", "mine", "others", "offer"]
theorem sc_Demand_is_too_much : FnScope n_Demand_is_too_much ["self", "names", "mine", "others"] (defScope s_Demand_is_too_much) := ⟨rfl, rfl, rfl, by decide +kernel, rfl, by decide +kernel, by decide +kernel⟩
abbrev a_Demand_is_too_much (K : PySem.W.Frag) : Addr := He.ma K (He.ga K "Demand") "is_too_much"
def d_Demand_is_too_much : He5.DefA := ⟨fun K => a_Demand_is_too_much K, "is_too_much", "Demand.is_too_much", defArgs s_Demand_is_too_much, defBody s_Demand_is_too_much, defScope s_Demand_is_too_much, [], []⟩
abbrev s_Demand_cut : Stmt := inClass (top 69) 8
abbrev n_Demand_cut : List Str := ["self", "mine", "others", "reached", "names", "is_new", "found", "at", "name"]
theorem sc_Demand_cut : FnScope n_Demand_cut ["self", "mine", "others"] (defScope s_Demand_cut) := ⟨rfl, rfl, rfl, by decide +kernel, rfl, by decide +kernel, by decide +kernel⟩
abbrev a_Demand_cut (K : PySem.W.Frag) : Addr := He.ma K (He.ga K "Demand") "cut"
def d_Demand_cut : He5.DefA := ⟨fun K => a_Demand_cut K, "cut", "Demand.cut", defArgs s_Demand_cut, defBody s_Demand_cut, defScope s_Demand_cut, [], []⟩
abbrev s_is_row_of : Stmt := top 73
abbrev n_is_row_of : List Str := ["model", "value"]
theorem sc_is_row_of : FnScope n_is_row_of ["model", "value"] (defScope s_is_row_of) := ⟨rfl, rfl, rfl, by decide +kernel, rfl, by decide +kernel, by decide +kernel⟩
abbrev a_is_row_of (K : PySem.W.Frag) : Addr := He.ga K "is_row_of"
def d_is_row_of : He5.DefA := ⟨fun K => a_is_row_of K, "is_row_of", "is_row_of", defArgs s_is_row_of, defBody s_is_row_of, defScope s_is_row_of, [], []⟩
abbrev s_wrong_pair : Stmt := top 74
abbrev n_wrong_pair : List Str := ["pairs", "near", "far", "position", "pair"]
theorem sc_wrong_pair : FnScope n_wrong_pair ["pairs", "near", "far"] (defScope s_wrong_pair) := ⟨rfl, rfl, rfl, by decide +kernel, rfl, by decide +kernel, by decide +kernel⟩
abbrev a_wrong_pair (K : PySem.W.Frag) : Addr := He.ga K "wrong_pair"
def d_wrong_pair : He5.DefA := ⟨fun K => a_wrong_pair K, "wrong_pair", "wrong_pair", defArgs s_wrong_pair, defBody s_wrong_pair, defScope s_wrong_pair, [], []⟩
abbrev s_Told_init : Stmt := inClass (top 75) 0
abbrev n_Told_init : List Str := ["self", "model", "link", "kind"]
theorem sc_Told_init : FnScope n_Told_init ["self", "model"] (defScope s_Told_init) := ⟨rfl, rfl, rfl, by decide +kernel, rfl, by decide +kernel, by decide +kernel⟩
abbrev a_Told_init (K : PySem.W.Frag) : Addr := He.ma K (He.ga K "Told") "__init__"
def d_Told_init : He5.DefA := ⟨fun K => a_Told_init K, "__init__", "Told.__init__", defArgs s_Told_init, defBody s_Told_init, defScope s_Told_init, [], []⟩
abbrev s_Told_model : Stmt := inClass (top 75) 1
abbrev n_Told_model : List Str := ["self"]
theorem sc_Told_model : FnScope n_Told_model ["self"] (defScope s_Told_model) := ⟨rfl, rfl, rfl, by decide +kernel, rfl, by decide +kernel, by decide +kernel⟩
abbrev a_Told_model (K : PySem.W.Frag) : Addr := pg K "Told" "model"
def d_Told_model : He5.DefA := ⟨fun K => a_Told_model K, "model", "Told.model", defArgs s_Told_model, defBody s_Told_model, defScope s_Told_model, [], []⟩
abbrev s_Told_set_wished : Stmt := inClass (top 75) 4
abbrev n_Told_set_wished : List Str := ["self", "sizes"]
theorem sc_Told_set_wished : FnScope n_Told_set_wished ["self", "sizes"] (defScope s_Told_set_wished) := ⟨rfl, rfl, rfl, by decide +kernel, rfl, by decide +kernel, by decide +kernel⟩
abbrev a_Told_set_wished (K : PySem.W.Frag) : Addr := He.ma K (He.ga K "Told") "set_wished"
def d_Told_set_wished : He5.DefA := ⟨fun K => a_Told_set_wished K, "set_wished", "Told.set_wished", defArgs s_Told_set_wished, defBody s_Told_set_wished, defScope s_Told_set_wished, [], []⟩
abbrev s_Told_iadd : Stmt := inClass (top 75) 5
abbrev n_Told_iadd : List Str := ["self", "other"]
theorem sc_Told_iadd : FnScope n_Told_iadd ["self", "other"] (defScope s_Told_iadd) := ⟨rfl, rfl, rfl, by decide +kernel, rfl, by decide +kernel, by decide +kernel⟩
abbrev a_Told_iadd (K : PySem.W.Frag) : Addr := He.ma K (He.ga K "Told") "__iadd__"
def d_Told_iadd : He5.DefA := ⟨fun K => a_Told_iadd K, "__iadd__", "Told.__iadd__", defArgs s_Told_iadd, defBody s_Told_iadd, defScope s_Told_iadd, [], []⟩
abbrev s_Told_setitem : Stmt := inClass (top 75) 8
abbrev n_Told_setitem : List Str := ["self", "at", "worth", "near", "position", "link", "pairs"]
theorem sc_Told_setitem : FnScope n_Told_setitem ["self", "at", "worth"] (defScope s_Told_setitem) := ⟨rfl, rfl, rfl, by decide +kernel, rfl, by decide +kernel, by decide +kernel⟩
abbrev a_Told_setitem (K : PySem.W.Frag) : Addr := He.ma K (He.ga K "Told") "__setitem__"
def d_Told_setitem : He5.DefA := ⟨fun K => a_Told_setitem K, "__setitem__", "Told.__setitem__", defArgs s_Told_setitem, defBody s_Told_setitem, defScope s_Told_setitem, [], []⟩
abbrev s_Told_getitem : Stmt := inClass (top 75) 9
abbrev n_Told_getitem : List Str := ["self", "at", "pairs", "near", "far", "one", "other", "pair"]
theorem sc_Told_getitem : FnScope n_Told_getitem ["self", "at"] (defScope s_Told_getitem) := ⟨rfl, rfl, rfl, by decide +kernel, rfl, by decide +kernel, by decide +kernel⟩
abbrev a_Told_getitem (K : PySem.W.Frag) : Addr := He.ma K (He.ga K "Told") "__getitem__"
def d_Told_getitem : He5.DefA := ⟨fun K => a_Told_getitem K, "__getitem__", "Told.__getitem__", defArgs s_Told_getitem, defBody s_Told_getitem, defScope s_Told_getitem, [], []⟩
abbrev s_Told_contains : Stmt := inClass (top 75) 11
abbrev n_Told_contains : List Str := ["self", "x"]
theorem sc_Told_contains : FnScope n_Told_contains ["self", "x"] (defScope s_Told_contains) := ⟨rfl, rfl, rfl, by decide +kernel, rfl, by decide +kernel, by decide +kernel⟩
abbrev a_Told_contains (K : PySem.W.Frag) : Addr := He.ma K (He.ga K "Told") "__contains__"
def d_Told_contains : He5.DefA := ⟨fun K => a_Told_contains K, "__contains__", "Told.__contains__", defArgs s_Told_contains, defBody s_Told_contains, defScope s_Told_contains, [], []⟩
abbrev s_Told_rows : Stmt := inClass (top 75) 13
abbrev n_Told_rows : List Str := ["self", "kind", "other", "name"]
theorem sc_Told_rows : FnScope n_Told_rows ["self", "kind"] (defScope s_Told_rows) := ⟨rfl, rfl, rfl, by decide +kernel, rfl, by decide +kernel, by decide +kernel⟩
abbrev a_Told_rows (K : PySem.W.Frag) : Addr := He.ma K (He.ga K "Told") "rows"
def d_Told_rows : He5.DefA := ⟨fun K => a_Told_rows K, "rows", "Told.rows", defArgs s_Told_rows, defBody s_Told_rows, defScope s_Told_rows, [], []⟩
abbrev s_Told_degree : Stmt := inClass (top 75) 14
abbrev n_Told_degree : List Str := ["self", "link", "end", "name", "kind", "place", "pair"]
theorem sc_Told_degree : FnScope n_Told_degree ["self", "link", "end", "name"] (defScope s_Told_degree) := ⟨rfl, rfl, rfl, by decide +kernel, rfl, by decide +kernel, by decide +kernel⟩
abbrev a_Told_degree (K : PySem.W.Frag) : Addr := He.ma K (He.ga K "Told") "degree"
def d_Told_degree : He5.DefA := ⟨fun K => a_Told_degree K, "degree", "Told.degree", defArgs s_Told_degree, defBody s_Told_degree, defScope s_Told_degree, [], []⟩
abbrev s_want_told : Stmt := top 76
abbrev n_want_told : List Str := ["value"]
theorem sc_want_told : FnScope n_want_told ["value"] (defScope s_want_told) := ⟨rfl, rfl, rfl, by decide +kernel, rfl, by decide +kernel, by decide +kernel⟩
abbrev a_want_told (K : PySem.W.Frag) : Addr := He.ga K "want_told"
def d_want_told : He5.DefA := ⟨fun K => a_want_told K, "want_told", "want_told", defArgs s_want_told, defBody s_want_told, defScope s_want_told, [], []⟩
abbrev s_past_row : Stmt := top 79
abbrev n_past_row : List Str := ["told", "link", "end", "top", "name"]
theorem sc_past_row : FnScope n_past_row ["told"] (defScope s_past_row) := ⟨rfl, rfl, rfl, by decide +kernel, rfl, by decide +kernel, by decide +kernel⟩
abbrev a_past_row (K : PySem.W.Frag) : Addr := He.ga K "past_row"
def d_past_row : He5.DefA := ⟨fun K => a_past_row K, "past_row", "past_row", defArgs s_past_row, defBody s_past_row, defScope s_past_row, [], []⟩
abbrev s_new_counts : Stmt := top 80
abbrev n_new_counts : List Str := ["told", "sizes", "kind"]
theorem sc_new_counts : FnScope n_new_counts ["told", "sizes"] (defScope s_new_counts) := ⟨rfl, rfl, rfl, by decide +kernel, rfl, by decide +kernel, by decide +kernel⟩
abbrev a_new_counts (K : PySem.W.Frag) : Addr := He.ga K "new_counts"
def d_new_counts : He5.DefA := ⟨fun K => a_new_counts K, "new_counts", "new_counts", defArgs s_new_counts, defBody s_new_counts, defScope s_new_counts, [], []⟩
abbrev s_found_cut : Stmt := top 81
abbrev n_found_cut : List Str := ["told", "news", "link", "end", "mine", "kind"]
theorem sc_found_cut : FnScope n_found_cut ["told", "news", "link", "end"] (defScope s_found_cut) := ⟨rfl, rfl, rfl, by decide +kernel, rfl, by decide +kernel, by decide +kernel⟩
abbrev a_found_cut (K : PySem.W.Frag) : Addr := He.ga K "found_cut"
def d_found_cut : He5.DefA := ⟨fun K => a_found_cut K, "found_cut", "found_cut", defArgs s_found_cut, defBody s_found_cut, defScope s_found_cut, [], []⟩
abbrev s_fits_sizes : Stmt := top 82
abbrev n_fits_sizes : List Str := ["told", "sizes", "news", "link", "end", "kind"]
theorem sc_fits_sizes : FnScope n_fits_sizes ["told", "sizes"] (defScope s_fits_sizes) := ⟨rfl, rfl, rfl, by decide +kernel, rfl, by decide +kernel, by decide +kernel⟩
abbrev a_fits_sizes (K : PySem.W.Frag) : Addr := He.ga K "fits_sizes"
def d_fits_sizes : He5.DefA := ⟨fun K => a_fits_sizes K, "fits_sizes", "fits_sizes", defArgs s_fits_sizes, defBody s_fits_sizes, defScope s_fits_sizes, [], []⟩
abbrev s_checked_news : Stmt := top 83
abbrev n_checked_news : List Str := ["told", "sizes", "link", "end", "news", "kind"]
theorem sc_checked_news : FnScope n_checked_news ["told", "sizes", "link", "end"] (defScope s_checked_news) := ⟨rfl, rfl, rfl, by decide +kernel, rfl, by decide +kernel, by decide +kernel⟩
abbrev a_checked_news (K : PySem.W.Frag) : Addr := He.ga K "checked_news"
def d_checked_news : He5.DefA := ⟨fun K => a_checked_news K, "checked_news", "checked_news", defArgs s_checked_news, defBody s_checked_news, defScope s_checked_news, [], []⟩
abbrev s_cut_of : Stmt := top 84
abbrev n_cut_of : List Str := ["told", "sizes", "link", "end"]
theorem sc_cut_of : FnScope n_cut_of ["told", "sizes", "link", "end"] (defScope s_cut_of) := ⟨rfl, rfl, rfl, by decide +kernel, rfl, by decide +kernel, by decide +kernel⟩
abbrev a_cut_of (K : PySem.W.Frag) : Addr := He.ga K "cut_of"
def d_cut_of : He5.DefA := ⟨fun K => a_cut_of K, "cut_of", "cut_of", defArgs s_cut_of, defBody s_cut_of, defScope s_cut_of, [], []⟩
abbrev s_is_cut : Stmt := top 85
abbrev n_is_cut : List Str := ["told", "sizes", "link", "end", "value", "news", "names", "is_new", "mine", "kind", "name"]
theorem sc_is_cut : FnScope n_is_cut ["told", "sizes", "link", "end", "value"] (defScope s_is_cut) := ⟨rfl, rfl, rfl, by decide +kernel, rfl, by decide +kernel, by decide +kernel⟩
abbrev a_is_cut (K : PySem.W.Frag) : Addr := He.ga K "is_cut"
def d_is_cut : He5.DefA := ⟨fun K => a_is_cut K, "is_cut", "is_cut", defArgs s_is_cut, defBody s_is_cut, defScope s_is_cut, [], []⟩
abbrev s_l_rng : Stmt := top 87
abbrev n_l_rng : List Str := ["_law_script", "_law_k", "_law_cell"]
theorem sc_l_rng : FnScope n_l_rng ["_law_script", "_law_k"] (defScope s_l_rng) := ⟨rfl, rfl, rfl, by decide +kernel, rfl, by decide +kernel, by decide +kernel⟩
abbrev a_l_rng (K : PySem.W.Frag) : Addr := He.ga K "_law_rng"
def d_l_rng : He5.DefA := ⟨fun K => a_l_rng K, "_law_rng", "_law_rng", defArgs s_l_rng, defBody s_l_rng, defScope s_l_rng, [], []⟩
abbrev s_l_draw : Stmt := top 88
abbrev n_l_draw : List Str := ["_law_rng_here", "_law_size", "_law_digit"]
theorem sc_l_draw : FnScope n_l_draw ["_law_rng_here", "_law_size"] (defScope s_l_draw) := ⟨rfl, rfl, rfl, by decide +kernel, rfl, by decide +kernel, by decide +kernel⟩
abbrev a_l_draw (K : PySem.W.Frag) : Addr := He.ga K "_law_draw"
def d_l_draw : He5.DefA := ⟨fun K => a_l_draw K, "_law_draw", "_law_draw", defArgs s_l_draw, defBody s_l_draw, defScope s_l_draw, [], []⟩
abbrev s_l_choice : Stmt := top 89
abbrev n_l_choice : List Str := ["_law_rng_here", "_law_some"]
theorem sc_l_choice : FnScope n_l_choice ["_law_rng_here", "_law_some"] (defScope s_l_choice) := ⟨rfl, rfl, rfl, by decide +kernel, rfl, by decide +kernel, by decide +kernel⟩
abbrev a_l_choice (K : PySem.W.Frag) : Addr := He.ga K "_law_choice"
def d_l_choice : He5.DefA := ⟨fun K => a_l_choice K, "_law_choice", "_law_choice", defArgs s_l_choice, defBody s_l_choice, defScope s_l_choice, [], []⟩
abbrev s_l_names : Stmt := top 90
abbrev n_l_names : List Str := ["_law_rng_here", "_law_size", "_law_k", "_law_letters", "_law_found", "_law_word", "_law_fresh", "_law_turn", "_law_sign", "_law_name"]
theorem sc_l_names : FnScope n_l_names ["_law_rng_here", "_law_size"] (defScope s_l_names) := ⟨rfl, rfl, rfl, by decide +kernel, rfl, by decide +kernel, by decide +kernel⟩
abbrev a_l_names (K : PySem.W.Frag) : Addr := He.ga K "_law_names"
def d_l_names : He5.DefA := ⟨fun K => a_l_names K, "_law_names", "_law_names", defArgs s_l_names, defBody s_l_names, defScope s_l_names, [], []⟩
abbrev s_l_pair : Stmt := top 91
abbrev n_l_pair : List Str := ["_law_rng_here", "_law_low", "_law_way"]
theorem sc_l_pair : FnScope n_l_pair ["_law_rng_here"] (defScope s_l_pair) := ⟨rfl, rfl, rfl, by decide +kernel, rfl, by decide +kernel, by decide +kernel⟩
abbrev a_l_pair (K : PySem.W.Frag) : Addr := He.ga K "_law_pair"
def d_l_pair : He5.DefA := ⟨fun K => a_l_pair K, "_law_pair", "_law_pair", defArgs s_l_pair, defBody s_l_pair, defScope s_l_pair, [], []⟩
abbrev s_l_many : Stmt := top 92
abbrev n_l_many : List Str := ["_law_pair_here"]
theorem sc_l_many : FnScope n_l_many ["_law_pair_here"] (defScope s_l_many) := ⟨rfl, rfl, rfl, by decide +kernel, rfl, by decide +kernel, by decide +kernel⟩
abbrev a_l_many (K : PySem.W.Frag) : Addr := He.ga K "_law_many"
def d_l_many : He5.DefA := ⟨fun K => a_l_many K, "_law_many", "_law_many", defArgs s_l_many, defBody s_l_many, defScope s_l_many, [], []⟩
abbrev s_l_frame : Stmt := top 93
abbrev n_l_frame : List Str := ["_law_rng_here", "_law_size", "_law_name", "_law_names_here", "_law_rows"]
theorem sc_l_frame : FnScope n_l_frame ["_law_rng_here", "_law_size"] (defScope s_l_frame) := ⟨rfl, rfl, rfl, by decide +kernel, rfl, by decide +kernel, by decide +kernel⟩
abbrev a_l_frame (K : PySem.W.Frag) : Addr := He.ga K "_law_frame"
def d_l_frame : He5.DefA := ⟨fun K => a_l_frame K, "_law_frame", "_law_frame", defArgs s_l_frame, defBody s_l_frame, defScope s_l_frame, [], []⟩
abbrev s_l_real : Stmt := top 94
abbrev n_l_real : List Str := ["_law_names_here", "_law_rows", "_law_links", "_law_row"]
theorem sc_l_real : FnScope n_l_real ["_law_names_here", "_law_rows"] (defScope s_l_real) := ⟨rfl, rfl, rfl, by decide +kernel, rfl, by decide +kernel, by decide +kernel⟩
abbrev a_l_real (K : PySem.W.Frag) : Addr := He.ga K "_law_real"
def d_l_real : He5.DefA := ⟨fun K => a_l_real K, "_law_real", "_law_real", defArgs s_l_real, defBody s_l_real, defScope s_l_real, [], []⟩
abbrev s_l_people : Stmt := top 95
abbrev n_l_people : List Str := ["_law_rng_here", "_law_names_here", "_law_size", "_law_found", "_law_name"]
theorem sc_l_people : FnScope n_l_people ["_law_rng_here", "_law_names_here", "_law_size"] (defScope s_l_people) := ⟨rfl, rfl, rfl, by decide +kernel, rfl, by decide +kernel, by decide +kernel⟩
abbrev a_l_people (K : PySem.W.Frag) : Addr := He.ga K "_law_people"
def d_l_people : He5.DefA := ⟨fun K => a_l_people K, "_law_people", "_law_people", defArgs s_l_people, defBody s_l_people, defScope s_l_people, [], []⟩
abbrev s_l_of : Stmt := top 96
abbrev n_l_of : List Str := ["_law_people_here", "_law_sort", "_law_one"]
theorem sc_l_of : FnScope n_l_of ["_law_people_here", "_law_sort"] (defScope s_l_of) := ⟨rfl, rfl, rfl, by decide +kernel, rfl, by decide +kernel, by decide +kernel⟩
abbrev a_l_of (K : PySem.W.Frag) : Addr := He.ga K "_law_of"
def d_l_of : He5.DefA := ⟨fun K => a_l_of K, "_law_of", "_law_of", defArgs s_l_of, defBody s_l_of, defScope s_l_of, [], []⟩
abbrev s_l_could : Stmt := top 97
abbrev n_l_could : List Str := ["_law_row", "_law_people_here", "_law_found", "_law_a", "_law_b"]
theorem sc_l_could : FnScope n_l_could ["_law_row", "_law_people_here"] (defScope s_l_could) := ⟨rfl, rfl, rfl, by decide +kernel, rfl, by decide +kernel, by decide +kernel⟩
abbrev a_l_could (K : PySem.W.Frag) : Addr := He.ga K "_law_could"
def d_l_could : He5.DefA := ⟨fun K => a_l_could K, "_law_could", "_law_could", defArgs s_l_could, defBody s_l_could, defScope s_l_could, [], []⟩
abbrev s_l_pairs : Stmt := top 98
abbrev n_l_pairs : List Str := ["_law_rng_here", "_law_rows", "_law_people_here", "_law_found", "_law_row", "_law_pair_here"]
theorem sc_l_pairs : FnScope n_l_pairs ["_law_rng_here", "_law_rows", "_law_people_here"] (defScope s_l_pairs) := ⟨rfl, rfl, rfl, by decide +kernel, rfl, by decide +kernel, by decide +kernel⟩
abbrev a_l_pairs (K : PySem.W.Frag) : Addr := He.ga K "_law_pairs"
def d_l_pairs : He5.DefA := ⟨fun K => a_l_pairs K, "_law_pairs", "_law_pairs", defArgs s_l_pairs, defBody s_l_pairs, defScope s_l_pairs, [], []⟩
abbrev s_l_said : Stmt := top 99
abbrev n_l_said : List Str := ["_law_made", "_law_people_here", "_law_pairs_here", "_law_held", "_law_person", "_law_tag"]
theorem sc_l_said : FnScope n_l_said ["_law_made", "_law_people_here", "_law_pairs_here"] (defScope s_l_said) := ⟨rfl, rfl, rfl, by decide +kernel, rfl, by decide +kernel, by decide +kernel⟩
abbrev a_l_said (K : PySem.W.Frag) : Addr := He.ga K "_law_said"
def d_l_said : He5.DefA := ⟨fun K => a_l_said K, "_law_said", "_law_said", defArgs s_l_said, defBody s_l_said, defScope s_l_said, [], []⟩
abbrev s_l_degree : Stmt := top 100
abbrev n_l_degree : List Str := ["_law_pairs_here", "_law_tag", "_law_side", "_law_name", "_law_pair_here"]
theorem sc_l_degree : FnScope n_l_degree ["_law_pairs_here", "_law_tag", "_law_side", "_law_name"] (defScope s_l_degree) := ⟨rfl, rfl, rfl, by decide +kernel, rfl, by decide +kernel, by decide +kernel⟩
abbrev a_l_degree (K : PySem.W.Frag) : Addr := He.ga K "_law_degree"
def d_l_degree : He5.DefA := ⟨fun K => a_l_degree K, "_law_degree", "_law_degree", defArgs s_l_degree, defBody s_l_degree, defScope s_l_degree, [], []⟩
abbrev s_l_at : Stmt := top 101
abbrev n_l_at : List Str := ["_law_rows", "_law_tag", "_law_side", "_law_row"]
theorem sc_l_at : FnScope n_l_at ["_law_rows", "_law_tag", "_law_side"] (defScope s_l_at) := ⟨rfl, rfl, rfl, by decide +kernel, rfl, by decide +kernel, by decide +kernel⟩
abbrev a_l_at (K : PySem.W.Frag) : Addr := He.ga K "_law_at"
def d_l_at : He5.DefA := ⟨fun K => a_l_at K, "_law_at", "_law_at", defArgs s_l_at, defBody s_l_at, defScope s_l_at, [], []⟩
abbrev s_l_sets : Stmt := top 102
abbrev n_l_sets : List Str := ["_law_some", "_law_found", "_law_name", "_law_one"]
theorem sc_l_sets : FnScope n_l_sets ["_law_some"] (defScope s_l_sets) := ⟨rfl, rfl, rfl, by decide +kernel, rfl, by decide +kernel, by decide +kernel⟩
abbrev a_l_sets (K : PySem.W.Frag) : Addr := He.ga K "_law_sets"
def d_l_sets : He5.DefA := ⟨fun K => a_l_sets K, "_law_sets", "_law_sets", defArgs s_l_sets, defBody s_l_sets, defScope s_l_sets, [], []⟩
abbrev s_l_lacks : Stmt := top 103
abbrev n_l_lacks : List Str := ["_law_scene", "_law_row", "_law_side", "_law_names_here", "_law_new", "_law_others", "_law_told", "_law_name", "_law_rows", "_law_people_here", "_law_pairs_here", "_law_pair_here", "_law_away", "_law_sort", "_law_beyond", "_law_lack", "_law_offer", "_law_k", "_law_free", "_law_one"]
theorem sc_l_lacks : FnScope n_l_lacks ["_law_scene", "_law_row", "_law_side", "_law_names_here", "_law_new", "_law_others"] (defScope s_l_lacks) := ⟨rfl, rfl, rfl, by decide +kernel, rfl, by decide +kernel, by decide +kernel⟩
abbrev a_l_lacks (K : PySem.W.Frag) : Addr := He.ga K "_law_lacks"
def d_l_lacks : He5.DefA := ⟨fun K => a_l_lacks K, "_law_lacks", "_law_lacks", defArgs s_l_lacks, defBody s_l_lacks, defScope s_l_lacks, [], []⟩
abbrev s_l_is_past : Stmt := top 104
abbrev n_l_is_past : List Str := ["_law_rows", "_law_people_here", "_law_pairs_here", "_law_row", "_law_side", "_law_name", "_law_sort", "_law_pair_here"]
theorem sc_l_is_past : FnScope n_l_is_past ["_law_rows", "_law_people_here", "_law_pairs_here"] (defScope s_l_is_past) := ⟨rfl, rfl, rfl, by decide +kernel, rfl, by decide +kernel, by decide +kernel⟩
abbrev a_l_is_past (K : PySem.W.Frag) : Addr := He.ga K "_law_is_past"
def d_l_is_past : He5.DefA := ⟨fun K => a_l_is_past K, "_law_is_past", "_law_is_past", defArgs s_l_is_past, defBody s_l_is_past, defScope s_l_is_past, [], []⟩
abbrev s_l_odd : Stmt := top 105
abbrev n_l_odd : List Str := ["_law_names_here", "_law_first", "_law_odd_here"]
theorem sc_l_odd : FnScope n_l_odd ["_law_names_here"] (defScope s_l_odd) := ⟨rfl, rfl, rfl, by decide +kernel, rfl, by decide +kernel, by decide +kernel⟩
abbrev a_l_odd (K : PySem.W.Frag) : Addr := He.ga K "_law_odd"
def d_l_odd : He5.DefA := ⟨fun K => a_l_odd K, "_law_odd", "_law_odd", defArgs s_l_odd, defBody s_l_odd, defScope s_l_odd, [], []⟩
abbrev s_l_end_has_cut : Stmt := top 106
abbrev n_l_end_has_cut : List Str := ["_law_held", "_law_scene", "_law_counts", "_law_row", "_law_side", "_law_people_here", "_law_away", "_law_found", "_law_names_here", "_law_told", "_law_other", "_law_sort", "_law_beyond", "_law_new", "_law_others", "_law_has_new", "_law_due", "_law_value"]
theorem sc_l_end_has_cut : FnScope n_l_end_has_cut ["_law_held", "_law_scene", "_law_counts", "_law_row", "_law_side"] (defScope s_l_end_has_cut) := ⟨rfl, rfl, rfl, by decide +kernel, rfl, by decide +kernel, by decide +kernel⟩
abbrev a_l_end_has_cut (K : PySem.W.Frag) : Addr := He.ga K "_law_end_has_cut"
def d_l_end_has_cut : He5.DefA := ⟨fun K => a_l_end_has_cut K, "_law_end_has_cut", "_law_end_has_cut", defArgs s_l_end_has_cut, defBody s_l_end_has_cut, defScope s_l_end_has_cut, [], []⟩
abbrev s_l_right : Stmt := top 107
abbrev n_l_right : List Str := ["_law_rng_here", "_law_people_here", "_law_pairs_here", "_law_turn", "_law_names_here", "_law_rows", "_law_held", "_law_scene", "_law_counts", "_law_name", "_law_has_cut", "_law_row", "_law_due", "_law_tag", "_law_side", "_law_told"]
theorem sc_l_right : FnScope n_l_right ["_law_rng_here"] (defScope s_l_right) := ⟨rfl, rfl, rfl, by decide +kernel, rfl, by decide +kernel, by decide +kernel⟩
abbrev a_l_right (K : PySem.W.Frag) : Addr := He.ga K "_law_right"
def d_l_right : He5.DefA := ⟨fun K => a_l_right K, "_law_right", "_law_right", defArgs s_l_right, defBody s_l_right, defScope s_l_right, [], []⟩
abbrev s_law : Stmt := top 108
abbrev n_law : List Str := ["_law_script", "_law_k"]
theorem sc_law : FnScope n_law ["_law_script"] (defScope s_law) := ⟨rfl, rfl, rfl, by decide +kernel, rfl, by decide +kernel, by decide +kernel⟩
abbrev a_law (K : PySem.W.Frag) : Addr := He.ga K "law"
def d_law : He5.DefA := ⟨fun K => a_law K, "law", "law", defArgs s_law, defBody s_law, defScope s_law, [], []⟩
abbrev C_Many (K : PySem.W.Frag) : Addr := He.ga K "Many"
abbrev C_Model (K : PySem.W.Frag) : Addr := He.ga K "Model"
abbrev C_Sizes (K : PySem.W.Frag) : Addr := He.ga K "Sizes"
abbrev C_Stream (K : PySem.W.Frag) : Addr := He.ga K "Stream"
abbrev C_Demand (K : PySem.W.Frag) : Addr := He.ga K "Demand"
abbrev C_Told (K : PySem.W.Frag) : Addr := He.ga K "Told"
def fn : List He5.DefA := [d_is_integer, d_is_count, d_is_name, d_is_end, d_other_end, d_want_count, d_Many_init, d_Many_least, d_Many_most, d_is_end_many, d_are_ends, d_want_kinds, d_want_links, d_want_few, d_want_model, d_want_kind, d_want_link, d_want_end, d_Model_init, d_Model_kinds, d_Model_links, d_Model_kind_at, d_Model_many_at, d_Model_contains, d_are_counts, d_Sizes_init, d_Sizes_counts, d_Sizes_getitem, d_Sizes_contains, d_checked_counts, d_sizes_for, d_Stream_init, d_Stream_row_left, d_Stream_column_left, d_Stream_next_nodes, d_Stream_searched, d_Stream_push, d_Stream_fill, d_Demand_init, d_Demand_need, d_Demand_room_at, d_Demand_new_room, d_Demand_stream, d_Demand_lack, d_Demand_offer, d_Demand_is_too_much, d_Demand_cut, d_is_row_of, d_wrong_pair, d_Told_init, d_Told_model, d_Told_set_wished, d_Told_iadd, d_Told_setitem, d_Told_getitem, d_Told_contains, d_Told_rows, d_Told_degree, d_want_told, d_past_row, d_new_counts, d_found_cut, d_fits_sizes, d_checked_news, d_cut_of, d_is_cut, d_l_rng, d_l_draw, d_l_choice, d_l_names, d_l_pair, d_l_many, d_l_frame, d_l_real, d_l_people, d_l_of, d_l_could, d_l_pairs, d_l_said, d_l_degree, d_l_at, d_l_sets, d_l_lacks, d_l_is_past, d_l_odd, d_l_end_has_cut, d_l_right, d_law]
def fa : List He.Fa := [.glo "is_integer", .glo "is_count", .glo "is_name", .glo "is_end", .glo "other_end", .glo "want_count", .glo "is_end_many", .glo "are_ends", .glo "want_kinds", .glo "want_links", .glo "want_few", .glo "want_model", .glo "want_kind", .glo "want_link", .glo "want_end", .glo "are_counts", .glo "checked_counts", .glo "sizes_for", .glo "is_row_of", .glo "wrong_pair", .glo "want_told", .glo "past_row", .glo "new_counts", .glo "found_cut", .glo "fits_sizes", .glo "checked_news", .glo "cut_of", .glo "is_cut", .glo "_law_rng", .glo "_law_draw", .glo "_law_choice", .glo "_law_names", .glo "_law_pair", .glo "_law_many", .glo "_law_frame", .glo "_law_real", .glo "_law_people", .glo "_law_of", .glo "_law_could", .glo "_law_pairs", .glo "_law_said", .glo "_law_degree", .glo "_law_at", .glo "_law_sets", .glo "_law_lacks", .glo "_law_is_past", .glo "_law_odd", .glo "_law_end_has_cut", .glo "_law_right", .glo "law", .glo "Many", .glo "Model", .glo "Sizes", .glo "Stream", .glo "Demand", .glo "Told", .glo "ENDS", .free "isinstance", .free "int", .free "bool", .free "str", .free "list", .free "tuple", .free "dict", .free "len", .free "all", .free "any", .free "sorted", .free "set", .free "max", .free "min", .free "sum", .free "range", .free "enumerate", .free "abs", .free "divmod", .str "LETTERS" "abcdefghijklmnopqrstuvwxyz", .int "MOST_LETTERS" 8, .str "NEAR_values" "near", .str "FAR" "far", .str "NEAR_models" "near", .int "ROW" 0, .int "COLUMN" 1, .int "MOST_ROWS" 12, .int "MOST_PAIRS" 40, .mkr "Many", .mkr "Model", .cls "Model", .noat "Model" "own_kinds", .noat "Model" "own_links", .mkr "Sizes", .cls "Sizes", .noat "Sizes" "own_counts", .mkr "Stream", .cls "Stream", .noat "Stream" "own_needs", .noat "Stream" "own_rooms", .noat "Stream" "own_caps", .noat "Stream" "own_flows", .noat "Stream" "own_reached", .mkr "Demand", .cls "Demand", .noat "Demand" "own_names", .noat "Demand" "own_others", .noat "Demand" "own_told", .noat "Demand" "own_least", .noat "Demand" "own_top", .mkr "Told", .cls "Told", .noat "Told" "own_model", .noat "Told" "own_rows", .noat "Told" "own_pairs", .noat "Told" "own_wishes", .meth "Many" "__init__", .meth "Model" "__init__", .meth "Model" "kinds", .meth "Model" "links", .meth "Model" "kind_at", .meth "Model" "many_at", .meth "Model" "__contains__", .meth "Sizes" "__init__", .meth "Sizes" "counts", .meth "Sizes" "__getitem__", .meth "Sizes" "__contains__", .meth "Stream" "__init__", .meth "Stream" "row_left", .meth "Stream" "column_left", .meth "Stream" "next_nodes", .meth "Stream" "searched", .meth "Stream" "push", .meth "Stream" "fill", .meth "Demand" "__init__", .meth "Demand" "need", .meth "Demand" "room_at", .meth "Demand" "new_room", .meth "Demand" "stream", .meth "Demand" "lack", .meth "Demand" "offer", .meth "Demand" "is_too_much", .meth "Demand" "cut", .meth "Told" "__init__", .meth "Told" "set_wished", .meth "Told" "__iadd__", .meth "Told" "__setitem__", .meth "Told" "__getitem__", .meth "Told" "__contains__", .meth "Told" "rows", .meth "Told" "degree"]
def sclsB (K : PySem.W.Frag) (C : Addr) : Bool := PySem.W.plainGet K C Str.empty && (PySem.W.isClsIn K C && (PySem.W.plainOver K C && sameO (PySem.W.findIn K (.ref C) "__setattr__") (some (some (.builtin "object.__setattr__")))))
theorem scls_ok {K : PySem.W.Frag} {C : Addr} (h : sclsB K C = true) : SlX.SCls K C := by
  obtain ⟨h1, h⟩ := He.ba h
  obtain ⟨h2, h⟩ := He.ba h
  obtain ⟨h3, h4⟩ := He.ba h
  exact ⟨h1, h2, h3, of_decide_eq_true h4⟩
def slotB (K : PySem.W.Frag) (C : Addr) (f : Str) (i : Nat) : Bool := sameO (PySem.W.findIn K (.ref C) f) (some (some (.ref (He.ma K C f)))) && (sameO (PySem.W.specialIn K (.ref (He.ma K C f)) "__get__") (some (some (.builtin "member_descriptor.__get__"))) && (decide (PySem.W.takesIn K (.ref (He.ma K C f)) = some true) && (decide (PySem.W.typeIn K (.ref (He.ma K C f)) = some (.type "member_descriptor")) && decide (PySem.W.slotIn K (He.ma K C f) C = some i))))
theorem slot_ok {K : PySem.W.Frag} {C : Addr} {f : Str} {i : Nat} (h : slotB K C f i = true) (hi : i < 1000) : SlX.Slot1 K C f (He.ma K C f) i := by
  obtain ⟨h1, h⟩ := He.ba h
  obtain ⟨h2, h⟩ := He.ba h
  obtain ⟨h3, h⟩ := He.ba h
  obtain ⟨h4, h5⟩ := He.ba h
  exact ⟨of_decide_eq_true h1, of_decide_eq_true h2, of_decide_eq_true h3, of_decide_eq_true h4, of_decide_eq_true h5, hi⟩
def propB (K : PySem.W.Frag) (x f : Str) : Bool := sameO (PySem.W.findIn K (.ref (He.ga K x)) f) (some (some (.ref (He.ma K (He.ga K x) f)))) && (sameO (PySem.W.specialIn K (.ref (He.ma K (He.ga K x) f)) "__get__") (some (some (.builtin "property.__get__"))) && (decide (PySem.W.takesIn K (.ref (He.ma K (He.ga K x) f)) = some true) && (match PySem.W.recIn K (He.ma K (He.ga K x) f) "property" with
  | some (.ref _ :: _) => true
  | _ => false)))
theorem prop_ok {K : PySem.W.Frag} {x f : Str} (h : propB K x f = true) : PropOf K (He.ga K x) f (He.ma K (He.ga K x) f) (pg K x f) := by
  obtain ⟨h1, h⟩ := He.ba h
  obtain ⟨h2, h⟩ := He.ba h
  obtain ⟨h3, h4⟩ := He.ba h
  refine ⟨of_decide_eq_true h1, of_decide_eq_true h2, of_decide_eq_true h3, ?_⟩
  unfold pg
  split at h4
  · rename_i g rest e
    exact ⟨rest, by rw [e]⟩
  · cases h4
def isiB (K : PySem.W.Frag) (C : Addr) : Bool := sameO (PySem.W.findIn K (.ref C) "__class__") (some (some (.builtin "object.__class__"))) && (sameO (PySem.W.specialIn K (.builtin "object.__class__") "__get__") (some (some (.builtin "getset_descriptor.__get__"))) && (decide (PySem.W.takesIn K (.builtin "object.__class__") = some true) && (decide (PySem.W.mroIn K C (.type "object") = some true) && decide (PySem.W.kitOne K (.ref C) (.ref C) = some true))))
structure IsiC (K : PySem.W.Frag) (C : Addr) : Prop where
  ca : PySem.W.findIn K (.ref C) "__class__" = some (some (.builtin "object.__class__"))
  cn : PySem.W.specialIn K (.builtin "object.__class__") "__get__" = some (some (.builtin "getset_descriptor.__get__"))
  ct : PySem.W.takesIn K (.builtin "object.__class__") = some true
  cm : PySem.W.mroIn K C (.type "object") = some true
  kit : PySem.W.kitOne K (.ref C) (.ref C) = some true
theorem isi_ok {K : PySem.W.Frag} {C : Addr} (h : isiB K C = true) : IsiC K C := by
  obtain ⟨h1, h⟩ := He.ba h
  obtain ⟨h2, h⟩ := He.ba h
  obtain ⟨h3, h⟩ := He.ba h
  obtain ⟨h4, h5⟩ := He.ba h
  exact ⟨of_decide_eq_true h1, of_decide_eq_true h2, of_decide_eq_true h3, of_decide_eq_true h4, of_decide_eq_true h5⟩
def crdB (K : PySem.W.Frag) (C : Addr) : Bool := PySem.W.readsIn K C (.type "type") && sameO (PySem.W.specialIn K (.ref C) "__getattribute__") (some (some (.builtin "type.__getattribute__")))
theorem crd_ok {K : PySem.W.Frag} {C : Addr} (h : crdB K C = true) : ClX.CRead K C (.type "type") := by
  obtain ⟨h1, h2⟩ := He.ba h
  exact ⟨h1, of_decide_eq_true h2⟩
def cviB (K : PySem.W.Frag) (C : Addr) (f : Str) (i : Int) : Bool := match PySem.W.findCls K (.ref C) (.type "type") f with
  | some (.val (.int j _)) => decide (j = i)
  | _ => false
theorem cvi_ok {K : PySem.W.Frag} {C : Addr} {f : Str} {i : Int} (h : cviB K C f i = true) : ∃ u, ClX.CVal K C (.type "type") f (.int i) u := by
  unfold cviB at h
  split at h
  · rename_i j t e
    refine ⟨.int j t, ⟨e, ?_⟩⟩
    have z := of_decide_eq_true h
    subst z
    exact ⟨t, rfl⟩
  · cases h

def exs : List (PySem.W.Frag → Bool) := [fun K => sclsB K (C_Many K), fun K => slotB K (C_Many K) "own_least" 0, fun K => slotB K (C_Many K) "own_most" 1, fun K => slotB K (C_Many K) "own_place" 2, fun K => propB K "Many" "least", fun K => propB K "Many" "most", fun K => propB K "Told" "model", fun K => isiB K (C_Many K), fun K => isiB K (C_Model K), fun K => isiB K (C_Sizes K), fun K => isiB K (C_Told K), fun K => crdB K (C_Many K), fun K => crdB K (C_Model K), fun K => cviB K (C_Many K) "TOP" 6, fun K => cviB K (C_Model K) "MOST_KINDS" 5, fun K => cviB K (C_Model K) "MOST_LINKS" 8, fun K => PySem.W.fnIn K (a_Sizes_getitem K), fun K => PySem.W.fnIn K (a_Told_getitem K), fun K => PySem.W.noSeq K (C_Told K), fun K => PySem.W.selfFirst K (C_Told K), fun K => decide (PySem.W.kitOne K (.type "dict") (.ref (C_Sizes K)) = some false), fun K => He.tupB K "ENDS" [.str "near", .str "far"]]
structure Txt (K : PySem.W.Frag) (mg : Str → Option Value) : Prop where
  fa : ∀ (i : Nat) (f : He.Fa), fa[i]? = some f → f.ok K = true
  ex : ∀ (i : Nat) (f : PySem.W.Frag → Bool), exs[i]? = some f → f K = true
  df : ∀ (i : Nat) (d : He5.DefA), fn[i]? = some d → ∃ fd, FunD K d.name d.qual d.params d.body d.scope (d.dvs K) (d.kws K) (d.at_ K) fd
  gl : ∀ x, (He.Fa.glo x).ok K = true → mg x = some (.ref (He.ga K x))
  fr : ∀ x, (He.Fa.free x).ok K = true → mg x = none
  it : ∀ x i, (He.Fa.int x i).ok K = true → ∃ t, mg x = some (.int i t)
  st : ∀ x z, (He.Fa.str x z).ok K = true → ∃ t, mg x = some (.str z t)
section
variable {K : PySem.W.Frag} {mg : Str → Option Value}
theorem g_is_integer (T : Txt K mg) : mg "is_integer" = some (.ref (He.ga K "is_integer")) := T.gl _ (T.fa 0 _ rfl)
theorem g_is_count (T : Txt K mg) : mg "is_count" = some (.ref (He.ga K "is_count")) := T.gl _ (T.fa 1 _ rfl)
theorem g_is_name (T : Txt K mg) : mg "is_name" = some (.ref (He.ga K "is_name")) := T.gl _ (T.fa 2 _ rfl)
theorem g_is_end (T : Txt K mg) : mg "is_end" = some (.ref (He.ga K "is_end")) := T.gl _ (T.fa 3 _ rfl)
theorem g_other_end (T : Txt K mg) : mg "other_end" = some (.ref (He.ga K "other_end")) := T.gl _ (T.fa 4 _ rfl)
theorem g_want_count (T : Txt K mg) : mg "want_count" = some (.ref (He.ga K "want_count")) := T.gl _ (T.fa 5 _ rfl)
theorem g_is_end_many (T : Txt K mg) : mg "is_end_many" = some (.ref (He.ga K "is_end_many")) := T.gl _ (T.fa 6 _ rfl)
theorem g_are_ends (T : Txt K mg) : mg "are_ends" = some (.ref (He.ga K "are_ends")) := T.gl _ (T.fa 7 _ rfl)
theorem g_want_kinds (T : Txt K mg) : mg "want_kinds" = some (.ref (He.ga K "want_kinds")) := T.gl _ (T.fa 8 _ rfl)
theorem g_want_links (T : Txt K mg) : mg "want_links" = some (.ref (He.ga K "want_links")) := T.gl _ (T.fa 9 _ rfl)
theorem g_want_few (T : Txt K mg) : mg "want_few" = some (.ref (He.ga K "want_few")) := T.gl _ (T.fa 10 _ rfl)
theorem g_want_model (T : Txt K mg) : mg "want_model" = some (.ref (He.ga K "want_model")) := T.gl _ (T.fa 11 _ rfl)
theorem g_want_kind (T : Txt K mg) : mg "want_kind" = some (.ref (He.ga K "want_kind")) := T.gl _ (T.fa 12 _ rfl)
theorem g_want_link (T : Txt K mg) : mg "want_link" = some (.ref (He.ga K "want_link")) := T.gl _ (T.fa 13 _ rfl)
theorem g_want_end (T : Txt K mg) : mg "want_end" = some (.ref (He.ga K "want_end")) := T.gl _ (T.fa 14 _ rfl)
theorem g_are_counts (T : Txt K mg) : mg "are_counts" = some (.ref (He.ga K "are_counts")) := T.gl _ (T.fa 15 _ rfl)
theorem g_checked_counts (T : Txt K mg) : mg "checked_counts" = some (.ref (He.ga K "checked_counts")) := T.gl _ (T.fa 16 _ rfl)
theorem g_sizes_for (T : Txt K mg) : mg "sizes_for" = some (.ref (He.ga K "sizes_for")) := T.gl _ (T.fa 17 _ rfl)
theorem g_is_row_of (T : Txt K mg) : mg "is_row_of" = some (.ref (He.ga K "is_row_of")) := T.gl _ (T.fa 18 _ rfl)
theorem g_wrong_pair (T : Txt K mg) : mg "wrong_pair" = some (.ref (He.ga K "wrong_pair")) := T.gl _ (T.fa 19 _ rfl)
theorem g_want_told (T : Txt K mg) : mg "want_told" = some (.ref (He.ga K "want_told")) := T.gl _ (T.fa 20 _ rfl)
theorem g_past_row (T : Txt K mg) : mg "past_row" = some (.ref (He.ga K "past_row")) := T.gl _ (T.fa 21 _ rfl)
theorem g_new_counts (T : Txt K mg) : mg "new_counts" = some (.ref (He.ga K "new_counts")) := T.gl _ (T.fa 22 _ rfl)
theorem g_found_cut (T : Txt K mg) : mg "found_cut" = some (.ref (He.ga K "found_cut")) := T.gl _ (T.fa 23 _ rfl)
theorem g_fits_sizes (T : Txt K mg) : mg "fits_sizes" = some (.ref (He.ga K "fits_sizes")) := T.gl _ (T.fa 24 _ rfl)
theorem g_checked_news (T : Txt K mg) : mg "checked_news" = some (.ref (He.ga K "checked_news")) := T.gl _ (T.fa 25 _ rfl)
theorem g_cut_of (T : Txt K mg) : mg "cut_of" = some (.ref (He.ga K "cut_of")) := T.gl _ (T.fa 26 _ rfl)
theorem g_is_cut (T : Txt K mg) : mg "is_cut" = some (.ref (He.ga K "is_cut")) := T.gl _ (T.fa 27 _ rfl)
theorem g_l_rng (T : Txt K mg) : mg "_law_rng" = some (.ref (He.ga K "_law_rng")) := T.gl _ (T.fa 28 _ rfl)
theorem g_l_draw (T : Txt K mg) : mg "_law_draw" = some (.ref (He.ga K "_law_draw")) := T.gl _ (T.fa 29 _ rfl)
theorem g_l_choice (T : Txt K mg) : mg "_law_choice" = some (.ref (He.ga K "_law_choice")) := T.gl _ (T.fa 30 _ rfl)
theorem g_l_names (T : Txt K mg) : mg "_law_names" = some (.ref (He.ga K "_law_names")) := T.gl _ (T.fa 31 _ rfl)
theorem g_l_pair (T : Txt K mg) : mg "_law_pair" = some (.ref (He.ga K "_law_pair")) := T.gl _ (T.fa 32 _ rfl)
theorem g_l_many (T : Txt K mg) : mg "_law_many" = some (.ref (He.ga K "_law_many")) := T.gl _ (T.fa 33 _ rfl)
theorem g_l_frame (T : Txt K mg) : mg "_law_frame" = some (.ref (He.ga K "_law_frame")) := T.gl _ (T.fa 34 _ rfl)
theorem g_l_real (T : Txt K mg) : mg "_law_real" = some (.ref (He.ga K "_law_real")) := T.gl _ (T.fa 35 _ rfl)
theorem g_l_people (T : Txt K mg) : mg "_law_people" = some (.ref (He.ga K "_law_people")) := T.gl _ (T.fa 36 _ rfl)
theorem g_l_of (T : Txt K mg) : mg "_law_of" = some (.ref (He.ga K "_law_of")) := T.gl _ (T.fa 37 _ rfl)
theorem g_l_could (T : Txt K mg) : mg "_law_could" = some (.ref (He.ga K "_law_could")) := T.gl _ (T.fa 38 _ rfl)
theorem g_l_pairs (T : Txt K mg) : mg "_law_pairs" = some (.ref (He.ga K "_law_pairs")) := T.gl _ (T.fa 39 _ rfl)
theorem g_l_said (T : Txt K mg) : mg "_law_said" = some (.ref (He.ga K "_law_said")) := T.gl _ (T.fa 40 _ rfl)
theorem g_l_degree (T : Txt K mg) : mg "_law_degree" = some (.ref (He.ga K "_law_degree")) := T.gl _ (T.fa 41 _ rfl)
theorem g_l_at (T : Txt K mg) : mg "_law_at" = some (.ref (He.ga K "_law_at")) := T.gl _ (T.fa 42 _ rfl)
theorem g_l_sets (T : Txt K mg) : mg "_law_sets" = some (.ref (He.ga K "_law_sets")) := T.gl _ (T.fa 43 _ rfl)
theorem g_l_lacks (T : Txt K mg) : mg "_law_lacks" = some (.ref (He.ga K "_law_lacks")) := T.gl _ (T.fa 44 _ rfl)
theorem g_l_is_past (T : Txt K mg) : mg "_law_is_past" = some (.ref (He.ga K "_law_is_past")) := T.gl _ (T.fa 45 _ rfl)
theorem g_l_odd (T : Txt K mg) : mg "_law_odd" = some (.ref (He.ga K "_law_odd")) := T.gl _ (T.fa 46 _ rfl)
theorem g_l_end_has_cut (T : Txt K mg) : mg "_law_end_has_cut" = some (.ref (He.ga K "_law_end_has_cut")) := T.gl _ (T.fa 47 _ rfl)
theorem g_l_right (T : Txt K mg) : mg "_law_right" = some (.ref (He.ga K "_law_right")) := T.gl _ (T.fa 48 _ rfl)
theorem g_law (T : Txt K mg) : mg "law" = some (.ref (He.ga K "law")) := T.gl _ (T.fa 49 _ rfl)
theorem g_Many (T : Txt K mg) : mg "Many" = some (.ref (He.ga K "Many")) := T.gl _ (T.fa 50 _ rfl)
theorem g_Model (T : Txt K mg) : mg "Model" = some (.ref (He.ga K "Model")) := T.gl _ (T.fa 51 _ rfl)
theorem g_Sizes (T : Txt K mg) : mg "Sizes" = some (.ref (He.ga K "Sizes")) := T.gl _ (T.fa 52 _ rfl)
theorem g_Stream (T : Txt K mg) : mg "Stream" = some (.ref (He.ga K "Stream")) := T.gl _ (T.fa 53 _ rfl)
theorem g_Demand (T : Txt K mg) : mg "Demand" = some (.ref (He.ga K "Demand")) := T.gl _ (T.fa 54 _ rfl)
theorem g_Told (T : Txt K mg) : mg "Told" = some (.ref (He.ga K "Told")) := T.gl _ (T.fa 55 _ rfl)
theorem g_ENDS (T : Txt K mg) : mg "ENDS" = some (.ref (He.ga K "ENDS")) := T.gl _ (T.fa 56 _ rfl)
theorem z_isinstance (T : Txt K mg) : mg "isinstance" = none := T.fr _ (T.fa 57 _ rfl)
theorem z_int (T : Txt K mg) : mg "int" = none := T.fr _ (T.fa 58 _ rfl)
theorem z_bool (T : Txt K mg) : mg "bool" = none := T.fr _ (T.fa 59 _ rfl)
theorem z_str (T : Txt K mg) : mg "str" = none := T.fr _ (T.fa 60 _ rfl)
theorem z_list (T : Txt K mg) : mg "list" = none := T.fr _ (T.fa 61 _ rfl)
theorem z_tuple (T : Txt K mg) : mg "tuple" = none := T.fr _ (T.fa 62 _ rfl)
theorem z_dict (T : Txt K mg) : mg "dict" = none := T.fr _ (T.fa 63 _ rfl)
theorem z_len (T : Txt K mg) : mg "len" = none := T.fr _ (T.fa 64 _ rfl)
theorem z_all (T : Txt K mg) : mg "all" = none := T.fr _ (T.fa 65 _ rfl)
theorem z_any (T : Txt K mg) : mg "any" = none := T.fr _ (T.fa 66 _ rfl)
theorem z_sorted (T : Txt K mg) : mg "sorted" = none := T.fr _ (T.fa 67 _ rfl)
theorem z_set (T : Txt K mg) : mg "set" = none := T.fr _ (T.fa 68 _ rfl)
theorem z_max (T : Txt K mg) : mg "max" = none := T.fr _ (T.fa 69 _ rfl)
theorem z_min (T : Txt K mg) : mg "min" = none := T.fr _ (T.fa 70 _ rfl)
theorem z_sum (T : Txt K mg) : mg "sum" = none := T.fr _ (T.fa 71 _ rfl)
theorem z_range (T : Txt K mg) : mg "range" = none := T.fr _ (T.fa 72 _ rfl)
theorem z_enumerate (T : Txt K mg) : mg "enumerate" = none := T.fr _ (T.fa 73 _ rfl)
theorem z_abs (T : Txt K mg) : mg "abs" = none := T.fr _ (T.fa 74 _ rfl)
theorem z_divmod (T : Txt K mg) : mg "divmod" = none := T.fr _ (T.fa 75 _ rfl)
def gv_LETTERS (mg : Str → Option Value) : Value := (mg "LETTERS").getD .none
theorem gt_LETTERS (T : Txt K mg) : mg "LETTERS" = some (gv_LETTERS mg) := by obtain ⟨t, e⟩ := T.st _ _ (T.fa 76 _ rfl); unfold gv_LETTERS; rw [e] <;> rfl
theorem rx_LETTERS (T : Txt K mg) : RelV (.str "abcdefghijklmnopqrstuvwxyz") (gv_LETTERS mg) := by obtain ⟨t, e⟩ := T.st _ _ (T.fa 76 _ rfl); unfold gv_LETTERS; rw [e]; exact ⟨t, rfl⟩
def gv_MOST_LETTERS (mg : Str → Option Value) : Value := (mg "MOST_LETTERS").getD .none
theorem gt_MOST_LETTERS (T : Txt K mg) : mg "MOST_LETTERS" = some (gv_MOST_LETTERS mg) := by obtain ⟨t, e⟩ := T.it _ _ (T.fa 77 _ rfl); unfold gv_MOST_LETTERS; rw [e] <;> rfl
theorem rx_MOST_LETTERS (T : Txt K mg) : RelV (.int 8) (gv_MOST_LETTERS mg) := by obtain ⟨t, e⟩ := T.it _ _ (T.fa 77 _ rfl); unfold gv_MOST_LETTERS; rw [e]; exact ⟨t, rfl⟩
def gv_NEAR_values (mg : Str → Option Value) : Value := (mg "NEAR_values").getD .none
theorem gt_NEAR_values (T : Txt K mg) : mg "NEAR_values" = some (gv_NEAR_values mg) := by obtain ⟨t, e⟩ := T.st _ _ (T.fa 78 _ rfl); unfold gv_NEAR_values; rw [e] <;> rfl
theorem rx_NEAR_values (T : Txt K mg) : RelV (.str "near") (gv_NEAR_values mg) := by obtain ⟨t, e⟩ := T.st _ _ (T.fa 78 _ rfl); unfold gv_NEAR_values; rw [e]; exact ⟨t, rfl⟩
def gv_FAR (mg : Str → Option Value) : Value := (mg "FAR").getD .none
theorem gt_FAR (T : Txt K mg) : mg "FAR" = some (gv_FAR mg) := by obtain ⟨t, e⟩ := T.st _ _ (T.fa 79 _ rfl); unfold gv_FAR; rw [e] <;> rfl
theorem rx_FAR (T : Txt K mg) : RelV (.str "far") (gv_FAR mg) := by obtain ⟨t, e⟩ := T.st _ _ (T.fa 79 _ rfl); unfold gv_FAR; rw [e]; exact ⟨t, rfl⟩
def gv_NEAR_models (mg : Str → Option Value) : Value := (mg "NEAR_models").getD .none
theorem gt_NEAR_models (T : Txt K mg) : mg "NEAR_models" = some (gv_NEAR_models mg) := by obtain ⟨t, e⟩ := T.st _ _ (T.fa 80 _ rfl); unfold gv_NEAR_models; rw [e] <;> rfl
theorem rx_NEAR_models (T : Txt K mg) : RelV (.str "near") (gv_NEAR_models mg) := by obtain ⟨t, e⟩ := T.st _ _ (T.fa 80 _ rfl); unfold gv_NEAR_models; rw [e]; exact ⟨t, rfl⟩
def gv_ROW (mg : Str → Option Value) : Value := (mg "ROW").getD .none
theorem gt_ROW (T : Txt K mg) : mg "ROW" = some (gv_ROW mg) := by obtain ⟨t, e⟩ := T.it _ _ (T.fa 81 _ rfl); unfold gv_ROW; rw [e] <;> rfl
theorem rx_ROW (T : Txt K mg) : RelV (.int 0) (gv_ROW mg) := by obtain ⟨t, e⟩ := T.it _ _ (T.fa 81 _ rfl); unfold gv_ROW; rw [e]; exact ⟨t, rfl⟩
def gv_COLUMN (mg : Str → Option Value) : Value := (mg "COLUMN").getD .none
theorem gt_COLUMN (T : Txt K mg) : mg "COLUMN" = some (gv_COLUMN mg) := by obtain ⟨t, e⟩ := T.it _ _ (T.fa 82 _ rfl); unfold gv_COLUMN; rw [e] <;> rfl
theorem rx_COLUMN (T : Txt K mg) : RelV (.int 1) (gv_COLUMN mg) := by obtain ⟨t, e⟩ := T.it _ _ (T.fa 82 _ rfl); unfold gv_COLUMN; rw [e]; exact ⟨t, rfl⟩
def gv_MOST_ROWS (mg : Str → Option Value) : Value := (mg "MOST_ROWS").getD .none
theorem gt_MOST_ROWS (T : Txt K mg) : mg "MOST_ROWS" = some (gv_MOST_ROWS mg) := by obtain ⟨t, e⟩ := T.it _ _ (T.fa 83 _ rfl); unfold gv_MOST_ROWS; rw [e] <;> rfl
theorem rx_MOST_ROWS (T : Txt K mg) : RelV (.int 12) (gv_MOST_ROWS mg) := by obtain ⟨t, e⟩ := T.it _ _ (T.fa 83 _ rfl); unfold gv_MOST_ROWS; rw [e]; exact ⟨t, rfl⟩
def gv_MOST_PAIRS (mg : Str → Option Value) : Value := (mg "MOST_PAIRS").getD .none
theorem gt_MOST_PAIRS (T : Txt K mg) : mg "MOST_PAIRS" = some (gv_MOST_PAIRS mg) := by obtain ⟨t, e⟩ := T.it _ _ (T.fa 84 _ rfl); unfold gv_MOST_PAIRS; rw [e] <;> rfl
theorem rx_MOST_PAIRS (T : Txt K mg) : RelV (.int 40) (gv_MOST_PAIRS mg) := by obtain ⟨t, e⟩ := T.it _ _ (T.fa 84 _ rfl); unfold gv_MOST_PAIRS; rw [e]; exact ⟨t, rfl⟩
theorem gt_ENDS (T : Txt K mg) : mg "ENDS" = some (.ref (He.ga K "ENDS")) := g_ENDS T
theorem rx_ENDS (_ : Txt K mg) : RelV (.ref (He.ga K "ENDS")) (.ref (He.ga K "ENDS")) := rfl
theorem ends_at (T : Txt K mg) (H : Hp) : SqT K H (He.ga K "ENDS") [.str "near", .str "far"] := He.tupB_ok (T.ex 21 _ rfl) H
theorem mk_Many (T : Txt K mg) : Mk K (C_Many K) (He.ma K (C_Many K) "__init__") := He.mkr_ok (T.fa 85 _ rfl)
theorem mk_Model (T : Txt K mg) : Mk K (C_Model K) (He.ma K (C_Model K) "__init__") := He.mkr_ok (T.fa 86 _ rfl)
theorem c_Model (T : Txt K mg) : Cls K (C_Model K) := He.cls_ok (T.fa 87 _ rfl)
theorem na_Model_own_kinds (T : Txt K mg) : NoAttr K (C_Model K) "own_kinds" := He.noat_ok (T.fa 88 _ rfl)
theorem na_Model_own_links (T : Txt K mg) : NoAttr K (C_Model K) "own_links" := He.noat_ok (T.fa 89 _ rfl)
theorem mk_Sizes (T : Txt K mg) : Mk K (C_Sizes K) (He.ma K (C_Sizes K) "__init__") := He.mkr_ok (T.fa 90 _ rfl)
theorem c_Sizes (T : Txt K mg) : Cls K (C_Sizes K) := He.cls_ok (T.fa 91 _ rfl)
theorem na_Sizes_own_counts (T : Txt K mg) : NoAttr K (C_Sizes K) "own_counts" := He.noat_ok (T.fa 92 _ rfl)
theorem mk_Stream (T : Txt K mg) : Mk K (C_Stream K) (He.ma K (C_Stream K) "__init__") := He.mkr_ok (T.fa 93 _ rfl)
theorem c_Stream (T : Txt K mg) : Cls K (C_Stream K) := He.cls_ok (T.fa 94 _ rfl)
theorem na_Stream_own_needs (T : Txt K mg) : NoAttr K (C_Stream K) "own_needs" := He.noat_ok (T.fa 95 _ rfl)
theorem na_Stream_own_rooms (T : Txt K mg) : NoAttr K (C_Stream K) "own_rooms" := He.noat_ok (T.fa 96 _ rfl)
theorem na_Stream_own_caps (T : Txt K mg) : NoAttr K (C_Stream K) "own_caps" := He.noat_ok (T.fa 97 _ rfl)
theorem na_Stream_own_flows (T : Txt K mg) : NoAttr K (C_Stream K) "own_flows" := He.noat_ok (T.fa 98 _ rfl)
theorem na_Stream_own_reached (T : Txt K mg) : NoAttr K (C_Stream K) "own_reached" := He.noat_ok (T.fa 99 _ rfl)
theorem mk_Demand (T : Txt K mg) : Mk K (C_Demand K) (He.ma K (C_Demand K) "__init__") := He.mkr_ok (T.fa 100 _ rfl)
theorem c_Demand (T : Txt K mg) : Cls K (C_Demand K) := He.cls_ok (T.fa 101 _ rfl)
theorem na_Demand_own_names (T : Txt K mg) : NoAttr K (C_Demand K) "own_names" := He.noat_ok (T.fa 102 _ rfl)
theorem na_Demand_own_others (T : Txt K mg) : NoAttr K (C_Demand K) "own_others" := He.noat_ok (T.fa 103 _ rfl)
theorem na_Demand_own_told (T : Txt K mg) : NoAttr K (C_Demand K) "own_told" := He.noat_ok (T.fa 104 _ rfl)
theorem na_Demand_own_least (T : Txt K mg) : NoAttr K (C_Demand K) "own_least" := He.noat_ok (T.fa 105 _ rfl)
theorem na_Demand_own_top (T : Txt K mg) : NoAttr K (C_Demand K) "own_top" := He.noat_ok (T.fa 106 _ rfl)
theorem mk_Told (T : Txt K mg) : Mk K (C_Told K) (He.ma K (C_Told K) "__init__") := He.mkr_ok (T.fa 107 _ rfl)
theorem c_Told (T : Txt K mg) : Cls K (C_Told K) := He.cls_ok (T.fa 108 _ rfl)
theorem na_Told_own_model (T : Txt K mg) : NoAttr K (C_Told K) "own_model" := He.noat_ok (T.fa 109 _ rfl)
theorem na_Told_own_rows (T : Txt K mg) : NoAttr K (C_Told K) "own_rows" := He.noat_ok (T.fa 110 _ rfl)
theorem na_Told_own_pairs (T : Txt K mg) : NoAttr K (C_Told K) "own_pairs" := He.noat_ok (T.fa 111 _ rfl)
theorem na_Told_own_wishes (T : Txt K mg) : NoAttr K (C_Told K) "own_wishes" := He.noat_ok (T.fa 112 _ rfl)
theorem F_is_integer (T : Txt K mg) : FunD K "is_integer" "is_integer" (defArgs s_is_integer) (defBody s_is_integer) (defScope s_is_integer) [] [] (a_is_integer K) (fdOf K (a_is_integer K)) := by
  obtain ⟨fd, F⟩ := T.df 0 d_is_integer rfl
  rw [fd_eq F] at F
  exact F
theorem b_is_integer (T : Txt K mg) : Binds K (fdOf K (a_is_integer K)) ["value"] [] := (F_is_integer T).bindsN fun _ _ _ _ _ _ us hl => match us, hl with | [_], _ => rfl
theorem F_is_count (T : Txt K mg) : FunD K "is_count" "is_count" (defArgs s_is_count) (defBody s_is_count) (defScope s_is_count) [] [] (a_is_count K) (fdOf K (a_is_count K)) := by
  obtain ⟨fd, F⟩ := T.df 1 d_is_count rfl
  rw [fd_eq F] at F
  exact F
theorem b_is_count (T : Txt K mg) : Binds K (fdOf K (a_is_count K)) ["value"] [] := (F_is_count T).bindsN fun _ _ _ _ _ _ us hl => match us, hl with | [_], _ => rfl
theorem F_is_name (T : Txt K mg) : FunD K "is_name" "is_name" (defArgs s_is_name) (defBody s_is_name) (defScope s_is_name) [] [] (a_is_name K) (fdOf K (a_is_name K)) := by
  obtain ⟨fd, F⟩ := T.df 2 d_is_name rfl
  rw [fd_eq F] at F
  exact F
theorem b_is_name (T : Txt K mg) : Binds K (fdOf K (a_is_name K)) ["value"] [] := (F_is_name T).bindsN fun _ _ _ _ _ _ us hl => match us, hl with | [_], _ => rfl
theorem F_is_end (T : Txt K mg) : FunD K "is_end" "is_end" (defArgs s_is_end) (defBody s_is_end) (defScope s_is_end) [] [] (a_is_end K) (fdOf K (a_is_end K)) := by
  obtain ⟨fd, F⟩ := T.df 3 d_is_end rfl
  rw [fd_eq F] at F
  exact F
theorem b_is_end (T : Txt K mg) : Binds K (fdOf K (a_is_end K)) ["value"] [] := (F_is_end T).bindsN fun _ _ _ _ _ _ us hl => match us, hl with | [_], _ => rfl
theorem F_other_end (T : Txt K mg) : FunD K "other_end" "other_end" (defArgs s_other_end) (defBody s_other_end) (defScope s_other_end) [] [] (a_other_end K) (fdOf K (a_other_end K)) := by
  obtain ⟨fd, F⟩ := T.df 4 d_other_end rfl
  rw [fd_eq F] at F
  exact F
theorem b_other_end (T : Txt K mg) : Binds K (fdOf K (a_other_end K)) ["end"] [] := (F_other_end T).bindsN fun _ _ _ _ _ _ us hl => match us, hl with | [_], _ => rfl
theorem F_want_count (T : Txt K mg) : FunD K "want_count" "want_count" (defArgs s_want_count) (defBody s_want_count) (defScope s_want_count) [] [] (a_want_count K) (fdOf K (a_want_count K)) := by
  obtain ⟨fd, F⟩ := T.df 5 d_want_count rfl
  rw [fd_eq F] at F
  exact F
theorem b_want_count (T : Txt K mg) : Binds K (fdOf K (a_want_count K)) ["value"] [] := (F_want_count T).bindsN fun _ _ _ _ _ _ us hl => match us, hl with | [_], _ => rfl
theorem F_Many_init (T : Txt K mg) : FunD K "__init__" "Many.__init__" (defArgs s_Many_init) (defBody s_Many_init) (defScope s_Many_init) [.non] [] (a_Many_init K) (fdOf K (a_Many_init K)) := by
  obtain ⟨fd, F⟩ := T.df 6 d_Many_init rfl
  rw [fd_eq F] at F
  exact F
theorem b_Many_init (T : Txt K mg) : Binds K (fdOf K (a_Many_init K)) ["self", "least", "most"] [] := by
  obtain ⟨ds, r, b⟩ := (F_Many_init T).binds1 (ps := ["self", "least", "most"]) 3 1 (by decide) rfl fun _ _ _ _ _ _ _ us its hl hi => ⟨_, rfl, match us, hl, its, hi with | [_, _, _], _, [_], _ => rfl⟩
  cases r
  exact b
theorem b1_Many_init (T : Txt K mg) : Binds K (fdOf K (a_Many_init K)) ["self", "least", "most"] [.none] := by
  obtain ⟨ds, r, b⟩ := (F_Many_init T).binds1 (ps := ["self", "least", "most"]) 2 0 (by decide) rfl fun _ _ _ _ _ _ _ us its hl hi => ⟨_, rfl, match us, hl, its, hi with | [_, _], _, [_], _ => rfl⟩
  cases r with
  | cons r t =>
    cases t
    cases (show _ = Value.none from r)
    exact b
theorem m_Many_init (T : Txt K mg) : Meth K (C_Many K) "__init__" (a_Many_init K) := He.meth_ok (T.fa 113 _ rfl)
theorem F_Many_least (T : Txt K mg) : FunD K "least" "Many.least" (defArgs s_Many_least) (defBody s_Many_least) (defScope s_Many_least) [] [] (a_Many_least K) (fdOf K (a_Many_least K)) := by
  obtain ⟨fd, F⟩ := T.df 7 d_Many_least rfl
  rw [fd_eq F] at F
  exact F
theorem b_Many_least (T : Txt K mg) : Binds K (fdOf K (a_Many_least K)) ["self"] [] := (F_Many_least T).bindsN fun _ _ _ _ _ _ us hl => match us, hl with | [_], _ => rfl
theorem po_Many_least (T : Txt K mg) : PropOf K (C_Many K) "least" (He.ma K (C_Many K) "least") (a_Many_least K) := prop_ok (T.ex 4 _ rfl)
theorem F_Many_most (T : Txt K mg) : FunD K "most" "Many.most" (defArgs s_Many_most) (defBody s_Many_most) (defScope s_Many_most) [] [] (a_Many_most K) (fdOf K (a_Many_most K)) := by
  obtain ⟨fd, F⟩ := T.df 8 d_Many_most rfl
  rw [fd_eq F] at F
  exact F
theorem b_Many_most (T : Txt K mg) : Binds K (fdOf K (a_Many_most K)) ["self"] [] := (F_Many_most T).bindsN fun _ _ _ _ _ _ us hl => match us, hl with | [_], _ => rfl
theorem po_Many_most (T : Txt K mg) : PropOf K (C_Many K) "most" (He.ma K (C_Many K) "most") (a_Many_most K) := prop_ok (T.ex 5 _ rfl)
theorem F_is_end_many (T : Txt K mg) : FunD K "is_end_many" "is_end_many" (defArgs s_is_end_many) (defBody s_is_end_many) (defScope s_is_end_many) [] [] (a_is_end_many K) (fdOf K (a_is_end_many K)) := by
  obtain ⟨fd, F⟩ := T.df 9 d_is_end_many rfl
  rw [fd_eq F] at F
  exact F
theorem b_is_end_many (T : Txt K mg) : Binds K (fdOf K (a_is_end_many K)) ["value"] [] := (F_is_end_many T).bindsN fun _ _ _ _ _ _ us hl => match us, hl with | [_], _ => rfl
theorem F_are_ends (T : Txt K mg) : FunD K "are_ends" "are_ends" (defArgs s_are_ends) (defBody s_are_ends) (defScope s_are_ends) [] [] (a_are_ends K) (fdOf K (a_are_ends K)) := by
  obtain ⟨fd, F⟩ := T.df 10 d_are_ends rfl
  rw [fd_eq F] at F
  exact F
theorem b_are_ends (T : Txt K mg) : Binds K (fdOf K (a_are_ends K)) ["value"] [] := (F_are_ends T).bindsN fun _ _ _ _ _ _ us hl => match us, hl with | [_], _ => rfl
theorem F_want_kinds (T : Txt K mg) : FunD K "want_kinds" "want_kinds" (defArgs s_want_kinds) (defBody s_want_kinds) (defScope s_want_kinds) [] [] (a_want_kinds K) (fdOf K (a_want_kinds K)) := by
  obtain ⟨fd, F⟩ := T.df 11 d_want_kinds rfl
  rw [fd_eq F] at F
  exact F
theorem b_want_kinds (T : Txt K mg) : Binds K (fdOf K (a_want_kinds K)) ["value"] [] := (F_want_kinds T).bindsN fun _ _ _ _ _ _ us hl => match us, hl with | [_], _ => rfl
theorem F_want_links (T : Txt K mg) : FunD K "want_links" "want_links" (defArgs s_want_links) (defBody s_want_links) (defScope s_want_links) [] [] (a_want_links K) (fdOf K (a_want_links K)) := by
  obtain ⟨fd, F⟩ := T.df 12 d_want_links rfl
  rw [fd_eq F] at F
  exact F
theorem b_want_links (T : Txt K mg) : Binds K (fdOf K (a_want_links K)) ["value", "kinds"] [] := (F_want_links T).bindsN fun _ _ _ _ _ _ us hl => match us, hl with | [_, _], _ => rfl
theorem F_want_few (T : Txt K mg) : FunD K "want_few" "want_few" (defArgs s_want_few) (defBody s_want_few) (defScope s_want_few) [] [] (a_want_few K) (fdOf K (a_want_few K)) := by
  obtain ⟨fd, F⟩ := T.df 13 d_want_few rfl
  rw [fd_eq F] at F
  exact F
theorem b_want_few (T : Txt K mg) : Binds K (fdOf K (a_want_few K)) ["kind_count", "link_count"] [] := (F_want_few T).bindsN fun _ _ _ _ _ _ us hl => match us, hl with | [_, _], _ => rfl
theorem F_want_model (T : Txt K mg) : FunD K "want_model" "want_model" (defArgs s_want_model) (defBody s_want_model) (defScope s_want_model) [] [] (a_want_model K) (fdOf K (a_want_model K)) := by
  obtain ⟨fd, F⟩ := T.df 14 d_want_model rfl
  rw [fd_eq F] at F
  exact F
theorem b_want_model (T : Txt K mg) : Binds K (fdOf K (a_want_model K)) ["value"] [] := (F_want_model T).bindsN fun _ _ _ _ _ _ us hl => match us, hl with | [_], _ => rfl
theorem F_want_kind (T : Txt K mg) : FunD K "want_kind" "want_kind" (defArgs s_want_kind) (defBody s_want_kind) (defScope s_want_kind) [] [] (a_want_kind K) (fdOf K (a_want_kind K)) := by
  obtain ⟨fd, F⟩ := T.df 15 d_want_kind rfl
  rw [fd_eq F] at F
  exact F
theorem b_want_kind (T : Txt K mg) : Binds K (fdOf K (a_want_kind K)) ["model", "value"] [] := (F_want_kind T).bindsN fun _ _ _ _ _ _ us hl => match us, hl with | [_, _], _ => rfl
theorem F_want_link (T : Txt K mg) : FunD K "want_link" "want_link" (defArgs s_want_link) (defBody s_want_link) (defScope s_want_link) [] [] (a_want_link K) (fdOf K (a_want_link K)) := by
  obtain ⟨fd, F⟩ := T.df 16 d_want_link rfl
  rw [fd_eq F] at F
  exact F
theorem b_want_link (T : Txt K mg) : Binds K (fdOf K (a_want_link K)) ["model", "value"] [] := (F_want_link T).bindsN fun _ _ _ _ _ _ us hl => match us, hl with | [_, _], _ => rfl
theorem F_want_end (T : Txt K mg) : FunD K "want_end" "want_end" (defArgs s_want_end) (defBody s_want_end) (defScope s_want_end) [] [] (a_want_end K) (fdOf K (a_want_end K)) := by
  obtain ⟨fd, F⟩ := T.df 17 d_want_end rfl
  rw [fd_eq F] at F
  exact F
theorem b_want_end (T : Txt K mg) : Binds K (fdOf K (a_want_end K)) ["value"] [] := (F_want_end T).bindsN fun _ _ _ _ _ _ us hl => match us, hl with | [_], _ => rfl
theorem F_Model_init (T : Txt K mg) : FunD K "__init__" "Model.__init__" (defArgs s_Model_init) (defBody s_Model_init) (defScope s_Model_init) [.non] [] (a_Model_init K) (fdOf K (a_Model_init K)) := by
  obtain ⟨fd, F⟩ := T.df 18 d_Model_init rfl
  rw [fd_eq F] at F
  exact F
theorem b_Model_init (T : Txt K mg) : Binds K (fdOf K (a_Model_init K)) ["self", "kinds", "links"] [] := by
  obtain ⟨ds, r, b⟩ := (F_Model_init T).binds1 (ps := ["self", "kinds", "links"]) 3 1 (by decide) rfl fun _ _ _ _ _ _ _ us its hl hi => ⟨_, rfl, match us, hl, its, hi with | [_, _, _], _, [_], _ => rfl⟩
  cases r
  exact b
theorem b1_Model_init (T : Txt K mg) : Binds K (fdOf K (a_Model_init K)) ["self", "kinds", "links"] [.none] := by
  obtain ⟨ds, r, b⟩ := (F_Model_init T).binds1 (ps := ["self", "kinds", "links"]) 2 0 (by decide) rfl fun _ _ _ _ _ _ _ us its hl hi => ⟨_, rfl, match us, hl, its, hi with | [_, _], _, [_], _ => rfl⟩
  cases r with
  | cons r t =>
    cases t
    cases (show _ = Value.none from r)
    exact b
theorem m_Model_init (T : Txt K mg) : Meth K (C_Model K) "__init__" (a_Model_init K) := He.meth_ok (T.fa 114 _ rfl)
theorem F_Model_kinds (T : Txt K mg) : FunD K "kinds" "Model.kinds" (defArgs s_Model_kinds) (defBody s_Model_kinds) (defScope s_Model_kinds) [] [] (a_Model_kinds K) (fdOf K (a_Model_kinds K)) := by
  obtain ⟨fd, F⟩ := T.df 19 d_Model_kinds rfl
  rw [fd_eq F] at F
  exact F
theorem b_Model_kinds (T : Txt K mg) : Binds K (fdOf K (a_Model_kinds K)) ["self"] [] := (F_Model_kinds T).bindsN fun _ _ _ _ _ _ us hl => match us, hl with | [_], _ => rfl
theorem m_Model_kinds (T : Txt K mg) : Meth K (C_Model K) "kinds" (a_Model_kinds K) := He.meth_ok (T.fa 115 _ rfl)
theorem F_Model_links (T : Txt K mg) : FunD K "links" "Model.links" (defArgs s_Model_links) (defBody s_Model_links) (defScope s_Model_links) [] [] (a_Model_links K) (fdOf K (a_Model_links K)) := by
  obtain ⟨fd, F⟩ := T.df 20 d_Model_links rfl
  rw [fd_eq F] at F
  exact F
theorem b_Model_links (T : Txt K mg) : Binds K (fdOf K (a_Model_links K)) ["self"] [] := (F_Model_links T).bindsN fun _ _ _ _ _ _ us hl => match us, hl with | [_], _ => rfl
theorem m_Model_links (T : Txt K mg) : Meth K (C_Model K) "links" (a_Model_links K) := He.meth_ok (T.fa 116 _ rfl)
theorem F_Model_kind_at (T : Txt K mg) : FunD K "kind_at" "Model.kind_at" (defArgs s_Model_kind_at) (defBody s_Model_kind_at) (defScope s_Model_kind_at) [] [] (a_Model_kind_at K) (fdOf K (a_Model_kind_at K)) := by
  obtain ⟨fd, F⟩ := T.df 21 d_Model_kind_at rfl
  rw [fd_eq F] at F
  exact F
theorem b_Model_kind_at (T : Txt K mg) : Binds K (fdOf K (a_Model_kind_at K)) ["self", "link", "end"] [] := (F_Model_kind_at T).bindsN fun _ _ _ _ _ _ us hl => match us, hl with | [_, _, _], _ => rfl
theorem m_Model_kind_at (T : Txt K mg) : Meth K (C_Model K) "kind_at" (a_Model_kind_at K) := He.meth_ok (T.fa 117 _ rfl)
theorem F_Model_many_at (T : Txt K mg) : FunD K "many_at" "Model.many_at" (defArgs s_Model_many_at) (defBody s_Model_many_at) (defScope s_Model_many_at) [] [] (a_Model_many_at K) (fdOf K (a_Model_many_at K)) := by
  obtain ⟨fd, F⟩ := T.df 22 d_Model_many_at rfl
  rw [fd_eq F] at F
  exact F
theorem b_Model_many_at (T : Txt K mg) : Binds K (fdOf K (a_Model_many_at K)) ["self", "link", "end"] [] := (F_Model_many_at T).bindsN fun _ _ _ _ _ _ us hl => match us, hl with | [_, _, _], _ => rfl
theorem m_Model_many_at (T : Txt K mg) : Meth K (C_Model K) "many_at" (a_Model_many_at K) := He.meth_ok (T.fa 118 _ rfl)
theorem F_Model_contains (T : Txt K mg) : FunD K "__contains__" "Model.__contains__" (defArgs s_Model_contains) (defBody s_Model_contains) (defScope s_Model_contains) [] [] (a_Model_contains K) (fdOf K (a_Model_contains K)) := by
  obtain ⟨fd, F⟩ := T.df 23 d_Model_contains rfl
  rw [fd_eq F] at F
  exact F
theorem b_Model_contains (T : Txt K mg) : Binds K (fdOf K (a_Model_contains K)) ["self", "value"] [] := (F_Model_contains T).bindsN fun _ _ _ _ _ _ us hl => match us, hl with | [_, _], _ => rfl
theorem m_Model_contains (T : Txt K mg) : Meth K (C_Model K) "__contains__" (a_Model_contains K) := He.meth_ok (T.fa 119 _ rfl)
theorem oo_Model_contains (T : Txt K mg) : Dn.OwnOp K (C_Model K) "__contains__" (a_Model_contains K) := ⟨(m_Model_contains T).at_, (m_Model_contains T).fn⟩
theorem F_are_counts (T : Txt K mg) : FunD K "are_counts" "are_counts" (defArgs s_are_counts) (defBody s_are_counts) (defScope s_are_counts) [] [] (a_are_counts K) (fdOf K (a_are_counts K)) := by
  obtain ⟨fd, F⟩ := T.df 24 d_are_counts rfl
  rw [fd_eq F] at F
  exact F
theorem b_are_counts (T : Txt K mg) : Binds K (fdOf K (a_are_counts K)) ["value"] [] := (F_are_counts T).bindsN fun _ _ _ _ _ _ us hl => match us, hl with | [_], _ => rfl
theorem F_Sizes_init (T : Txt K mg) : FunD K "__init__" "Sizes.__init__" (defArgs s_Sizes_init) (defBody s_Sizes_init) (defScope s_Sizes_init) [] [] (a_Sizes_init K) (fdOf K (a_Sizes_init K)) := by
  obtain ⟨fd, F⟩ := T.df 25 d_Sizes_init rfl
  rw [fd_eq F] at F
  exact F
theorem b_Sizes_init (T : Txt K mg) : Binds K (fdOf K (a_Sizes_init K)) ["self", "counts"] [] := (F_Sizes_init T).bindsN fun _ _ _ _ _ _ us hl => match us, hl with | [_, _], _ => rfl
theorem m_Sizes_init (T : Txt K mg) : Meth K (C_Sizes K) "__init__" (a_Sizes_init K) := He.meth_ok (T.fa 120 _ rfl)
theorem F_Sizes_counts (T : Txt K mg) : FunD K "counts" "Sizes.counts" (defArgs s_Sizes_counts) (defBody s_Sizes_counts) (defScope s_Sizes_counts) [] [] (a_Sizes_counts K) (fdOf K (a_Sizes_counts K)) := by
  obtain ⟨fd, F⟩ := T.df 26 d_Sizes_counts rfl
  rw [fd_eq F] at F
  exact F
theorem b_Sizes_counts (T : Txt K mg) : Binds K (fdOf K (a_Sizes_counts K)) ["self"] [] := (F_Sizes_counts T).bindsN fun _ _ _ _ _ _ us hl => match us, hl with | [_], _ => rfl
theorem m_Sizes_counts (T : Txt K mg) : Meth K (C_Sizes K) "counts" (a_Sizes_counts K) := He.meth_ok (T.fa 121 _ rfl)
theorem F_Sizes_getitem (T : Txt K mg) : FunD K "__getitem__" "Sizes.__getitem__" (defArgs s_Sizes_getitem) (defBody s_Sizes_getitem) (defScope s_Sizes_getitem) [] [] (a_Sizes_getitem K) (fdOf K (a_Sizes_getitem K)) := by
  obtain ⟨fd, F⟩ := T.df 27 d_Sizes_getitem rfl
  rw [fd_eq F] at F
  exact F
theorem b_Sizes_getitem (T : Txt K mg) : Binds K (fdOf K (a_Sizes_getitem K)) ["self", "kind"] [] := (F_Sizes_getitem T).bindsN fun _ _ _ _ _ _ us hl => match us, hl with | [_, _], _ => rfl
theorem m_Sizes_getitem (T : Txt K mg) : Meth K (C_Sizes K) "__getitem__" (a_Sizes_getitem K) := He.meth_ok (T.fa 122 _ rfl)
theorem oo_Sizes_getitem (T : Txt K mg) : Dn.OwnOp K (C_Sizes K) "__getitem__" (a_Sizes_getitem K) := ⟨(m_Sizes_getitem T).at_, (m_Sizes_getitem T).fn⟩
theorem F_Sizes_contains (T : Txt K mg) : FunD K "__contains__" "Sizes.__contains__" (defArgs s_Sizes_contains) (defBody s_Sizes_contains) (defScope s_Sizes_contains) [] [] (a_Sizes_contains K) (fdOf K (a_Sizes_contains K)) := by
  obtain ⟨fd, F⟩ := T.df 28 d_Sizes_contains rfl
  rw [fd_eq F] at F
  exact F
theorem b_Sizes_contains (T : Txt K mg) : Binds K (fdOf K (a_Sizes_contains K)) ["self", "value"] [] := (F_Sizes_contains T).bindsN fun _ _ _ _ _ _ us hl => match us, hl with | [_, _], _ => rfl
theorem m_Sizes_contains (T : Txt K mg) : Meth K (C_Sizes K) "__contains__" (a_Sizes_contains K) := He.meth_ok (T.fa 123 _ rfl)
theorem oo_Sizes_contains (T : Txt K mg) : Dn.OwnOp K (C_Sizes K) "__contains__" (a_Sizes_contains K) := ⟨(m_Sizes_contains T).at_, (m_Sizes_contains T).fn⟩
theorem F_checked_counts (T : Txt K mg) : FunD K "checked_counts" "checked_counts" (defArgs s_checked_counts) (defBody s_checked_counts) (defScope s_checked_counts) [] [] (a_checked_counts K) (fdOf K (a_checked_counts K)) := by
  obtain ⟨fd, F⟩ := T.df 29 d_checked_counts rfl
  rw [fd_eq F] at F
  exact F
theorem b_checked_counts (T : Txt K mg) : Binds K (fdOf K (a_checked_counts K)) ["model", "value"] [] := (F_checked_counts T).bindsN fun _ _ _ _ _ _ us hl => match us, hl with | [_, _], _ => rfl
theorem F_sizes_for (T : Txt K mg) : FunD K "sizes_for" "sizes_for" (defArgs s_sizes_for) (defBody s_sizes_for) (defScope s_sizes_for) [] [] (a_sizes_for K) (fdOf K (a_sizes_for K)) := by
  obtain ⟨fd, F⟩ := T.df 30 d_sizes_for rfl
  rw [fd_eq F] at F
  exact F
theorem b_sizes_for (T : Txt K mg) : Binds K (fdOf K (a_sizes_for K)) ["model", "value"] [] := (F_sizes_for T).bindsN fun _ _ _ _ _ _ us hl => match us, hl with | [_, _], _ => rfl
theorem F_Stream_init (T : Txt K mg) : FunD K "__init__" "Stream.__init__" (defArgs s_Stream_init) (defBody s_Stream_init) (defScope s_Stream_init) [] [] (a_Stream_init K) (fdOf K (a_Stream_init K)) := by
  obtain ⟨fd, F⟩ := T.df 31 d_Stream_init rfl
  rw [fd_eq F] at F
  exact F
theorem b_Stream_init (T : Txt K mg) : Binds K (fdOf K (a_Stream_init K)) ["self", "needs", "rooms", "caps"] [] := (F_Stream_init T).bindsN fun _ _ _ _ _ _ us hl => match us, hl with | [_, _, _, _], _ => rfl
theorem m_Stream_init (T : Txt K mg) : Meth K (C_Stream K) "__init__" (a_Stream_init K) := He.meth_ok (T.fa 124 _ rfl)
theorem F_Stream_row_left (T : Txt K mg) : FunD K "row_left" "Stream.row_left" (defArgs s_Stream_row_left) (defBody s_Stream_row_left) (defScope s_Stream_row_left) [] [] (a_Stream_row_left K) (fdOf K (a_Stream_row_left K)) := by
  obtain ⟨fd, F⟩ := T.df 32 d_Stream_row_left rfl
  rw [fd_eq F] at F
  exact F
theorem b_Stream_row_left (T : Txt K mg) : Binds K (fdOf K (a_Stream_row_left K)) ["self", "row"] [] := (F_Stream_row_left T).bindsN fun _ _ _ _ _ _ us hl => match us, hl with | [_, _], _ => rfl
theorem m_Stream_row_left (T : Txt K mg) : Meth K (C_Stream K) "row_left" (a_Stream_row_left K) := He.meth_ok (T.fa 125 _ rfl)
theorem F_Stream_column_left (T : Txt K mg) : FunD K "column_left" "Stream.column_left" (defArgs s_Stream_column_left) (defBody s_Stream_column_left) (defScope s_Stream_column_left) [] [] (a_Stream_column_left K) (fdOf K (a_Stream_column_left K)) := by
  obtain ⟨fd, F⟩ := T.df 33 d_Stream_column_left rfl
  rw [fd_eq F] at F
  exact F
theorem b_Stream_column_left (T : Txt K mg) : Binds K (fdOf K (a_Stream_column_left K)) ["self", "column"] [] := (F_Stream_column_left T).bindsN fun _ _ _ _ _ _ us hl => match us, hl with | [_, _], _ => rfl
theorem m_Stream_column_left (T : Txt K mg) : Meth K (C_Stream K) "column_left" (a_Stream_column_left K) := He.meth_ok (T.fa 126 _ rfl)
theorem F_Stream_next_nodes (T : Txt K mg) : FunD K "next_nodes" "Stream.next_nodes" (defArgs s_Stream_next_nodes) (defBody s_Stream_next_nodes) (defScope s_Stream_next_nodes) [] [] (a_Stream_next_nodes K) (fdOf K (a_Stream_next_nodes K)) := by
  obtain ⟨fd, F⟩ := T.df 34 d_Stream_next_nodes rfl
  rw [fd_eq F] at F
  exact F
theorem b_Stream_next_nodes (T : Txt K mg) : Binds K (fdOf K (a_Stream_next_nodes K)) ["self", "side", "place"] [] := (F_Stream_next_nodes T).bindsN fun _ _ _ _ _ _ us hl => match us, hl with | [_, _, _], _ => rfl
theorem m_Stream_next_nodes (T : Txt K mg) : Meth K (C_Stream K) "next_nodes" (a_Stream_next_nodes K) := He.meth_ok (T.fa 127 _ rfl)
theorem F_Stream_searched (T : Txt K mg) : FunD K "searched" "Stream.searched" (defArgs s_Stream_searched) (defBody s_Stream_searched) (defScope s_Stream_searched) [] [] (a_Stream_searched K) (fdOf K (a_Stream_searched K)) := by
  obtain ⟨fd, F⟩ := T.df 35 d_Stream_searched rfl
  rw [fd_eq F] at F
  exact F
theorem b_Stream_searched (T : Txt K mg) : Binds K (fdOf K (a_Stream_searched K)) ["self"] [] := (F_Stream_searched T).bindsN fun _ _ _ _ _ _ us hl => match us, hl with | [_], _ => rfl
theorem m_Stream_searched (T : Txt K mg) : Meth K (C_Stream K) "searched" (a_Stream_searched K) := He.meth_ok (T.fa 128 _ rfl)
theorem F_Stream_push (T : Txt K mg) : FunD K "push" "Stream.push" (defArgs s_Stream_push) (defBody s_Stream_push) (defScope s_Stream_push) [] [] (a_Stream_push K) (fdOf K (a_Stream_push K)) := by
  obtain ⟨fd, F⟩ := T.df 36 d_Stream_push rfl
  rw [fd_eq F] at F
  exact F
theorem b_Stream_push (T : Txt K mg) : Binds K (fdOf K (a_Stream_push K)) ["self", "came", "column"] [] := (F_Stream_push T).bindsN fun _ _ _ _ _ _ us hl => match us, hl with | [_, _, _], _ => rfl
theorem m_Stream_push (T : Txt K mg) : Meth K (C_Stream K) "push" (a_Stream_push K) := He.meth_ok (T.fa 129 _ rfl)
theorem F_Stream_fill (T : Txt K mg) : FunD K "fill" "Stream.fill" (defArgs s_Stream_fill) (defBody s_Stream_fill) (defScope s_Stream_fill) [] [] (a_Stream_fill K) (fdOf K (a_Stream_fill K)) := by
  obtain ⟨fd, F⟩ := T.df 37 d_Stream_fill rfl
  rw [fd_eq F] at F
  exact F
theorem b_Stream_fill (T : Txt K mg) : Binds K (fdOf K (a_Stream_fill K)) ["self"] [] := (F_Stream_fill T).bindsN fun _ _ _ _ _ _ us hl => match us, hl with | [_], _ => rfl
theorem m_Stream_fill (T : Txt K mg) : Meth K (C_Stream K) "fill" (a_Stream_fill K) := He.meth_ok (T.fa 130 _ rfl)
theorem F_Demand_init (T : Txt K mg) : FunD K "__init__" "Demand.__init__" (defArgs s_Demand_init) (defBody s_Demand_init) (defScope s_Demand_init) [] [] (a_Demand_init K) (fdOf K (a_Demand_init K)) := by
  obtain ⟨fd, F⟩ := T.df 38 d_Demand_init rfl
  rw [fd_eq F] at F
  exact F
theorem b_Demand_init (T : Txt K mg) : Binds K (fdOf K (a_Demand_init K)) ["self", "told", "link", "end"] [] := (F_Demand_init T).bindsN fun _ _ _ _ _ _ us hl => match us, hl with | [_, _, _, _], _ => rfl
theorem m_Demand_init (T : Txt K mg) : Meth K (C_Demand K) "__init__" (a_Demand_init K) := He.meth_ok (T.fa 131 _ rfl)
theorem F_Demand_need (T : Txt K mg) : FunD K "need" "Demand.need" (defArgs s_Demand_need) (defBody s_Demand_need) (defScope s_Demand_need) [] [] (a_Demand_need K) (fdOf K (a_Demand_need K)) := by
  obtain ⟨fd, F⟩ := T.df 39 d_Demand_need rfl
  rw [fd_eq F] at F
  exact F
theorem b_Demand_need (T : Txt K mg) : Binds K (fdOf K (a_Demand_need K)) ["self", "name"] [] := (F_Demand_need T).bindsN fun _ _ _ _ _ _ us hl => match us, hl with | [_, _], _ => rfl
theorem m_Demand_need (T : Txt K mg) : Meth K (C_Demand K) "need" (a_Demand_need K) := He.meth_ok (T.fa 132 _ rfl)
theorem F_Demand_room_at (T : Txt K mg) : FunD K "room_at" "Demand.room_at" (defArgs s_Demand_room_at) (defBody s_Demand_room_at) (defScope s_Demand_room_at) [] [] (a_Demand_room_at K) (fdOf K (a_Demand_room_at K)) := by
  obtain ⟨fd, F⟩ := T.df 40 d_Demand_room_at rfl
  rw [fd_eq F] at F
  exact F
theorem b_Demand_room_at (T : Txt K mg) : Binds K (fdOf K (a_Demand_room_at K)) ["self", "other", "most"] [] := (F_Demand_room_at T).bindsN fun _ _ _ _ _ _ us hl => match us, hl with | [_, _, _], _ => rfl
theorem m_Demand_room_at (T : Txt K mg) : Meth K (C_Demand K) "room_at" (a_Demand_room_at K) := He.meth_ok (T.fa 133 _ rfl)
theorem F_Demand_new_room (T : Txt K mg) : FunD K "new_room" "Demand.new_room" (defArgs s_Demand_new_room) (defBody s_Demand_new_room) (defScope s_Demand_new_room) [] [] (a_Demand_new_room K) (fdOf K (a_Demand_new_room K)) := by
  obtain ⟨fd, F⟩ := T.df 41 d_Demand_new_room rfl
  rw [fd_eq F] at F
  exact F
theorem b_Demand_new_room (T : Txt K mg) : Binds K (fdOf K (a_Demand_new_room K)) ["self", "most"] [] := (F_Demand_new_room T).bindsN fun _ _ _ _ _ _ us hl => match us, hl with | [_, _], _ => rfl
theorem m_Demand_new_room (T : Txt K mg) : Meth K (C_Demand K) "new_room" (a_Demand_new_room K) := He.meth_ok (T.fa 134 _ rfl)
theorem F_Demand_stream (T : Txt K mg) : FunD K "stream" "Demand.stream" (defArgs s_Demand_stream) (defBody s_Demand_stream) (defScope s_Demand_stream) [] [] (a_Demand_stream K) (fdOf K (a_Demand_stream K)) := by
  obtain ⟨fd, F⟩ := T.df 42 d_Demand_stream rfl
  rw [fd_eq F] at F
  exact F
theorem b_Demand_stream (T : Txt K mg) : Binds K (fdOf K (a_Demand_stream K)) ["self", "mine", "others"] [] := (F_Demand_stream T).bindsN fun _ _ _ _ _ _ us hl => match us, hl with | [_, _, _], _ => rfl
theorem m_Demand_stream (T : Txt K mg) : Meth K (C_Demand K) "stream" (a_Demand_stream K) := He.meth_ok (T.fa 135 _ rfl)
theorem F_Demand_lack (T : Txt K mg) : FunD K "lack" "Demand.lack" (defArgs s_Demand_lack) (defBody s_Demand_lack) (defScope s_Demand_lack) [] [] (a_Demand_lack K) (fdOf K (a_Demand_lack K)) := by
  obtain ⟨fd, F⟩ := T.df 43 d_Demand_lack rfl
  rw [fd_eq F] at F
  exact F
theorem b_Demand_lack (T : Txt K mg) : Binds K (fdOf K (a_Demand_lack K)) ["self", "names", "mine"] [] := (F_Demand_lack T).bindsN fun _ _ _ _ _ _ us hl => match us, hl with | [_, _, _], _ => rfl
theorem m_Demand_lack (T : Txt K mg) : Meth K (C_Demand K) "lack" (a_Demand_lack K) := He.meth_ok (T.fa 136 _ rfl)
theorem F_Demand_offer (T : Txt K mg) : FunD K "offer" "Demand.offer" (defArgs s_Demand_offer) (defBody s_Demand_offer) (defScope s_Demand_offer) [] [] (a_Demand_offer K) (fdOf K (a_Demand_offer K)) := by
  obtain ⟨fd, F⟩ := T.df 44 d_Demand_offer rfl
  rw [fd_eq F] at F
  exact F
theorem b_Demand_offer (T : Txt K mg) : Binds K (fdOf K (a_Demand_offer K)) ["self", "names", "mine"] [] := (F_Demand_offer T).bindsN fun _ _ _ _ _ _ us hl => match us, hl with | [_, _, _], _ => rfl
theorem m_Demand_offer (T : Txt K mg) : Meth K (C_Demand K) "offer" (a_Demand_offer K) := He.meth_ok (T.fa 137 _ rfl)
theorem F_Demand_is_too_much (T : Txt K mg) : FunD K "is_too_much" "Demand.is_too_much" (defArgs s_Demand_is_too_much) (defBody s_Demand_is_too_much) (defScope s_Demand_is_too_much) [] [] (a_Demand_is_too_much K) (fdOf K (a_Demand_is_too_much K)) := by
  obtain ⟨fd, F⟩ := T.df 45 d_Demand_is_too_much rfl
  rw [fd_eq F] at F
  exact F
theorem b_Demand_is_too_much (T : Txt K mg) : Binds K (fdOf K (a_Demand_is_too_much K)) ["self", "names", "mine", "others"] [] := (F_Demand_is_too_much T).bindsN fun _ _ _ _ _ _ us hl => match us, hl with | [_, _, _, _], _ => rfl
theorem m_Demand_is_too_much (T : Txt K mg) : Meth K (C_Demand K) "is_too_much" (a_Demand_is_too_much K) := He.meth_ok (T.fa 138 _ rfl)
theorem F_Demand_cut (T : Txt K mg) : FunD K "cut" "Demand.cut" (defArgs s_Demand_cut) (defBody s_Demand_cut) (defScope s_Demand_cut) [] [] (a_Demand_cut K) (fdOf K (a_Demand_cut K)) := by
  obtain ⟨fd, F⟩ := T.df 46 d_Demand_cut rfl
  rw [fd_eq F] at F
  exact F
theorem b_Demand_cut (T : Txt K mg) : Binds K (fdOf K (a_Demand_cut K)) ["self", "mine", "others"] [] := (F_Demand_cut T).bindsN fun _ _ _ _ _ _ us hl => match us, hl with | [_, _, _], _ => rfl
theorem m_Demand_cut (T : Txt K mg) : Meth K (C_Demand K) "cut" (a_Demand_cut K) := He.meth_ok (T.fa 139 _ rfl)
theorem F_is_row_of (T : Txt K mg) : FunD K "is_row_of" "is_row_of" (defArgs s_is_row_of) (defBody s_is_row_of) (defScope s_is_row_of) [] [] (a_is_row_of K) (fdOf K (a_is_row_of K)) := by
  obtain ⟨fd, F⟩ := T.df 47 d_is_row_of rfl
  rw [fd_eq F] at F
  exact F
theorem b_is_row_of (T : Txt K mg) : Binds K (fdOf K (a_is_row_of K)) ["model", "value"] [] := (F_is_row_of T).bindsN fun _ _ _ _ _ _ us hl => match us, hl with | [_, _], _ => rfl
theorem F_wrong_pair (T : Txt K mg) : FunD K "wrong_pair" "wrong_pair" (defArgs s_wrong_pair) (defBody s_wrong_pair) (defScope s_wrong_pair) [] [] (a_wrong_pair K) (fdOf K (a_wrong_pair K)) := by
  obtain ⟨fd, F⟩ := T.df 48 d_wrong_pair rfl
  rw [fd_eq F] at F
  exact F
theorem b_wrong_pair (T : Txt K mg) : Binds K (fdOf K (a_wrong_pair K)) ["pairs", "near", "far"] [] := (F_wrong_pair T).bindsN fun _ _ _ _ _ _ us hl => match us, hl with | [_, _, _], _ => rfl
theorem F_Told_init (T : Txt K mg) : FunD K "__init__" "Told.__init__" (defArgs s_Told_init) (defBody s_Told_init) (defScope s_Told_init) [] [] (a_Told_init K) (fdOf K (a_Told_init K)) := by
  obtain ⟨fd, F⟩ := T.df 49 d_Told_init rfl
  rw [fd_eq F] at F
  exact F
theorem b_Told_init (T : Txt K mg) : Binds K (fdOf K (a_Told_init K)) ["self", "model"] [] := (F_Told_init T).bindsN fun _ _ _ _ _ _ us hl => match us, hl with | [_, _], _ => rfl
theorem m_Told_init (T : Txt K mg) : Meth K (C_Told K) "__init__" (a_Told_init K) := He.meth_ok (T.fa 140 _ rfl)
theorem F_Told_model (T : Txt K mg) : FunD K "model" "Told.model" (defArgs s_Told_model) (defBody s_Told_model) (defScope s_Told_model) [] [] (a_Told_model K) (fdOf K (a_Told_model K)) := by
  obtain ⟨fd, F⟩ := T.df 50 d_Told_model rfl
  rw [fd_eq F] at F
  exact F
theorem b_Told_model (T : Txt K mg) : Binds K (fdOf K (a_Told_model K)) ["self"] [] := (F_Told_model T).bindsN fun _ _ _ _ _ _ us hl => match us, hl with | [_], _ => rfl
theorem po_Told_model (T : Txt K mg) : PropOf K (C_Told K) "model" (He.ma K (C_Told K) "model") (a_Told_model K) := prop_ok (T.ex 6 _ rfl)
theorem F_Told_set_wished (T : Txt K mg) : FunD K "set_wished" "Told.set_wished" (defArgs s_Told_set_wished) (defBody s_Told_set_wished) (defScope s_Told_set_wished) [] [] (a_Told_set_wished K) (fdOf K (a_Told_set_wished K)) := by
  obtain ⟨fd, F⟩ := T.df 51 d_Told_set_wished rfl
  rw [fd_eq F] at F
  exact F
theorem b_Told_set_wished (T : Txt K mg) : Binds K (fdOf K (a_Told_set_wished K)) ["self", "sizes"] [] := (F_Told_set_wished T).bindsN fun _ _ _ _ _ _ us hl => match us, hl with | [_, _], _ => rfl
theorem m_Told_set_wished (T : Txt K mg) : Meth K (C_Told K) "set_wished" (a_Told_set_wished K) := He.meth_ok (T.fa 141 _ rfl)
theorem F_Told_iadd (T : Txt K mg) : FunD K "__iadd__" "Told.__iadd__" (defArgs s_Told_iadd) (defBody s_Told_iadd) (defScope s_Told_iadd) [] [] (a_Told_iadd K) (fdOf K (a_Told_iadd K)) := by
  obtain ⟨fd, F⟩ := T.df 52 d_Told_iadd rfl
  rw [fd_eq F] at F
  exact F
theorem b_Told_iadd (T : Txt K mg) : Binds K (fdOf K (a_Told_iadd K)) ["self", "other"] [] := (F_Told_iadd T).bindsN fun _ _ _ _ _ _ us hl => match us, hl with | [_, _], _ => rfl
theorem m_Told_iadd (T : Txt K mg) : Meth K (C_Told K) "__iadd__" (a_Told_iadd K) := He.meth_ok (T.fa 142 _ rfl)
theorem oo_Told_iadd (T : Txt K mg) : Dn.OwnOp K (C_Told K) "__iadd__" (a_Told_iadd K) := ⟨(m_Told_iadd T).at_, (m_Told_iadd T).fn⟩
theorem F_Told_setitem (T : Txt K mg) : FunD K "__setitem__" "Told.__setitem__" (defArgs s_Told_setitem) (defBody s_Told_setitem) (defScope s_Told_setitem) [] [] (a_Told_setitem K) (fdOf K (a_Told_setitem K)) := by
  obtain ⟨fd, F⟩ := T.df 53 d_Told_setitem rfl
  rw [fd_eq F] at F
  exact F
theorem b_Told_setitem (T : Txt K mg) : Binds K (fdOf K (a_Told_setitem K)) ["self", "at", "worth"] [] := (F_Told_setitem T).bindsN fun _ _ _ _ _ _ us hl => match us, hl with | [_, _, _], _ => rfl
theorem m_Told_setitem (T : Txt K mg) : Meth K (C_Told K) "__setitem__" (a_Told_setitem K) := He.meth_ok (T.fa 143 _ rfl)
theorem oo_Told_setitem (T : Txt K mg) : Dn.OwnOp K (C_Told K) "__setitem__" (a_Told_setitem K) := ⟨(m_Told_setitem T).at_, (m_Told_setitem T).fn⟩
theorem F_Told_getitem (T : Txt K mg) : FunD K "__getitem__" "Told.__getitem__" (defArgs s_Told_getitem) (defBody s_Told_getitem) (defScope s_Told_getitem) [] [] (a_Told_getitem K) (fdOf K (a_Told_getitem K)) := by
  obtain ⟨fd, F⟩ := T.df 54 d_Told_getitem rfl
  rw [fd_eq F] at F
  exact F
theorem b_Told_getitem (T : Txt K mg) : Binds K (fdOf K (a_Told_getitem K)) ["self", "at"] [] := (F_Told_getitem T).bindsN fun _ _ _ _ _ _ us hl => match us, hl with | [_, _], _ => rfl
theorem m_Told_getitem (T : Txt K mg) : Meth K (C_Told K) "__getitem__" (a_Told_getitem K) := He.meth_ok (T.fa 144 _ rfl)
theorem oo_Told_getitem (T : Txt K mg) : Dn.OwnOp K (C_Told K) "__getitem__" (a_Told_getitem K) := ⟨(m_Told_getitem T).at_, (m_Told_getitem T).fn⟩
theorem F_Told_contains (T : Txt K mg) : FunD K "__contains__" "Told.__contains__" (defArgs s_Told_contains) (defBody s_Told_contains) (defScope s_Told_contains) [] [] (a_Told_contains K) (fdOf K (a_Told_contains K)) := by
  obtain ⟨fd, F⟩ := T.df 55 d_Told_contains rfl
  rw [fd_eq F] at F
  exact F
theorem b_Told_contains (T : Txt K mg) : Binds K (fdOf K (a_Told_contains K)) ["self", "x"] [] := (F_Told_contains T).bindsN fun _ _ _ _ _ _ us hl => match us, hl with | [_, _], _ => rfl
theorem m_Told_contains (T : Txt K mg) : Meth K (C_Told K) "__contains__" (a_Told_contains K) := He.meth_ok (T.fa 145 _ rfl)
theorem oo_Told_contains (T : Txt K mg) : Dn.OwnOp K (C_Told K) "__contains__" (a_Told_contains K) := ⟨(m_Told_contains T).at_, (m_Told_contains T).fn⟩
theorem F_Told_rows (T : Txt K mg) : FunD K "rows" "Told.rows" (defArgs s_Told_rows) (defBody s_Told_rows) (defScope s_Told_rows) [] [] (a_Told_rows K) (fdOf K (a_Told_rows K)) := by
  obtain ⟨fd, F⟩ := T.df 56 d_Told_rows rfl
  rw [fd_eq F] at F
  exact F
theorem b_Told_rows (T : Txt K mg) : Binds K (fdOf K (a_Told_rows K)) ["self", "kind"] [] := (F_Told_rows T).bindsN fun _ _ _ _ _ _ us hl => match us, hl with | [_, _], _ => rfl
theorem m_Told_rows (T : Txt K mg) : Meth K (C_Told K) "rows" (a_Told_rows K) := He.meth_ok (T.fa 146 _ rfl)
theorem F_Told_degree (T : Txt K mg) : FunD K "degree" "Told.degree" (defArgs s_Told_degree) (defBody s_Told_degree) (defScope s_Told_degree) [] [] (a_Told_degree K) (fdOf K (a_Told_degree K)) := by
  obtain ⟨fd, F⟩ := T.df 57 d_Told_degree rfl
  rw [fd_eq F] at F
  exact F
theorem b_Told_degree (T : Txt K mg) : Binds K (fdOf K (a_Told_degree K)) ["self", "link", "end", "name"] [] := (F_Told_degree T).bindsN fun _ _ _ _ _ _ us hl => match us, hl with | [_, _, _, _], _ => rfl
theorem m_Told_degree (T : Txt K mg) : Meth K (C_Told K) "degree" (a_Told_degree K) := He.meth_ok (T.fa 147 _ rfl)
theorem F_want_told (T : Txt K mg) : FunD K "want_told" "want_told" (defArgs s_want_told) (defBody s_want_told) (defScope s_want_told) [] [] (a_want_told K) (fdOf K (a_want_told K)) := by
  obtain ⟨fd, F⟩ := T.df 58 d_want_told rfl
  rw [fd_eq F] at F
  exact F
theorem b_want_told (T : Txt K mg) : Binds K (fdOf K (a_want_told K)) ["value"] [] := (F_want_told T).bindsN fun _ _ _ _ _ _ us hl => match us, hl with | [_], _ => rfl
theorem F_past_row (T : Txt K mg) : FunD K "past_row" "past_row" (defArgs s_past_row) (defBody s_past_row) (defScope s_past_row) [] [] (a_past_row K) (fdOf K (a_past_row K)) := by
  obtain ⟨fd, F⟩ := T.df 59 d_past_row rfl
  rw [fd_eq F] at F
  exact F
theorem b_past_row (T : Txt K mg) : Binds K (fdOf K (a_past_row K)) ["told"] [] := (F_past_row T).bindsN fun _ _ _ _ _ _ us hl => match us, hl with | [_], _ => rfl
theorem F_new_counts (T : Txt K mg) : FunD K "new_counts" "new_counts" (defArgs s_new_counts) (defBody s_new_counts) (defScope s_new_counts) [] [] (a_new_counts K) (fdOf K (a_new_counts K)) := by
  obtain ⟨fd, F⟩ := T.df 60 d_new_counts rfl
  rw [fd_eq F] at F
  exact F
theorem b_new_counts (T : Txt K mg) : Binds K (fdOf K (a_new_counts K)) ["told", "sizes"] [] := (F_new_counts T).bindsN fun _ _ _ _ _ _ us hl => match us, hl with | [_, _], _ => rfl
theorem F_found_cut (T : Txt K mg) : FunD K "found_cut" "found_cut" (defArgs s_found_cut) (defBody s_found_cut) (defScope s_found_cut) [] [] (a_found_cut K) (fdOf K (a_found_cut K)) := by
  obtain ⟨fd, F⟩ := T.df 61 d_found_cut rfl
  rw [fd_eq F] at F
  exact F
theorem b_found_cut (T : Txt K mg) : Binds K (fdOf K (a_found_cut K)) ["told", "news", "link", "end"] [] := (F_found_cut T).bindsN fun _ _ _ _ _ _ us hl => match us, hl with | [_, _, _, _], _ => rfl
theorem F_fits_sizes (T : Txt K mg) : FunD K "fits_sizes" "fits_sizes" (defArgs s_fits_sizes) (defBody s_fits_sizes) (defScope s_fits_sizes) [] [] (a_fits_sizes K) (fdOf K (a_fits_sizes K)) := by
  obtain ⟨fd, F⟩ := T.df 62 d_fits_sizes rfl
  rw [fd_eq F] at F
  exact F
theorem b_fits_sizes (T : Txt K mg) : Binds K (fdOf K (a_fits_sizes K)) ["told", "sizes"] [] := (F_fits_sizes T).bindsN fun _ _ _ _ _ _ us hl => match us, hl with | [_, _], _ => rfl
theorem F_checked_news (T : Txt K mg) : FunD K "checked_news" "checked_news" (defArgs s_checked_news) (defBody s_checked_news) (defScope s_checked_news) [] [] (a_checked_news K) (fdOf K (a_checked_news K)) := by
  obtain ⟨fd, F⟩ := T.df 63 d_checked_news rfl
  rw [fd_eq F] at F
  exact F
theorem b_checked_news (T : Txt K mg) : Binds K (fdOf K (a_checked_news K)) ["told", "sizes", "link", "end"] [] := (F_checked_news T).bindsN fun _ _ _ _ _ _ us hl => match us, hl with | [_, _, _, _], _ => rfl
theorem F_cut_of (T : Txt K mg) : FunD K "cut_of" "cut_of" (defArgs s_cut_of) (defBody s_cut_of) (defScope s_cut_of) [] [] (a_cut_of K) (fdOf K (a_cut_of K)) := by
  obtain ⟨fd, F⟩ := T.df 64 d_cut_of rfl
  rw [fd_eq F] at F
  exact F
theorem b_cut_of (T : Txt K mg) : Binds K (fdOf K (a_cut_of K)) ["told", "sizes", "link", "end"] [] := (F_cut_of T).bindsN fun _ _ _ _ _ _ us hl => match us, hl with | [_, _, _, _], _ => rfl
theorem F_is_cut (T : Txt K mg) : FunD K "is_cut" "is_cut" (defArgs s_is_cut) (defBody s_is_cut) (defScope s_is_cut) [] [] (a_is_cut K) (fdOf K (a_is_cut K)) := by
  obtain ⟨fd, F⟩ := T.df 65 d_is_cut rfl
  rw [fd_eq F] at F
  exact F
theorem b_is_cut (T : Txt K mg) : Binds K (fdOf K (a_is_cut K)) ["told", "sizes", "link", "end", "value"] [] := (F_is_cut T).bindsN fun _ _ _ _ _ _ us hl => match us, hl with | [_, _, _, _, _], _ => rfl
theorem F_l_rng (T : Txt K mg) : FunD K "_law_rng" "_law_rng" (defArgs s_l_rng) (defBody s_l_rng) (defScope s_l_rng) [] [] (a_l_rng K) (fdOf K (a_l_rng K)) := by
  obtain ⟨fd, F⟩ := T.df 66 d_l_rng rfl
  rw [fd_eq F] at F
  exact F
theorem b_l_rng (T : Txt K mg) : Binds K (fdOf K (a_l_rng K)) ["_law_script", "_law_k"] [] := (F_l_rng T).bindsN fun _ _ _ _ _ _ us hl => match us, hl with | [_, _], _ => rfl
theorem F_l_draw (T : Txt K mg) : FunD K "_law_draw" "_law_draw" (defArgs s_l_draw) (defBody s_l_draw) (defScope s_l_draw) [] [] (a_l_draw K) (fdOf K (a_l_draw K)) := by
  obtain ⟨fd, F⟩ := T.df 67 d_l_draw rfl
  rw [fd_eq F] at F
  exact F
theorem b_l_draw (T : Txt K mg) : Binds K (fdOf K (a_l_draw K)) ["_law_rng_here", "_law_size"] [] := (F_l_draw T).bindsN fun _ _ _ _ _ _ us hl => match us, hl with | [_, _], _ => rfl
theorem F_l_choice (T : Txt K mg) : FunD K "_law_choice" "_law_choice" (defArgs s_l_choice) (defBody s_l_choice) (defScope s_l_choice) [] [] (a_l_choice K) (fdOf K (a_l_choice K)) := by
  obtain ⟨fd, F⟩ := T.df 68 d_l_choice rfl
  rw [fd_eq F] at F
  exact F
theorem b_l_choice (T : Txt K mg) : Binds K (fdOf K (a_l_choice K)) ["_law_rng_here", "_law_some"] [] := (F_l_choice T).bindsN fun _ _ _ _ _ _ us hl => match us, hl with | [_, _], _ => rfl
theorem F_l_names (T : Txt K mg) : FunD K "_law_names" "_law_names" (defArgs s_l_names) (defBody s_l_names) (defScope s_l_names) [] [] (a_l_names K) (fdOf K (a_l_names K)) := by
  obtain ⟨fd, F⟩ := T.df 69 d_l_names rfl
  rw [fd_eq F] at F
  exact F
theorem b_l_names (T : Txt K mg) : Binds K (fdOf K (a_l_names K)) ["_law_rng_here", "_law_size"] [] := (F_l_names T).bindsN fun _ _ _ _ _ _ us hl => match us, hl with | [_, _], _ => rfl
theorem F_l_pair (T : Txt K mg) : FunD K "_law_pair" "_law_pair" (defArgs s_l_pair) (defBody s_l_pair) (defScope s_l_pair) [] [] (a_l_pair K) (fdOf K (a_l_pair K)) := by
  obtain ⟨fd, F⟩ := T.df 70 d_l_pair rfl
  rw [fd_eq F] at F
  exact F
theorem b_l_pair (T : Txt K mg) : Binds K (fdOf K (a_l_pair K)) ["_law_rng_here"] [] := (F_l_pair T).bindsN fun _ _ _ _ _ _ us hl => match us, hl with | [_], _ => rfl
theorem F_l_many (T : Txt K mg) : FunD K "_law_many" "_law_many" (defArgs s_l_many) (defBody s_l_many) (defScope s_l_many) [] [] (a_l_many K) (fdOf K (a_l_many K)) := by
  obtain ⟨fd, F⟩ := T.df 71 d_l_many rfl
  rw [fd_eq F] at F
  exact F
theorem b_l_many (T : Txt K mg) : Binds K (fdOf K (a_l_many K)) ["_law_pair_here"] [] := (F_l_many T).bindsN fun _ _ _ _ _ _ us hl => match us, hl with | [_], _ => rfl
theorem F_l_frame (T : Txt K mg) : FunD K "_law_frame" "_law_frame" (defArgs s_l_frame) (defBody s_l_frame) (defScope s_l_frame) [] [] (a_l_frame K) (fdOf K (a_l_frame K)) := by
  obtain ⟨fd, F⟩ := T.df 72 d_l_frame rfl
  rw [fd_eq F] at F
  exact F
theorem b_l_frame (T : Txt K mg) : Binds K (fdOf K (a_l_frame K)) ["_law_rng_here", "_law_size"] [] := (F_l_frame T).bindsN fun _ _ _ _ _ _ us hl => match us, hl with | [_, _], _ => rfl
theorem F_l_real (T : Txt K mg) : FunD K "_law_real" "_law_real" (defArgs s_l_real) (defBody s_l_real) (defScope s_l_real) [] [] (a_l_real K) (fdOf K (a_l_real K)) := by
  obtain ⟨fd, F⟩ := T.df 73 d_l_real rfl
  rw [fd_eq F] at F
  exact F
theorem b_l_real (T : Txt K mg) : Binds K (fdOf K (a_l_real K)) ["_law_names_here", "_law_rows"] [] := (F_l_real T).bindsN fun _ _ _ _ _ _ us hl => match us, hl with | [_, _], _ => rfl
theorem F_l_people (T : Txt K mg) : FunD K "_law_people" "_law_people" (defArgs s_l_people) (defBody s_l_people) (defScope s_l_people) [] [] (a_l_people K) (fdOf K (a_l_people K)) := by
  obtain ⟨fd, F⟩ := T.df 74 d_l_people rfl
  rw [fd_eq F] at F
  exact F
theorem b_l_people (T : Txt K mg) : Binds K (fdOf K (a_l_people K)) ["_law_rng_here", "_law_names_here", "_law_size"] [] := (F_l_people T).bindsN fun _ _ _ _ _ _ us hl => match us, hl with | [_, _, _], _ => rfl
theorem F_l_of (T : Txt K mg) : FunD K "_law_of" "_law_of" (defArgs s_l_of) (defBody s_l_of) (defScope s_l_of) [] [] (a_l_of K) (fdOf K (a_l_of K)) := by
  obtain ⟨fd, F⟩ := T.df 75 d_l_of rfl
  rw [fd_eq F] at F
  exact F
theorem b_l_of (T : Txt K mg) : Binds K (fdOf K (a_l_of K)) ["_law_people_here", "_law_sort"] [] := (F_l_of T).bindsN fun _ _ _ _ _ _ us hl => match us, hl with | [_, _], _ => rfl
theorem F_l_could (T : Txt K mg) : FunD K "_law_could" "_law_could" (defArgs s_l_could) (defBody s_l_could) (defScope s_l_could) [] [] (a_l_could K) (fdOf K (a_l_could K)) := by
  obtain ⟨fd, F⟩ := T.df 76 d_l_could rfl
  rw [fd_eq F] at F
  exact F
theorem b_l_could (T : Txt K mg) : Binds K (fdOf K (a_l_could K)) ["_law_row", "_law_people_here"] [] := (F_l_could T).bindsN fun _ _ _ _ _ _ us hl => match us, hl with | [_, _], _ => rfl
theorem F_l_pairs (T : Txt K mg) : FunD K "_law_pairs" "_law_pairs" (defArgs s_l_pairs) (defBody s_l_pairs) (defScope s_l_pairs) [] [] (a_l_pairs K) (fdOf K (a_l_pairs K)) := by
  obtain ⟨fd, F⟩ := T.df 77 d_l_pairs rfl
  rw [fd_eq F] at F
  exact F
theorem b_l_pairs (T : Txt K mg) : Binds K (fdOf K (a_l_pairs K)) ["_law_rng_here", "_law_rows", "_law_people_here"] [] := (F_l_pairs T).bindsN fun _ _ _ _ _ _ us hl => match us, hl with | [_, _, _], _ => rfl
theorem F_l_said (T : Txt K mg) : FunD K "_law_said" "_law_said" (defArgs s_l_said) (defBody s_l_said) (defScope s_l_said) [] [] (a_l_said K) (fdOf K (a_l_said K)) := by
  obtain ⟨fd, F⟩ := T.df 78 d_l_said rfl
  rw [fd_eq F] at F
  exact F
theorem b_l_said (T : Txt K mg) : Binds K (fdOf K (a_l_said K)) ["_law_made", "_law_people_here", "_law_pairs_here"] [] := (F_l_said T).bindsN fun _ _ _ _ _ _ us hl => match us, hl with | [_, _, _], _ => rfl
theorem F_l_degree (T : Txt K mg) : FunD K "_law_degree" "_law_degree" (defArgs s_l_degree) (defBody s_l_degree) (defScope s_l_degree) [] [] (a_l_degree K) (fdOf K (a_l_degree K)) := by
  obtain ⟨fd, F⟩ := T.df 79 d_l_degree rfl
  rw [fd_eq F] at F
  exact F
theorem b_l_degree (T : Txt K mg) : Binds K (fdOf K (a_l_degree K)) ["_law_pairs_here", "_law_tag", "_law_side", "_law_name"] [] := (F_l_degree T).bindsN fun _ _ _ _ _ _ us hl => match us, hl with | [_, _, _, _], _ => rfl
theorem F_l_at (T : Txt K mg) : FunD K "_law_at" "_law_at" (defArgs s_l_at) (defBody s_l_at) (defScope s_l_at) [] [] (a_l_at K) (fdOf K (a_l_at K)) := by
  obtain ⟨fd, F⟩ := T.df 80 d_l_at rfl
  rw [fd_eq F] at F
  exact F
theorem b_l_at (T : Txt K mg) : Binds K (fdOf K (a_l_at K)) ["_law_rows", "_law_tag", "_law_side"] [] := (F_l_at T).bindsN fun _ _ _ _ _ _ us hl => match us, hl with | [_, _, _], _ => rfl
theorem F_l_sets (T : Txt K mg) : FunD K "_law_sets" "_law_sets" (defArgs s_l_sets) (defBody s_l_sets) (defScope s_l_sets) [] [] (a_l_sets K) (fdOf K (a_l_sets K)) := by
  obtain ⟨fd, F⟩ := T.df 81 d_l_sets rfl
  rw [fd_eq F] at F
  exact F
theorem b_l_sets (T : Txt K mg) : Binds K (fdOf K (a_l_sets K)) ["_law_some"] [] := (F_l_sets T).bindsN fun _ _ _ _ _ _ us hl => match us, hl with | [_], _ => rfl
theorem F_l_lacks (T : Txt K mg) : FunD K "_law_lacks" "_law_lacks" (defArgs s_l_lacks) (defBody s_l_lacks) (defScope s_l_lacks) [] [] (a_l_lacks K) (fdOf K (a_l_lacks K)) := by
  obtain ⟨fd, F⟩ := T.df 82 d_l_lacks rfl
  rw [fd_eq F] at F
  exact F
theorem b_l_lacks (T : Txt K mg) : Binds K (fdOf K (a_l_lacks K)) ["_law_scene", "_law_row", "_law_side", "_law_names_here", "_law_new", "_law_others"] [] := (F_l_lacks T).bindsN fun _ _ _ _ _ _ us hl => match us, hl with | [_, _, _, _, _, _], _ => rfl
theorem F_l_is_past (T : Txt K mg) : FunD K "_law_is_past" "_law_is_past" (defArgs s_l_is_past) (defBody s_l_is_past) (defScope s_l_is_past) [] [] (a_l_is_past K) (fdOf K (a_l_is_past K)) := by
  obtain ⟨fd, F⟩ := T.df 83 d_l_is_past rfl
  rw [fd_eq F] at F
  exact F
theorem b_l_is_past (T : Txt K mg) : Binds K (fdOf K (a_l_is_past K)) ["_law_rows", "_law_people_here", "_law_pairs_here"] [] := (F_l_is_past T).bindsN fun _ _ _ _ _ _ us hl => match us, hl with | [_, _, _], _ => rfl
theorem F_l_odd (T : Txt K mg) : FunD K "_law_odd" "_law_odd" (defArgs s_l_odd) (defBody s_l_odd) (defScope s_l_odd) [] [] (a_l_odd K) (fdOf K (a_l_odd K)) := by
  obtain ⟨fd, F⟩ := T.df 84 d_l_odd rfl
  rw [fd_eq F] at F
  exact F
theorem b_l_odd (T : Txt K mg) : Binds K (fdOf K (a_l_odd K)) ["_law_names_here"] [] := (F_l_odd T).bindsN fun _ _ _ _ _ _ us hl => match us, hl with | [_], _ => rfl
theorem F_l_end_has_cut (T : Txt K mg) : FunD K "_law_end_has_cut" "_law_end_has_cut" (defArgs s_l_end_has_cut) (defBody s_l_end_has_cut) (defScope s_l_end_has_cut) [] [] (a_l_end_has_cut K) (fdOf K (a_l_end_has_cut K)) := by
  obtain ⟨fd, F⟩ := T.df 85 d_l_end_has_cut rfl
  rw [fd_eq F] at F
  exact F
theorem b_l_end_has_cut (T : Txt K mg) : Binds K (fdOf K (a_l_end_has_cut K)) ["_law_held", "_law_scene", "_law_counts", "_law_row", "_law_side"] [] := (F_l_end_has_cut T).bindsN fun _ _ _ _ _ _ us hl => match us, hl with | [_, _, _, _, _], _ => rfl
theorem F_l_right (T : Txt K mg) : FunD K "_law_right" "_law_right" (defArgs s_l_right) (defBody s_l_right) (defScope s_l_right) [] [] (a_l_right K) (fdOf K (a_l_right K)) := by
  obtain ⟨fd, F⟩ := T.df 86 d_l_right rfl
  rw [fd_eq F] at F
  exact F
theorem b_l_right (T : Txt K mg) : Binds K (fdOf K (a_l_right K)) ["_law_rng_here"] [] := (F_l_right T).bindsN fun _ _ _ _ _ _ us hl => match us, hl with | [_], _ => rfl
theorem F_law (T : Txt K mg) : FunD K "law" "law" (defArgs s_law) (defBody s_law) (defScope s_law) [] [] (a_law K) (fdOf K (a_law K)) := by
  obtain ⟨fd, F⟩ := T.df 87 d_law rfl
  rw [fd_eq F] at F
  exact F
theorem b_law (T : Txt K mg) : Binds K (fdOf K (a_law K)) ["_law_script"] [] := (F_law T).bindsN fun _ _ _ _ _ _ us hl => match us, hl with | [_], _ => rfl
theorem fi_Sizes_getitem (T : Txt K mg) : PySem.W.fnIn K (a_Sizes_getitem K) = true := T.ex 16 _ rfl
theorem fi_Told_getitem (T : Txt K mg) : PySem.W.fnIn K (a_Told_getitem K) = true := T.ex 17 _ rfl
theorem nq_Told (T : Txt K mg) : PySem.W.noSeq K (C_Told K) = true := T.ex 18 _ rfl
theorem sf_Told (T : Txt K mg) : PySem.W.selfFirst K (C_Told K) = true := T.ex 19 _ rfl
theorem kit_dict (T : Txt K mg) : PySem.W.kitOne K (.type "dict") (.ref (C_Sizes K)) = some false := of_decide_eq_true (T.ex 20 _ rfl)
theorem scls (T : Txt K mg) : SlX.SCls K (C_Many K) := scls_ok (T.ex 0 _ rfl)
theorem slot_own_least (T : Txt K mg) : SlX.Slot1 K (C_Many K) "own_least" (He.ma K (C_Many K) "own_least") 0 := slot_ok (T.ex 1 _ rfl) (by decide)
theorem slot_own_most (T : Txt K mg) : SlX.Slot1 K (C_Many K) "own_most" (He.ma K (C_Many K) "own_most") 1 := slot_ok (T.ex 2 _ rfl) (by decide)
theorem slot_own_place (T : Txt K mg) : SlX.Slot1 K (C_Many K) "own_place" (He.ma K (C_Many K) "own_place") 2 := slot_ok (T.ex 3 _ rfl) (by decide)
theorem isi_Many (T : Txt K mg) : IsiC K (C_Many K) := isi_ok (T.ex 7 _ rfl)
theorem isi_Model (T : Txt K mg) : IsiC K (C_Model K) := isi_ok (T.ex 8 _ rfl)
theorem isi_Sizes (T : Txt K mg) : IsiC K (C_Sizes K) := isi_ok (T.ex 9 _ rfl)
theorem isi_Told (T : Txt K mg) : IsiC K (C_Told K) := isi_ok (T.ex 10 _ rfl)
theorem crd_Many (T : Txt K mg) : ClX.CRead K (C_Many K) (.type "type") := crd_ok (T.ex 11 _ rfl)
theorem crd_Model (T : Txt K mg) : ClX.CRead K (C_Model K) (.type "type") := crd_ok (T.ex 12 _ rfl)
theorem cv_Many_TOP (T : Txt K mg) : ∃ u, ClX.CVal K (C_Many K) (.type "type") "TOP" (.int 6) u := cvi_ok (T.ex 13 _ rfl)
theorem cv_Model_MOST_KINDS (T : Txt K mg) : ∃ u, ClX.CVal K (C_Model K) (.type "type") "MOST_KINDS" (.int 5) u := cvi_ok (T.ex 14 _ rfl)
theorem cv_Model_MOST_LINKS (T : Txt K mg) : ∃ u, ClX.CVal K (C_Model K) (.type "type") "MOST_LINKS" (.int 8) u := cvi_ok (T.ex 15 _ rfl)
end
end Pr
/-! HX -/
/-! The top in the kernel, with what the walk asks of it. -/
namespace Pr
open PySem PySem.Spec PyProof.Rows L2 HandSHeadRun
/-! what is looked at: the module's names, its classes and what stands in them, its functions, each with its code -/
def refsAt (g : Addr → Option Obj) (d : Addr) : List Addr := match g d with
  | some o => (match o.data with
    | .dict es _ => es.toList.flatMap fun e => He.refV e.val
    | _ => [])
  | none => []
def isC (g : Addr → Option Obj) (a : Addr) : Bool := match g a with
  | some o => (match o.data with
    | .cls _ => true
    | _ => false)
  | none => false
def nsOf (g : Addr → Option Obj) (a : Addr) : List Addr := match g a with
  | some o => (match o.data with
    | .cls cd => [cd.ns]
    | _ => [])
  | none => []
def fnRefs (g : Addr → Option Obj) (a : Addr) : List Addr := match g a with
  | some o => (match o.data with
    | .func fd => He.refV fd.code ++ He.refV fd.defaults
    | _ => [])
  | none => []
def near (g : Addr → Option Obj) (a : Addr) : List Addr := match g a with
  | some o => (match o.data with
    | .func fd => a :: (He.refV fd.code ++ He.refV fd.defaults)
    | .fields vs => a :: (vs.toList.flatMap He.refV).flatMap fun b => b :: fnRefs g b
    | _ => [a])
  | none => []
def frNats {α : Type} : List Nat → (List Nat → α) → α
  | [], k => k []
  | n :: l, k => frNat n fun n => frNats l fun l => k (n :: l)
def clsL (g : Addr → Option Obj) (l : List Addr) : List Addr := ((l.filter (isC g)).reverse).take 6
def addrs (g : Addr → Option Obj) : List Addr :=
  let l := refsAt g mainGlobals
  let cs := clsL g l
  let ns := cs.flatMap (nsOf g)
  [mainGlobals, PySem.cStatics] ++ cs ++ ns ++ ((ns.flatMap (refsAt g)).flatMap (near g)) ++ ((l.filter fun a => !isC g a).flatMap (near g))
def frK (g : Addr → Option Obj) : PySem.W.Frag := He.frG g (addrs g)
def obsX (K : PySem.W.Frag) : Bool × Bool × List He.FnW × Bool := (fa.all fun f => f.ok K, fn.all fun d => d.ok K, fn.map fun d => He5.fnA K (d.at_ K), exs.all fun f => f K)
def valX : Bool × Bool × List He.FnW × Bool := (true, true, fn.map He5.DefA.val, true)
def hk : PySem.W.Hook where
  α := Bool × Bool × List He.FnW × Bool
  obs := fun s => obsX (frK s.heap.get?)
  val := fun _ => valX
  says := fun _ h => ∃ K : PySem.W.Frag, K.In h ∧ obsX K = valX
  of := fun _ _ e => ⟨_, He.frG_in, e⟩
  keeps := fun _ _ _ ⟨K, hK, c⟩ k => ⟨K, PySem.W.Frag.In.keeps hK k, c⟩
abbrev R : PySem.W.OpenRow := PySem.W.OpenLaw.row PySem.Challenge.rw_howmanyeach_k87_whole_cuts_judged
abbrev qv : Program := PySem.W.view R.prog [108]
def ob (s : PySem.W.SharedT) : Bool × Bool × List He.FnW × Bool := obsX (frK (getT s))
theorem ob_eq (s : PySem.W.SharedT) : ob s = hk.obs s.abs := by
  have e : getT s = s.abs.heap.get? := funext (getT_eq s)
  unfold ob
  rw [e]
  rfl
noncomputable abbrev theEnd (w : World) (os : OsState) : Option PySem.W.SharedT := endF (stepQ (denQ tabQ) R.prog w) 12000 R.prog w os
def nm0 : List PySem.Str := ["_wall", "__name__", "EachError", "InvalidCount", "InvalidMany", "InvalidKinds", "InvalidLink", "InvalidEnd", "InvalidModel", "InvalidRow", "InvalidPairs", "InvalidSizes", "InvalidTold", "InvalidText", "MissingError", "UnknownKind", "UnknownLink", "UnknownRow", "StateError", "Apart", "Taken", "LimitError", "TooMany", "LETTERS", "MOST_LETTERS", "NEAR_values", "FAR", "is_integer", "is_count", "is_name"]
def nm1 : List PySem.Str := ["is_end", "other_end", "want_count", "DIGITS", "DOTS", "NO_MOST", "sum_of_most", "product_of_most", "lesser_most", "greater_most", "number_in", "many_in", "as_many", "check_many", "Many", "NEAR_models", "is_end_many", "are_ends", "want_kinds", "want_links", "want_few", "want_model", "want_kind", "want_link", "want_end", "Model", "are_counts", "counts_like", "Sizes", "checked_counts"]
def nm2 : List PySem.Str := ["sizes_for", "ROW", "COLUMN", "Stream", "Demand", "MOST_ROWS", "MOST_PAIRS", "is_row_of", "wrong_pair", "Told", "want_told", "ENDS", "past_row", "new_counts", "found_cut", "fits_sizes", "checked_news", "cut_of", "is_cut", "_law_rng", "_law_draw", "_law_choice", "_law_names", "_law_pair", "_law_many", "_law_frame", "_law_real", "_law_people", "_law_of", "_law_could"]
def nm3 : List PySem.Str := ["_law_pairs", "_law_said", "_law_degree", "_law_at", "_law_sets", "_law_lacks", "_law_is_past", "_law_odd", "_law_end_has_cut", "_law_right"]
def names : List PySem.Str := nm0 ++ nm1 ++ nm2 ++ nm3
end Pr
/-! HXL -/
namespace Pr
open PySem PySem.Spec PyProof.Rows L2 HandSHeadRun
theorem runL (w : World) (os : OsState) : (theEnd w os).map (fun s => looksF R.prog (PySem.W.boot_heap w.params) s.abs) = some true := by
  kernel_rfl
end Pr
/-! HXS -/
namespace Pr
open PySem PySem.Spec PyProof.Rows L2 HandSHeadRun
theorem runS (w : World) (os : OsState) : (theEnd w os).map (fun s => seenQ qv names (importedModules R.prog.main.body) (fun s => PySem.W.xlAt qv [] s && PySem.W.recOk R.toRowW.records s) s.abs) = some (PySem.W.openGood qv names) := by
  kernel_rfl
end Pr
/-! HXA -/
namespace Pr
open PySem PySem.Spec PyProof.Rows L2 HandSHeadRun
theorem runA (w : World) (os : OsState) : (theEnd w os).map (fun s => fa.all fun f => f.ok (frK (getT s))) = some true := by
  kernel_rfl
end Pr
/-! HXB -/
namespace Pr
open PySem PySem.Spec PyProof.Rows L2 HandSHeadRun
theorem runB (w : World) (os : OsState) : (theEnd w os).map (fun s => (fn.take 45).all fun d => d.ok (frK (getT s))) = some true := by
  kernel_rfl
end Pr
/-! HXD -/
namespace Pr
open PySem PySem.Spec PyProof.Rows L2 HandSHeadRun
theorem runD (w : World) (os : OsState) : (theEnd w os).map (fun s => (fn.drop 45).all fun d => d.ok (frK (getT s))) = some true := by
  kernel_rfl
end Pr
/-! HXC -/
namespace Pr
open PySem PySem.Spec PyProof.Rows L2 HandSHeadRun
theorem runC (w : World) (os : OsState) : (theEnd w os).map (fun s => fn.map fun d => He5.fnA (frK (getT s)) (d.at_ (frK (getT s)))) = some (fn.map He5.DefA.val) := by
  kernel_rfl
end Pr
/-! HXE -/
namespace Pr
open PySem PySem.Spec PyProof.Rows L2 HandSHeadRun
theorem runE (w : World) (os : OsState) : (theEnd w os).map (fun s => exs.all fun f => f (frK (getT s))) = some true := by
  kernel_rfl
end Pr
/-! D -/
/-! What a value stands for, by a part H0 of the heap that nobody writes; things of one's own beside it; what a reading evaluates to in such terms. -/
namespace Dn
open PySem PySem.Spec PyProof.Rows L2
/-- what is told of a value by the heap -/
structure Den where
  p : Hp → V → Prop
  mono : ∀ {H H' : Hp} {v : V}, Same H H' → p H v → p H' v
/-- what is told of a thing of one's own -/
structure Ow where
  p : Hp → HO → Prop
  mono : ∀ {H H' : Hp} {o : HO}, Same H H' → p H o → p H' o
abbrev Own := List (Addr × Ow)
def ads (Os : Own) : List Addr := Os.map (·.1)
structure Hold (Os : Own) (H0 H : Hp) : Prop where
  nd : (ads Os).Nodup
  at_ : ∀ q, q ∈ Os → H0 q.1 = none ∧ ∃ o, H q.1 = some o ∧ q.2.p H0 o
theorem Hold.nil {H0 H : Hp} : Hold [] H0 H := ⟨List.nodup_nil, fun q h => nomatch h⟩
theorem mem_ads {Os : Own} {a : Addr} (h : a ∈ ads Os) : ∃ O, (a, O) ∈ Os := by
  obtain ⟨q, h1, h2⟩ := List.mem_map.mp h
  exact ⟨q.2, by rw [← h2]; exact h1⟩
theorem ads_mem {Os : Own} {q : Addr × Ow} (h : q ∈ Os) : q.1 ∈ ads Os := List.mem_map.mpr ⟨q, h, rfl⟩
theorem Hold.out {Os : Own} {H0 H : Hp} (w : Hold Os H0 H) {a : Addr} (h : H a = none) : a ∉ ads Os := fun m => by
  obtain ⟨O, hO⟩ := mem_ads m
  obtain ⟨_, o, e, _⟩ := w.at_ _ hO
  rw [h] at e
  cases e
/-- from the kept part H0 of H and one's own Os to H0' of H' and Os' -/
structure Grow (Os : Own) (H0 H : Hp) (Os' : Own) (H0' H' : Hp) : Prop where
  s0 : Same H0 H0'
  s1 : ∀ b o, b ∉ ads Os → H b = some o → H' b = some o
  sub : Same H0' H'
  fr : ∀ b o, b ∉ ads Os → H b = some o → H0 b = none → H0' b = none
  ow : Hold Os' H0' H'
  nw : ∀ b, b ∈ ads Os' → b ∈ ads Os ∨ H b = none
theorem Grow.refl {Os : Own} {H0 H : Hp} (s : Same H0 H) (w : Hold Os H0 H) : Grow Os H0 H Os H0 H := ⟨Same.refl _, fun _ _ _ h => h, s, fun _ _ _ _ n => n, w, fun _ h => .inl h⟩
theorem Grow.trans {Os Os1 Os2 : Own} {H0 H H1 H1' H2 H2' : Hp} (a : Grow Os H0 H Os1 H1 H1') (b : Grow Os1 H1 H1' Os2 H2 H2') : Grow Os H0 H Os2 H2 H2' := by
  have k : ∀ c o, c ∉ ads Os → H c = some o → c ∉ ads Os1 := fun c o n h m => by
    rcases a.nw c m with q | q
    · exact n q
    · rw [h] at q; cases q
  refine ⟨a.s0.trans b.s0, fun c o n h => b.s1 c o (k c o n h) (a.s1 c o n h), b.sub, fun c o n h z => b.fr c o (k c o n h) (a.s1 c o n h) (a.fr c o n h z), b.ow, fun c m => ?_⟩
  rcases b.nw c m with q | q
  · exact a.nw c q
  · by_cases m' : c ∈ ads Os
    · exact .inl m'
    · refine .inr ?_
      cases e : H c with
      | none => rfl
      | some o => have := a.s1 c o m' e; rw [q] at this; cases this
theorem same_upd {H : Hp} {p : Addr} {o : HO} (h : H p = none) : Same H (upd H p o) := fun a u e => by
  rw [upd_ne (ne_of_none e h)]
  exact e
theorem same_upd2 {H H' : Hp} {p : Addr} {o : HO} (s : Same H H') : Same (upd H p o) (upd H' p o) := fun a u e => by
  by_cases q : a = p
  · subst q; rw [upd_same] at e ⊢; exact e
  · rw [upd_ne q] at e ⊢; exact s a u e
/-- a pure step, seen beside things of one's own -/
theorem Grow.up {Os : Own} {H0 H H0' H' : Hp} (g : Grow [] H0 H [] H0' H') (w : Hold Os H0 H) : Grow Os H0 H Os H0' H' :=
  ⟨g.s0, fun b o _ h => g.s1 b o (fun z => nomatch z) h, g.sub, fun b o _ h n => g.fr b o (fun z => nomatch z) h n,
    ⟨w.nd, fun q hq => by
      obtain ⟨n, o, e, p⟩ := w.at_ q hq
      exact ⟨g.fr _ _ (fun z => nomatch z) e n, o, g.s1 _ _ (fun z => nomatch z) e, q.2.mono g.s0 p⟩⟩, fun b h => .inl h⟩
/-- a new object, kept -/
theorem Grow.new0 {H0 H : Hp} {p : Addr} {o : HO} (s : Same H0 H) (h : H p = none) : Grow [] H0 H [] (upd H0 p o) (upd H p o) :=
  ⟨same_upd (s.free h), fun b u _ e => same_upd h b u e, same_upd2 s, fun b u _ e n => by rw [upd_ne (ne_of_none e h)]; exact n, .nil, fun _ z => nomatch z⟩
theorem Grow.new {Os : Own} {H0 H : Hp} {p : Addr} {o : HO} (s : Same H0 H) (w : Hold Os H0 H) (h : H p = none) : Grow Os H0 H Os (upd H0 p o) (upd H p o) := (Grow.new0 s h).up w
theorem mem_nodup {a : Addr} {O O' : Ow} : ∀ {Os : Own}, (ads Os).Nodup → (a, O) ∈ Os → (a, O') ∈ Os → O = O'
  | [], _, h, _ => nomatch h
  | q :: Os, nd, h, h' => by
    have nd' : (q.1 :: ads Os).Nodup := nd
    obtain ⟨n1, n2⟩ := List.nodup_cons.mp nd'
    rcases List.mem_cons.mp h with e | m
    · rcases List.mem_cons.mp h' with e' | m'
      · rw [← e'] at e; cases e; rfl
      · subst e; exact absurd (ads_mem m') n1
    · rcases List.mem_cons.mp h' with e' | m'
      · subst e'; exact absurd (ads_mem m) n1
      · exact mem_nodup n2 m m'
/-- a step of some of one's own, seen beside all -/
theorem Grow.frame {Os1 Os : Own} {H0 H H0' H' : Hp} (g : Grow Os1 H0 H Os1 H0' H') (sub : ∀ q, q ∈ Os1 → q ∈ Os) (w : Hold Os H0 H) : Grow Os H0 H Os H0' H' := by
  have sa : ∀ b, b ∈ ads Os1 → b ∈ ads Os := fun b h => by
    obtain ⟨O, hO⟩ := mem_ads h
    exact ads_mem (sub _ hO)
  refine ⟨g.s0, fun b o n h => g.s1 b o (fun z => n (sa b z)) h, g.sub, fun b o n h z => g.fr b o (fun y => n (sa b y)) h z, ⟨w.nd, fun q hq => ?_⟩, fun b h => .inl h⟩
  by_cases m : q.1 ∈ ads Os1
  · obtain ⟨O, hO⟩ := mem_ads m
    have e : q.2 = O := mem_nodup (a := q.1) w.nd hq (sub _ hO)
    rw [e]
    exact g.ow.at_ _ hO
  · obtain ⟨n, o, e, p⟩ := w.at_ q hq
    exact ⟨g.fr _ _ m e n, o, g.s1 _ _ m e, q.2.mono g.s0 p⟩
/-- a step of the first of one's own -/
theorem Grow.head {a : Addr} {O O' : Ow} {Os : Own} {H0 H H0' H' : Hp} (g : Grow [(a, O)] H0 H [(a, O')] H0' H') (w : Hold ((a, O) :: Os) H0 H) : Grow ((a, O) :: Os) H0 H ((a, O') :: Os) H0' H' := by
  have nd : (a :: ads Os).Nodup := w.nd
  obtain ⟨n1, n2⟩ := List.nodup_cons.mp nd
  have o1 : ∀ b, b ∈ ads [(a, O)] → b = a := fun b h => List.mem_singleton.mp h
  have o2 : ∀ b, b ∉ ads ((a, O) :: Os) → b ∉ ads [(a, O)] := fun b n h => n (by rw [o1 b h]; exact List.mem_cons_self)
  refine ⟨g.s0, fun b o n h => g.s1 b o (o2 b n) h, g.sub, fun b o n h z => g.fr b o (o2 b n) h z, ⟨nd, fun q hq => ?_⟩, fun b h => .inl h⟩
  rcases List.mem_cons.mp hq with e | m
  · subst e
    exact g.ow.at_ _ List.mem_cons_self
  · obtain ⟨n, o, e, p⟩ := w.at_ q (List.mem_cons_of_mem _ m)
    have ne : q.1 ∉ ads [(a, O)] := fun z => n1 (by rw [← o1 _ z]; exact ads_mem m)
    exact ⟨g.fr _ _ ne e n, o, g.s1 _ _ ne e, q.2.mono g.s0 p⟩

abbrev Ctx := List (Option Den)
/-- the slots hold what the context tells -/
def Env (H : Hp) (Γ : Ctx) (σ : L2.St) : Prop := Paired (fun (r : Option Den) (v : Option V) => ∀ R, r = some R → ∃ x, v = some x ∧ R.p H x) Γ σ
def Fits (H : Hp) (Rs : List Den) (vs : List V) : Prop := Paired (fun (R : Den) (x : V) => R.p H x) Rs vs
theorem Paired.mono' {α β : Type} {F G : α → β → Prop} (f : ∀ a b, F a b → G a b) : ∀ {l₁ : List α} {l₂ : List β}, Paired F l₁ l₂ → Paired G l₁ l₂
  | _, _, .nil => .nil
  | _, _, .cons r t => .cons (f _ _ r) (Paired.mono' f t)
theorem Paired.get' {α β : Type} {F : α → β → Prop} : ∀ {l₁ : List α} {l₂ : List β} {i : Nat} {a : α}, Paired F l₁ l₂ → l₁[i]? = some a → ∃ b, l₂[i]? = some b ∧ F a b
  | _, _, _, _, .nil, e => by simp at e
  | _, _, 0, _, .cons r _, e => by simp at e; subst e; exact ⟨_, rfl, r⟩
  | _, _, i + 1, a, .cons _ t, e => by
    obtain ⟨b, h1, h2⟩ := Paired.get' (i := i) (a := a) t (by simpa using e)
    exact ⟨b, by simpa using h1, h2⟩
theorem Paired.getR {α β : Type} {F : α → β → Prop} : ∀ {l₁ : List α} {l₂ : List β} {i : Nat} {b : β}, Paired F l₁ l₂ → l₂[i]? = some b → ∃ a, l₁[i]? = some a ∧ F a b
  | _, _, _, _, .nil, e => by simp at e
  | _, _, 0, _, .cons r _, e => by simp at e; subst e; exact ⟨_, rfl, r⟩
  | _, _, i + 1, b, .cons _ t, e => by
    obtain ⟨a, h1, h2⟩ := Paired.getR (i := i) (b := b) t (by simpa using e)
    exact ⟨a, by simpa using h1, h2⟩
theorem Paired.set' {α β : Type} {F : α → β → Prop} {a : α} {b : β} (r : F a b) : ∀ {l₁ : List α} {l₂ : List β} (i : Nat), Paired F l₁ l₂ → Paired F (l₁.set i a) (l₂.set i b)
  | _, _, _, .nil => .nil
  | _, _, 0, .cons _ t => .cons r t
  | _, _, i + 1, .cons q t => .cons q (Paired.set' r i t)
theorem Paired.app {α β : Type} {F : α → β → Prop} : ∀ {l₁ l₃ : List α} {l₂ l₄ : List β}, Paired F l₁ l₂ → Paired F l₃ l₄ → Paired F (l₁ ++ l₃) (l₂ ++ l₄)
  | _, _, _, _, .nil, s => s
  | _, _, _, _, .cons r t, s => .cons r (Paired.app t s)
theorem Env.mono {H H' : Hp} {Γ : Ctx} {σ : L2.St} (s : Same H H') (e : Env H Γ σ) : Env H' Γ σ := Paired.mono' (fun _ _ f R h => let ⟨x, a, b⟩ := f R h; ⟨x, a, R.mono s b⟩) e
theorem Fits.mono {H H' : Hp} {Rs : List Den} {vs : List V} (s : Same H H') (e : Fits H Rs vs) : Fits H' Rs vs := Paired.mono' (fun R _ h => R.mono s h) e
theorem Env.len {H : Hp} {Γ : Ctx} {σ : L2.St} (e : Env H Γ σ) : Γ.length = σ.length := Paired.length e
theorem Env.get {H : Hp} {Γ : Ctx} {σ : L2.St} (e : Env H Γ σ) {i : Nat} {R : Den} (h : Γ[i]? = some (some R)) : ∃ v, σ[i]? = some (some v) ∧ R.p H v := by
  obtain ⟨b, h1, h2⟩ := Paired.get' e h
  obtain ⟨x, rfl, h3⟩ := h2 R rfl
  exact ⟨x, h1, h3⟩
theorem Env.set {H : Hp} {Γ : Ctx} {σ : L2.St} (e : Env H Γ σ) (i : Nat) {R : Den} {v : V} (h : R.p H v) : Env H (Γ.set i (some R)) (σ.set i (some v)) :=
  Paired.set' (fun R' q => by cases q; exact ⟨v, rfl, h⟩) i e
theorem Env.clear {H : Hp} {Γ : Ctx} {σ : L2.St} (e : Env H Γ σ) (i : Nat) (v : Option V) : Env H (Γ.set i none) (σ.set i v) := Paired.set' (fun R' q => by cases q) i e
/-- at a def's entry -/
def ctx (n : Nat) (Rs : List Den) : Ctx := Rs.map some ++ List.replicate (n - Rs.length) none
theorem Env.start {H : Hp} {N : List Str} {Rs : List Den} {vs : List V} (f : Fits H Rs vs) : Env H (ctx N.length Rs) (L2.start N vs) := by
  have e : Rs.length = vs.length := Paired.length f
  unfold ctx L2.start
  rw [e]
  refine Paired.app ?_ ?_
  · clear e
    induction f with
    | nil => exact .nil
    | cons r t ih => exact .cons (fun R q => by cases q; exact ⟨_, rfl, r⟩) ih
  · generalize N.length - vs.length = k
    induction k with
    | zero => exact .nil
    | succ k ih => exact .cons (fun R q => by cases q) ih

/-! ### the judgements -/
def ED (Os : Own) (te : TE) (Γ : Ctx) (R : Den) : Prop := ∀ (σ : L2.St) (H0 H : Hp), Env H0 Γ σ → Same H0 H → Hold Os H0 H → ∀ Q : VK, (∀ v H0' H', Grow Os H0 H Os H0' H' → R.p H0' v → Q v H') → te σ H Q
def ET (Os : Own) (tt : TT) (Γ : Ctx) (b : Bool) : Prop := ∀ (σ : L2.St) (H0 H : Hp), Env H0 Γ σ → Same H0 H → Hold Os H0 H → ∀ Q : Bool → Hp → Prop, (∀ H0' H', Grow Os H0 H Os H0' H' → Q b H') → tt σ H Q
/-- a test of which nothing is told -/
def EN (Os : Own) (tt : TT) (Γ : Ctx) : Prop := ∀ (σ : L2.St) (H0 H : Hp), Env H0 Γ σ → Same H0 H → Hold Os H0 H → ∀ Q : Bool → Hp → Prop, (∀ b H0' H', Grow Os H0 H Os H0' H' → Q b H') → tt σ H Q
def EA (Os : Own) (ta : TA) (Γ : Ctx) (Rs : List Den) : Prop := ∀ (σ : L2.St) (H0 H : Hp), Env H0 Γ σ → Same H0 H → Hold Os H0 H → ∀ Q : List V → Hp → Prop, (∀ vs H0' H', Grow Os H0 H Os H0' H' → Fits H0' Rs vs → Q vs H') → ta σ H Q
def EO (Os : Own) (to : TO) (Γ : Ctx) (o : Option Int) : Prop := ∀ (σ : L2.St) (H0 H : Hp), Env H0 Γ σ → Same H0 H → Hold Os H0 H → ∀ Q : Option Int → Hp → Prop, (∀ H0' H', Grow Os H0 H Os H0' H' → Q o H') → to σ H Q
/-- a two-place operation, a one-place one, a call upon values -/
def OD (r : R2) (A B R : Den) : Prop := ∀ (H0 H : Hp) (x y : V), Same H0 H → A.p H0 x → B.p H0 y → ∀ Q : VK, (∀ v H0' H', Grow [] H0 H [] H0' H' → R.p H0' v → Q v H') → r x y H Q
def UD (r : V → Hp → VK → Prop) (A R : Den) : Prop := ∀ (H0 H : Hp) (x : V), Same H0 H → A.p H0 x → ∀ Q : VK, (∀ v H0' H', Grow [] H0 H [] H0' H' → R.p H0' v → Q v H') → r x H Q
def CD (r : List V → Hp → VK → Prop) (As : List Den) (R : Den) : Prop := ∀ (H0 H : Hp) (xs : List V), Same H0 H → Fits H0 As xs → ∀ Q : VK, (∀ v H0' H', Grow [] H0 H [] H0' H' → R.p H0' v → Q v H') → r xs H Q

/-! ### values -/
def valD (v : V) : Den := ⟨fun _ x => x = v, fun _ h => h⟩
abbrev intD (i : Int) : Den := valD (.int i)
abbrev strD (s : Str) : Den := valD (.str s)
abbrev blD (b : Bool) : Den := valD (.bl b)
abbrev nonD : Den := valD .non
def anyD : Den := ⟨fun _ _ => True, fun _ h => h⟩
theorem _root_.L2.Same.tup {K : PySem.W.Frag} {H H' : Hp} {a : Addr} {xs : List V} (e : Same H H') (h : SqT K H a xs) : SqT K H' a xs := by
  rcases h with (h | ⟨o, h⟩) | h
  · exact .inl (.inl (e _ _ h))
  · exact .inl (.inr ⟨o, e _ _ h⟩)
  · exact .inr h
def lstD (Rs : List Den) : Den := ⟨fun H x => ∃ a vs, x = .ref a ∧ H a = some (.lst vs) ∧ Fits H Rs vs, fun s ⟨a, vs, h1, h2, h3⟩ => ⟨a, vs, h1, s _ _ h2, h3.mono s⟩⟩
def tupD (Rs : List Den) : Den := ⟨fun H x => ∃ a vs, x = .ref a ∧ H a = some (.tup vs) ∧ Fits H Rs vs, fun s ⟨a, vs, h1, h2, h3⟩ => ⟨a, vs, h1, s _ _ h2, h3.mono s⟩⟩
/-- a dict that nobody writes any more -/
def dctD {κ : Type} (mk : List (κ × V) → HO) (kvs : List (κ × Den)) : Den := ⟨fun H x => ∃ a o us, x = .ref a ∧ H a = some (.frz o (mk us)) ∧ Paired (fun (p : κ × Den) (q : κ × V) => p.1 = q.1 ∧ p.2.p H q.2) kvs us,
  fun s ⟨a, o, us, h1, h2, h3⟩ => ⟨a, o, us, h1, s _ _ h2, Paired.mono' (fun p _ h => ⟨h.1, p.2.mono s h.2⟩) h3⟩⟩
abbrev dkD (kvs : List (Key × Den)) : Den := dctD .dK kvs
abbrev dtD (kvs : List (List Key × Den)) : Den := dctD .dT kvs
def insD (C : Addr) (fs : List (Str × Den)) : Den := ⟨fun H x => ∃ a dx us, x = .ref a ∧ H a = some (.ins C dx us) ∧ Paired (fun (p : Str × Den) (q : Str × V) => p.1 = q.1 ∧ p.2.p H q.2) fs us,
  fun s ⟨a, dx, us, h1, h2, h3⟩ => ⟨a, dx, us, h1, s _ _ h2, Paired.mono' (fun p _ h => ⟨h.1, p.2.mono s h.2⟩) h3⟩⟩
/-- one of these -/
def exD {α : Type} (P : α → Prop) (R : α → Den) : Den := ⟨fun H x => ∃ a, P a ∧ (R a).p H x, fun s ⟨a, h1, h2⟩ => ⟨a, h1, (R a).mono s h2⟩⟩
theorem Fits.map {H : Hp} {α : Type} {f : α → Den} : ∀ {xs : List α} {vs : List V}, (∀ (i : Nat) (x : α), xs[i]? = some x → ∃ v, vs[i]? = some v ∧ (f x).p H v) → xs.length = vs.length → Fits H (xs.map f) vs
  | [], [], _, _ => .nil
  | [], _ :: _, _, e => by cases e
  | _ :: _, [], _, e => by cases e
  | x :: xs, v :: vs, h, e => by
    refine .cons ?_ (Fits.map (fun i y hy => ?_) (Nat.succ.inj e))
    · obtain ⟨u, h1, h2⟩ := h 0 x rfl
      simp at h1
      subst h1
      exact h2
    · obtain ⟨u, h1, h2⟩ := h (i + 1) y (by simpa using hy)
      exact ⟨u, by simpa using h1, h2⟩
theorem Fits.vals {H : Hp} : ∀ {vs us : List V}, Fits H (vs.map valD) us → us = vs
  | [], [], _ => rfl
  | [], _ :: _, h => nomatch h
  | _ :: _, [], h => nomatch h
  | v :: vs, u :: us, h => by
    cases h with
    | cons r t => rw [Fits.vals t, show u = v from r]
theorem Fits.of_vals {H : Hp} : ∀ (vs : List V), Fits H (vs.map valD) vs
  | [] => .nil
  | _ :: vs => .cons rfl (Fits.of_vals vs)


/-! ### what one's own may be -/
def eqO (o : HO) : Ow := ⟨fun _ x => x = o, fun _ h => h⟩
def lstO (Rs : List Den) : Ow := ⟨fun H o => ∃ us, o = .lst us ∧ Fits H Rs us, fun s ⟨us, h1, h2⟩ => ⟨us, h1, h2.mono s⟩⟩
def dctO {κ : Type} (mk : List (κ × V) → HO) (kvs : List (κ × Den)) : Ow := ⟨fun H o => ∃ us, o = mk us ∧ Paired (fun (p : κ × Den) (q : κ × V) => p.1 = q.1 ∧ p.2.p H q.2) kvs us,
  fun s ⟨us, h1, h2⟩ => ⟨us, h1, Paired.mono' (fun p _ h => ⟨h.1, p.2.mono s h.2⟩) h2⟩⟩
def insO (C : Addr) (fs : List (Str × Den)) : Ow := ⟨fun H o => ∃ dx us, o = .ins C dx us ∧ Paired (fun (p : Str × Den) (q : Str × V) => p.1 = q.1 ∧ p.2.p H q.2) fs us,
  fun s ⟨dx, us, h1, h2⟩ => ⟨dx, us, h1, Paired.mono' (fun p _ h => ⟨h.1, p.2.mono s h.2⟩) h2⟩⟩
def exO {α : Type} (P : α → Prop) (O : α → Ow) : Ow := ⟨fun H o => ∃ a, P a ∧ (O a).p H o, fun s ⟨a, h1, h2⟩ => ⟨a, h1, (O a).mono s h2⟩⟩
/-- once kept -/
def Keeps (a : Addr) (O : Ow) (D : Den) : Prop := ∀ H o, H a = some o → O.p H o → D.p H (.ref a)
theorem keeps_lst {a : Addr} {Rs : List Den} : Keeps a (lstO Rs) (lstD Rs) := fun H o e ⟨us, h1, h2⟩ => by
  subst h1
  exact ⟨a, us, rfl, e, h2⟩
theorem keeps_ins {a C : Addr} {fs : List (Str × Den)} : Keeps a (insO C fs) (insD C fs) := fun H o e ⟨dx, us, h1, h2⟩ => by
  subst h1
  exact ⟨a, dx, us, rfl, e, h2⟩

section
variable {K : PySem.W.Frag} {Os : Own} {Γ : Ctx} {ta tb te : TE} {t u : TT} {A B R : Den}
/-! ### names, constants, operations -/
theorem ed_var {i : Nat} (h : Γ[i]? = some (some R)) : ED Os (tVar i) Γ R := fun σ H0 H e s w Q q => by
  obtain ⟨v, h1, h2⟩ := e.get h
  exact ⟨v, h1, q v H0 H (.refl s w) h2⟩
theorem ed_c {v : V} : ED Os (tC v) Γ (valD v) := fun σ H0 H e s w Q q => q v H0 H (.refl s w) rfl
theorem ed_c' {v : V} (h : ∀ H, R.p H v) : ED Os (tC v) Γ R := fun σ H0 H e s w Q q => q v H0 H (.refl s w) (h _)
theorem ED.to (h : ED Os te Γ A) (f : ∀ H v, A.p H v → R.p H v) : ED Os te Γ R := fun σ H0 H e s w Q q => h σ H0 H e s w Q fun v H0' H' g r => q v H0' H' g (f _ _ r)
theorem ED.cast (h : ED Os te Γ A) (e : A = R) : ED Os te Γ R := e ▸ h
theorem ET.cast {b c : Bool} (h : ET Os t Γ b) (e : b = c) : ET Os t Γ c := e ▸ h
theorem ed_op {r : R2} (ha : ED Os ta Γ A) (hb : ED Os tb Γ B) (hr : OD r A B R) : ED Os (tOp r ta tb) Γ R := fun σ H0 H e s w Q q =>
  ha σ H0 H e s w _ fun x H1 H1' g1 h1 => hb σ H1 H1' (e.mono g1.s0) g1.sub g1.ow _ fun y H2 H2' g2 h2 => hr H2 H2' x y g2.sub (A.mono g2.s0 h1) h2 Q fun v H3 H3' g3 h3 => q v H3 H3' ((g1.trans g2).trans (g3.up g2.ow)) h3
theorem ed_un {r : V → Hp → VK → Prop} (ha : ED Os ta Γ A) (hr : UD r A R) : ED Os (tUn r ta) Γ R := fun σ H0 H e s w Q q =>
  ha σ H0 H e s w _ fun x H1 H1' g1 h1 => hr H1 H1' x g1.sub h1 Q fun v H3 H3' g3 h3 => q v H3 H3' (g1.trans (g3.up g1.ow)) h3
theorem od_I0 {g : Int → Int → V} {i j : Int} : OD (rI0 g) (intD i) (intD j) (valD (g i j)) := fun H0 H x y s hx hy Q q => ⟨i, j, hx, hy, q _ H0 H (.refl s .nil) rfl⟩
theorem od_I {C : Int → Int → Prop} {g : Int → Int → V} {i j : Int} (h : C i j) : OD (rI C g) (intD i) (intD j) (valD (g i j)) := fun H0 H x y s hx hy Q q => ⟨i, j, hx, hy, h, q _ H0 H (.refl s .nil) rfl⟩
theorem od_eqS {i j : Str} : OD rEq (strD i) (strD j) (blD (decide (i = j))) := fun H0 H x y s hx hy Q q => by
  have e1 : x = V.str i := hx
  have e2 : y = V.str j := hy
  subst e1 e2
  refine ⟨rfl, ?_⟩
  have e : decide (V.str i = V.str j) = decide (i = j) := by
    by_cases z : i = j
    · subst z; simp
    · rw [decide_eq_false z, decide_eq_false (fun w => z (V.str.inj w))]
  rw [e]
  exact q _ H0 H (.refl s .nil) rfl
theorem od_neS {i j : Str} : OD rNe (strD i) (strD j) (blD (!decide (i = j))) := fun H0 H x y s hx hy Q q => by
  have e1 : x = V.str i := hx
  have e2 : y = V.str j := hy
  subst e1 e2
  refine ⟨rfl, ?_⟩
  have e : decide (V.str i = V.str j) = decide (i = j) := by
    by_cases z : i = j
    · subst z; simp
    · rw [decide_eq_false z, decide_eq_false (fun w => z (V.str.inj w))]
  rw [e]
  exact q _ H0 H (.refl s .nil) rfl
theorem od_eqI {i j : Int} : OD rEq (intD i) (intD j) (blD (decide (i = j))) := fun H0 H x y s hx hy Q q => by
  have e1 : x = V.int i := hx
  have e2 : y = V.int j := hy
  subst e1 e2
  refine ⟨rfl, ?_⟩
  have e : decide (V.int i = V.int j) = decide (i = j) := by
    by_cases z : i = j
    · subst z; simp
    · rw [decide_eq_false z, decide_eq_false (fun w => z (V.int.inj w))]
  rw [e]
  exact q _ H0 H (.refl s .nil) rfl
theorem od_neI {i j : Int} : OD rNe (intD i) (intD j) (blD (!decide (i = j))) := fun H0 H x y s hx hy Q q => by
  have e1 : x = V.int i := hx
  have e2 : y = V.int j := hy
  subst e1 e2
  refine ⟨rfl, ?_⟩
  have e : decide (V.int i = V.int j) = decide (i = j) := by
    by_cases z : i = j
    · subst z; simp
    · rw [decide_eq_false z, decide_eq_false (fun w => z (V.int.inj w))]
  rw [e]
  exact q _ H0 H (.refl s .nil) rfl
theorem od_neB {i j : Bool} : OD rNe (blD i) (blD j) (blD (i != j)) := fun H0 H x y s hx hy Q q => by
  have e1 : x = V.bl i := hx
  have e2 : y = V.bl j := hy
  subst e1 e2
  refine ⟨rfl, ?_⟩
  have e : (!decide (V.bl i = V.bl j)) = (i != j) := by cases i <;> cases j <;> rfl
  rw [e]
  exact q _ H0 H (.refl s .nil) rfl
/-! ### tests -/
theorem et_test {b : Bool} (h : ED Os te Γ (blD b)) : ET Os (tTest te) Γ b := fun σ H0 H e s w Q q => h σ H0 H e s w _ fun v H1 H1' g h1 => ⟨b, h1, q H1 H1' g⟩
theorem et_B {b : Bool} (h : ED Os te Γ (blD b)) : ET Os (tB te) Γ b := fun σ H0 H e s w Q q => h σ H0 H e s w _ fun v H1 H1' g h1 => ⟨b, h1, q H1 H1' g⟩
theorem et_and {a b : Bool} (h1 : ET Os t Γ a) (h2 : a = true → ET Os u Γ b) : ET Os (tAnd t u) Γ (a && b) := fun σ H0 H e s w Q q => h1 σ H0 H e s w _ fun H1 H1' g => by
  cases a with
  | true =>
    show u σ H1' Q
    exact h2 rfl σ H1 H1' (e.mono g.s0) g.sub g.ow Q fun H2 H2' g2 => q H2 H2' (g.trans g2)
  | false =>
    show Q false H1'
    exact q H1 H1' g
theorem et_or {a b : Bool} (h1 : ET Os t Γ a) (h2 : a = false → ET Os u Γ b) : ET Os (tOr t u) Γ (a || b) := fun σ H0 H e s w Q q => h1 σ H0 H e s w _ fun H1 H1' g => by
  cases a with
  | true =>
    show Q true H1'
    exact q H1 H1' g
  | false =>
    show u σ H1' Q
    exact h2 rfl σ H1 H1' (e.mono g.s0) g.sub g.ow Q fun H2 H2' g2 => q H2 H2' (g.trans g2)
theorem et_not {a : Bool} (h : ET Os t Γ a) : ET Os (tNot t) Γ (!a) := fun σ H0 H e s w Q q => h σ H0 H e s w _ fun H1 H1' g => q H1 H1' g
theorem ed_andV {a b : Bool} (h1 : ED Os ta Γ (blD a)) (h2 : a = true → ED Os tb Γ (blD b)) : ED Os (tAndV ta tb) Γ (blD (a && b)) := fun σ H0 H e s w Q q => h1 σ H0 H e s w _ fun x H1 H1' g hx => ⟨a, hx, by
  cases a with
  | true =>
    show tb σ H1' Q
    exact h2 rfl σ H1 H1' (e.mono g.s0) g.sub g.ow Q fun v H2 H2' g2 h => q v H2 H2' (g.trans g2) h
  | false =>
    show Q (.bl false) H1'
    exact q _ H1 H1' g rfl⟩
theorem ed_orV {a b : Bool} (h1 : ED Os ta Γ (blD a)) (h2 : a = false → ED Os tb Γ (blD b)) : ED Os (tOrV ta tb) Γ (blD (a || b)) := fun σ H0 H e s w Q q => h1 σ H0 H e s w _ fun x H1 H1' g hx => ⟨a, hx, by
  cases a with
  | true =>
    show Q (.bl true) H1'
    exact q _ H1 H1' g rfl
  | false =>
    show tb σ H1' Q
    exact h2 rfl σ H1 H1' (e.mono g.s0) g.sub g.ow Q fun v H2 H2' g2 h => q v H2 H2' (g.trans g2) h⟩
theorem ed_notV {a : Bool} (h1 : ED Os ta Γ (blD a)) : ED Os (tNotV ta) Γ (blD (!a)) := fun σ H0 H e s w Q q => h1 σ H0 H e s w _ fun x H1 H1' g hx => ⟨a, hx, q _ H1 H1' g rfl⟩
theorem ed_if {b : Bool} (h : ET Os t Γ b) (h1 : b = true → ED Os ta Γ R) (h2 : b = false → ED Os tb Γ R) : ED Os (tIf t ta tb) Γ R := fun σ H0 H e s w Q q => h σ H0 H e s w _ fun H1 H1' g => by
  cases b with
  | true =>
    show ta σ H1' Q
    exact h1 rfl σ H1 H1' (e.mono g.s0) g.sub g.ow Q fun v H2 H2' g2 h => q v H2 H2' (g.trans g2) h
  | false =>
    show tb σ H1' Q
    exact h2 rfl σ H1 H1' (e.mono g.s0) g.sub g.ow Q fun v H2 H2' g2 h => q v H2 H2' (g.trans g2) h
/-! ### argument lists, displays, calls -/
theorem ea_nil : EA Os tNil Γ [] := fun σ H0 H e s w Q q => q [] H0 H (.refl s w) .nil
theorem ea_cons {tr : TA} {Rs : List Den} (h : ED Os te Γ A) (hr : EA Os tr Γ Rs) : EA Os (tCons te tr) Γ (A :: Rs) := fun σ H0 H e s w Q q =>
  h σ H0 H e s w _ fun x H1 H1' g1 h1 => hr σ H1 H1' (e.mono g1.s0) g1.sub g1.ow _ fun vs H2 H2' g2 h2 => q (x :: vs) H2 H2' (g1.trans g2) (.cons (A.mono g2.s0 h1) h2)
theorem sz_of {n : Nat} (h : n ≤ 100000) : n ≤ sizeLine := Nat.le_trans h (by decide)
theorem sz_lt {n : Nat} (h : n < 100000) : n < sizeLine := Nat.lt_of_lt_of_le h (by decide)
theorem ed_tup {tA : TA} {Rs : List Den} (h : EA Os tA Γ Rs) (hl : Rs.length ≤ 100000 := by first | decide | (simp; done) | (simp <;> omega)) : ED Os (tTup tA) Γ (tupD Rs) := fun σ H0 H e s w Q q =>
  h σ H0 H e s w _ fun vs H1 H1' g1 h1 => ⟨sz_of (by rw [← Paired.length h1]; exact hl), fun p hp => q (.ref p) _ _ (g1.trans (.new g1.sub g1.ow hp)) ⟨p, vs, rfl, upd_same, h1.mono (same_upd (g1.sub.free hp))⟩⟩
theorem ed_lst {tA : TA} {Rs : List Den} (h : EA Os tA Γ Rs) (hl : Rs.length ≤ 100000 := by first | decide | (simp; done) | (simp <;> omega)) : ED Os (tLst tA) Γ (lstD Rs) := fun σ H0 H e s w Q q =>
  h σ H0 H e s w _ fun vs H1 H1' g1 h1 => ⟨sz_of (by rw [← Paired.length h1]; exact hl), fun p hp => q (.ref p) _ _ (g1.trans (.new g1.sub g1.ow hp)) ⟨p, vs, rfl, upd_same, h1.mono (same_upd (g1.sub.free hp))⟩⟩
theorem ed_cb {r : List V → Hp → VK → Prop} {tA : TA} {Rs : List Den} (h : EA Os tA Γ Rs) (hr : CD r Rs R) : ED Os (tCB r tA) Γ R := fun σ H0 H e s w Q q =>
  h σ H0 H e s w _ fun vs H1 H1' g1 h1 => hr H1 H1' vs g1.sub h1 Q fun v H2 H2' g2 h2 => q v H2 H2' (g1.trans (g2.up g1.ow)) h2

/-- a promise in such terms: rel tells arguments, one's own ahead and behind, answer -/
def DefSp (rel : List Den → Own → Own → Den → Prop) : Sp := fun vs H Q _ => ∃ (H0 : Hp) (Os Os' : Own) (Rs : List Den) (R : Den), Same H0 H ∧ Hold Os H0 H ∧ Fits H0 Rs vs ∧ rel Rs Os Os' R ∧ ∀ v H0' H', Grow Os H0 H Os' H0' H' → R.p H0' v → Q v H'
/-- of a def that writes nothing -/
def pure (rel : List Den → Den → Prop) : List Den → Own → Own → Den → Prop := fun Rs Os Os' R => Os = [] ∧ Os' = [] ∧ rel Rs R
theorem def_sp {rel : List Den → Own → Own → Den → Prop} {Rs : List Den} {Os Os' : Own} {R : Den} {vs : List V} {H0 H : Hp} {Q : VK} {E : XK} (s : Same H0 H) (w : Hold Os H0 H) (f : Fits H0 Rs vs) (r : rel Rs Os Os' R) (q : ∀ v H0' H', Grow Os H0 H Os' H0' H' → R.p H0' v → Q v H') : DefSp rel vs H Q E := ⟨H0, Os, Os', Rs, R, s, w, f, r, q⟩
theorem Hold.part {Os Os1 : Own} {H0 H : Hp} (w : Hold Os H0 H) (sub : ∀ q, q ∈ Os1 → q ∈ Os) (nd : (ads Os1).Nodup) : Hold Os1 H0 H := ⟨nd, fun q h => w.at_ q (sub q h)⟩
theorem nd1 {a : Addr} {O : Ow} : (ads [(a, O)]).Nodup := by
  show [a].Nodup
  exact List.nodup_cons.mpr ⟨(fun z => nomatch z), List.nodup_nil⟩
theorem fits_app {H : Hp} : ∀ {Rs Ds : List Den} {vs ds : List V}, Fits H Rs vs → Fits H Ds ds → Fits H (Rs ++ Ds) (vs ++ ds) := fun h1 h2 => Paired.app h1 h2
theorem ed_callO {rel : List Den → Own → Own → Den → Prop} {tA : TA} {Rs : List Den} {Os1 : Own} (h : EA Os tA Γ Rs) (nd : (ads Os1).Nodup) (sub : ∀ q, q ∈ Os1 → q ∈ Os) (hr : rel Rs Os1 Os1 R) : ED Os (tCall (DefSp rel) [] E0 tA) Γ R := fun σ H0 H e s w Q q =>
  h σ H0 H e s w _ fun vs H1 H1' g1 h1 => by
    rw [List.append_nil]
    exact def_sp g1.sub (g1.ow.part sub nd) h1 hr fun v H2 H2' g2 h2 => q v H2 H2' (g1.trans (g2.frame sub g1.ow)) h2
theorem ed_call {rel : List Den → Den → Prop} {tA : TA} {Rs : List Den} (h : EA Os tA Γ Rs) (hr : rel Rs R) : ED Os (tCall (DefSp (pure rel)) [] E0 tA) Γ R := ed_callO h (Os1 := []) List.nodup_nil (fun q z => nomatch z) ⟨rfl, rfl, hr⟩
/-- of the rng at a, alone or beside others -/
theorem ed_call1 {rel : List Den → Own → Own → Den → Prop} {tA : TA} {Rs : List Den} {a : Addr} {O : Ow} (h : EA Os tA Γ Rs) (hm : (a, O) ∈ Os) (hr : rel Rs [(a, O)] [(a, O)] R) : ED Os (tCall (DefSp rel) [] E0 tA) Γ R := ed_callO h nd1 (fun q hq => by rw [List.mem_singleton.mp hq]; exact hm) hr
/-! ### instances -/
theorem lookup_paired {H : Hp} {f : Str} : ∀ {fs : List (Str × Den)} {us : List (Str × V)}, Paired (fun (p : Str × Den) (q : Str × V) => p.1 = q.1 ∧ p.2.p H q.2) fs us →
    (∀ R, fs.lookup f = some R → ∃ v, us.lookup f = some v ∧ R.p H v) ∧ (fs.lookup f = none → us.lookup f = none)
  | _, _, .nil => ⟨fun R h => (nomatch h), fun _ => rfl⟩
  | p :: fs, q :: us, .cons r t => by
    obtain ⟨i1, i2⟩ := lookup_paired (f := f) t
    obtain ⟨k, R0⟩ := p
    obtain ⟨k', v0⟩ := q
    obtain ⟨e, h0⟩ := r
    dsimp at e h0
    subst e
    have e1 : ((k, R0) :: fs).lookup f = (match f == k with | true => some R0 | false => fs.lookup f) := rfl
    have e2 : ((k, v0) :: us).lookup f = (match f == k with | true => some v0 | false => us.lookup f) := rfl
    rw [e1, e2]
    cases z : (f == k) with
    | true => exact ⟨fun R h => ⟨v0, rfl, (Option.some.inj h) ▸ h0⟩, fun h => (nomatch h)⟩
    | false => exact ⟨i1, i2⟩
theorem ed_fld {C : Addr} {fs : List (Str × Den)} {f : Str} (h : ED Os te Γ (insD C fs)) (c : Cls K C) (n : NoAttr K C f) (l : fs.lookup f = some R) : ED Os (tFld K te f) Γ R := fun σ H0 H e s w Q q =>
  h σ H0 H e s w _ fun x H1 H1' g1 ⟨a, dx, us, ex, ea, p⟩ => by
    obtain ⟨v, h1, h2⟩ := (lookup_paired p).1 R l
    exact ⟨a, C, dx, us, v, ex, g1.sub _ _ ea, c, n, h1, q v H1 H1' g1 h2⟩
theorem ed_methO {C : Addr} {fs : List (Str × Den)} {m : Str} {rel : List Den → Own → Own → Den → Prop} {tA : TA} {Rs : List Den} {Os1 : Own} (h : ED Os te Γ (insD C fs)) (l : fs.lookup m = none) (ha : EA Os tA Γ Rs) (nd : (ads Os1).Nodup) (sub : ∀ q, q ∈ Os1 → q ∈ Os) (hr : rel (insD C fs :: Rs) Os1 Os1 R) : ED Os (tMeth C m (DefSp rel) [] E0 te tA) Γ R := fun σ H0 H e s w Q q =>
  h σ H0 H e s w _ fun x H1 H1' g1 hx => by
    obtain ⟨a, dx, us, ex, ea, p⟩ := id hx
    refine ⟨a, dx, us, ex, g1.sub _ _ ea, (lookup_paired p).2 l, ha σ H1 H1' (e.mono g1.s0) g1.sub g1.ow _ fun vs H2 H2' g2 h2 => ?_⟩
    rw [List.append_nil]
    exact def_sp g2.sub (g2.ow.part sub nd) (.cons ((insD C fs).mono g2.s0 hx) h2) hr fun v H3 H3' g3 h3 => q v H3 H3' ((g1.trans g2).trans (g3.frame sub g2.ow)) h3
theorem ed_meth {C : Addr} {fs : List (Str × Den)} {m : Str} {rel : List Den → Den → Prop} {tA : TA} {Rs : List Den} (h : ED Os te Γ (insD C fs)) (l : fs.lookup m = none) (ha : EA Os tA Γ Rs) (hr : rel (insD C fs :: Rs) R) : ED Os (tMeth C m (DefSp (pure rel)) [] E0 te tA) Γ R :=
  ed_methO h l ha (Os1 := []) List.nodup_nil (fun q z => nomatch z) ⟨rfl, rfl, hr⟩
/-- a method of a thing of one's own, which it leaves as it is told -/
theorem ed_methS {C a : Addr} {fs : List (Str × Den)} {m : Str} {rel : List Den → Own → Own → Den → Prop} {tA : TA} {Rs : List Den} {Os1 : Own} (h : ED Os te Γ (valD (.ref a))) (hm : (a, insO C fs) ∈ Os) (l : fs.lookup m = none) (ha : EA Os tA Γ Rs) (nd : (ads Os1).Nodup) (sub : ∀ q, q ∈ Os1 → q ∈ Os) (hr : rel (valD (.ref a) :: Rs) Os1 Os1 R) : ED Os (tMeth C m (DefSp rel) [] E0 te tA) Γ R := fun σ H0 H e s w Q q =>
  h σ H0 H e s w _ fun x H1 H1' g1 hx => by
    have ex : x = .ref a := hx
    subst ex
    obtain ⟨_, o, ea, dx, us, eo, p⟩ := g1.ow.at_ _ hm
    subst eo
    refine ⟨a, dx, us, rfl, ea, (lookup_paired p).2 l, ha σ H1 H1' (e.mono g1.s0) g1.sub g1.ow _ fun vs H2 H2' g2 h2 => ?_⟩
    rw [List.append_nil]
    exact def_sp g2.sub (g2.ow.part sub nd) (.cons rfl h2) hr fun v H3 H3' g3 h3 => q v H3 H3' ((g1.trans g2).trans (g3.frame sub g2.ow)) h3
/-- an attribute of a thing of one's own -/
theorem ed_fldO {C a : Addr} {fs : List (Str × Den)} {f : Str} (h : ED Os te Γ (valD (.ref a))) (hm : (a, insO C fs) ∈ Os) (c : Cls K C) (n : NoAttr K C f) (l : fs.lookup f = some R) : ED Os (tFld K te f) Γ R := fun σ H0 H e s w Q q =>
  h σ H0 H e s w _ fun x H1 H1' g1 hx => by
    have ex : x = .ref a := hx
    subst ex
    obtain ⟨_, o, ea, dx, us, eo, p⟩ := g1.ow.at_ _ hm
    subst eo
    obtain ⟨v, h1, h2⟩ := (lookup_paired p).1 R l
    exact ⟨a, C, dx, us, v, rfl, ea, c, n, h1, q v H1 H1' g1 h2⟩
/-- C(..): rel tells the arguments and what __init__ makes of the new instance -/
theorem ed_makeG {C : Addr} {fs : List (Str × Den)} {rel : List Den → Own → Own → Den → Prop} {tA : TA} {Rs Ds : List Den} {ds : List V} (ha : EA Os tA Γ Rs) (hd : ∀ H, Fits H Ds ds) (hr : ∀ x, rel (valD (.ref x) :: (Rs ++ Ds)) [(x, insO C [])] [(x, insO C fs)] nonD) : ED Os (tMake C (DefSp rel) ds E0 tA) Γ (insD C fs) := fun σ H0 H e s w Q q =>
  ha σ H0 H e s w _ fun vs H1 H1' g1 h1 x dx nx ndx ne => by
    have n0x := g1.sub.free nx
    have n0d := g1.sub.free ndx
    have sub2 : Same H1 (upd (upd H1' dx (.own x)) x (.ins C dx [])) := fun b o hb => by
      rw [upd_ne (ne_of_none hb n0x), upd_ne (ne_of_none hb n0d)]
      exact g1.sub b o hb
    refine def_sp sub2 ⟨nd1, fun q hq => ?_⟩ (.cons rfl (fits_app h1 (hd _))) (hr x) fun v H2 H2' g2 hv => ⟨hv, ?_⟩
    · rw [List.mem_singleton.mp hq]
      exact ⟨n0x, _, upd_same, dx, [], rfl, .nil⟩
    · obtain ⟨n2x, o, ex, dx', us, eo, pr⟩ := g2.ow.at_ _ List.mem_cons_self
      subst eo
      have xo : ∀ b, b ≠ x → b ∉ ads [(x, insO C [])] := fun b n z => n (List.mem_singleton.mp z)
      refine q (.ref x) (upd H2 x (.ins C dx' us)) H2' (g1.trans (Grow.up ⟨fun b o hb => ?_, fun b o _ hb => ?_, fun b o hb => ?_, fun b o _ hb n => ?_, .nil, fun _ z => nomatch z⟩ g1.ow)) ⟨x, dx', us, rfl, upd_same, Paired.mono' (fun p _ h => ⟨h.1, p.2.mono (same_upd n2x) h.2⟩) pr⟩
      · rw [upd_ne (ne_of_none hb n0x)]; exact g2.s0 b o hb
      · have hb1 := ne_of_none hb nx
        have hb2 := ne_of_none hb ndx
        exact g2.s1 b o (xo b hb1) (by rw [upd_ne hb1, upd_ne hb2]; exact hb)
      · by_cases z : b = x
        · subst z; rw [upd_same] at hb; cases hb; exact ex
        · rw [upd_ne z] at hb; exact g2.sub b o hb
      · have hb1 := ne_of_none hb nx
        have hb2 := ne_of_none hb ndx
        rw [upd_ne hb1]
        exact g2.fr b o (xo b hb1) (by rw [upd_ne hb1, upd_ne hb2]; exact hb) n
theorem ed_make {C : Addr} {fs : List (Str × Den)} {rel : List Den → Own → Own → Den → Prop} {tA : TA} {Rs : List Den} (ha : EA Os tA Γ Rs) (hr : ∀ x, rel (valD (.ref x) :: Rs) [(x, insO C [])] [(x, insO C fs)] nonD) : ED Os (tMake C (DefSp rel) [] E0 tA) Γ (insD C fs) :=
  ed_makeG ha (Ds := []) (fun _ => .nil) fun x => by rw [List.append_nil]; exact hr x
/-! ### seen as kept for a while -/
def er (a : Addr) (H : Hp) : Hp := fun b => if b = a then none else H b
theorem er_ne {a b : Addr} {H : Hp} (h : b ≠ a) : er a H b = H b := if_neg h
theorem er_same {a : Addr} {H : Hp} : er a H a = none := if_pos rfl
/-- R does not tell of the thing at a -/
def Free (a : Addr) (O : Ow) (R : Den) : Prop := ∀ H o v, H a = some o → (∃ H1, O.p H1 o) → R.p H v → R.p (er a H) v
theorem free_val {a : Addr} {O : Ow} {v : V} : Free a O (valD v) := fun _ _ _ _ _ h => h
theorem free_ex {a : Addr} {O : Ow} {α : Type} {P : α → Prop} {R : α → Den} (h : ∀ x, Free a O (R x)) : Free a O (exD P R) := fun H o v e r ⟨x, h1, h2⟩ => ⟨x, h1, h x H o v e r h2⟩
theorem ed_borrow {a : Addr} {O : Ow} {i : Nat} {D : Den} (kp : Keeps a O D) (hi : Γ[i]? = some (some (valD (.ref a)))) (fr : Free a O R) (hs : ∀ q, q ∈ Os → ∀ H H' o, q.2.p H o → q.2.p H' o) (h : ED Os te (Γ.set i (some D)) R) : ED ((a, O) :: Os) te Γ R := fun σ H0 H e s w Q q => by
  obtain ⟨na, o, ea, po⟩ := w.at_ (a, O) List.mem_cons_self
  have nd : (a :: ads Os).Nodup := w.nd
  obtain ⟨n1, n2⟩ := List.nodup_cons.mp nd
  have s1 : Same H0 (upd H0 a o) := same_upd na
  have s2 : Same (upd H0 a o) H := fun b u hb => by
    by_cases z : b = a
    · subst z; rw [upd_same] at hb; cases hb; exact ea
    · rw [upd_ne z] at hb; exact s b u hb
  have w2 : Hold Os (upd H0 a o) H := ⟨n2, fun p hp => by
    obtain ⟨n, u, eu, pu⟩ := w.at_ p (List.mem_cons_of_mem _ hp)
    exact ⟨by rw [upd_ne (fun z => n1 (by rw [← z]; exact ads_mem hp))]; exact n, u, eu, p.2.mono s1 pu⟩⟩
  have e2 : Env (upd H0 a o) (Γ.set i (some D)) σ := by
    have z := (e.mono s1).set i (R := D) (v := .ref a) (kp _ o upd_same (O.mono s1 po))
    obtain ⟨x, hx, rx⟩ := e.get hi
    have ex : x = .ref a := rx
    subst ex
    have e3 : σ.set i (some (.ref a)) = σ := by
      apply List.ext_getElem?
      intro j
      by_cases hj : j = i
      · subst hj
        have hlt := (List.getElem?_eq_some_iff.mp hx).1
        rw [List.getElem?_set_self hlt, hx]
      · rw [List.getElem?_set_ne (Ne.symm hj)]
    rw [e3] at z
    exact z
  refine h σ _ H e2 s2 w2 Q fun v H1 H1' g hv => q v (er a H1) H1' ⟨fun b u hb => ?_, fun b u hb eb => ?_, fun b u hb => ?_, fun b u hb eb nb => ?_, ⟨nd, fun p hp => ?_⟩, fun b hb => .inl hb⟩ (fr H1 o v (g.s0 _ _ upd_same) ⟨_, po⟩ hv)
  · rw [er_ne (ne_of_none hb na)]
    exact g.s0 b u (s1 b u hb)
  · exact g.s1 b u (fun z => hb (List.mem_cons_of_mem _ z)) eb
  · by_cases z : b = a
    · subst z; rw [er_same] at hb; cases hb
    · rw [er_ne z] at hb; exact g.sub b u hb
  · have ne : b ≠ a := fun z => hb (by rw [z]; exact List.mem_cons_self)
    rw [er_ne ne]
    exact g.fr b u (fun z => hb (List.mem_cons_of_mem _ z)) eb (by rw [upd_ne ne]; exact nb)
  · rcases List.mem_cons.mp hp with z | z
    · subst z
      refine ⟨er_same, o, g.s1 a o n1 ea, O.mono (fun b u hb => ?_) po⟩
      rw [er_ne (ne_of_none hb na)]
      exact g.s0 b u (s1 b u hb)
    · obtain ⟨n, u, eu, pu⟩ := g.ow.at_ p z
      exact ⟨by unfold er; split <;> first | rfl | exact n, u, eu, hs p z _ _ _ pu⟩
/-- a narrower view of one's own -/
theorem ED.sub {Os1 : Own} (h : ED Os1 te Γ R) (nd : (ads Os1).Nodup) (sub : ∀ q, q ∈ Os1 → q ∈ Os) : ED Os te Γ R := fun σ H0 H e s w Q q => h σ H0 H e s (w.part sub nd) Q fun v H0' H' g hv => q v H0' H' (g.frame sub w) hv
end
end Dn
/-! DB -/
/-! Statements, loops, comprehensions in such terms. -/
namespace Dn
open PySem PySem.Spec PyProof.Rows L2
/-- A says as much as R -/
def Sub (A R : Den) : Prop := ∀ H v, A.p H v → R.p H v
theorem Sub.refl {A : Den} : Sub A A := fun _ _ h => h
/-- a block: it falls through to one of N, or gives back one of R -/
def SB (Os : Own) (tb : TS) (Γ : Ctx) (N : Own → Ctx → Prop) (R : Own → Den → Prop) : Prop := ∀ (σ : L2.St) (H0 H : Hp) (D : Ends), Env H0 Γ σ → Same H0 H → Hold Os H0 H →
  (∀ Os' Γ', N Os' Γ' → ∀ σ' H0' H', Grow Os H0 H Os' H0' H' → Env H0' Γ' σ' → D.nx σ' H') → (∀ Os' R', R Os' R' → ∀ v H0' H', Grow Os H0 H Os' H0' H' → R'.p H0' v → D.rt v H') → tb D σ H
/-- just this state -/
def to (Os : Own) (Γ : Ctx) : Own → Ctx → Prop := fun o g => o = Os ∧ g = Γ
/-- a target: it takes what A tells; is: the slots that it stores -/
def GD (g : TG) (Γ : Ctx) (A : Den) (Γ' : Ctx) (is : List Nat) : Prop := ∀ (σ : L2.St) (H0 H : Hp) (x : V), Env H0 Γ σ → Same H0 H → A.p H0 x → ∀ Q : L2.St → Hp → Prop,
  (∀ σ' H0' H', Grow [] H0 H [] H0' H' → Env H0' Γ' σ' → (∀ vs, (∀ i ∈ is, i ∈ vs) → wipe σ' vs = wipe σ vs) → Q σ' H') → g x σ H Q
/-- at any growth of H0 the i-th turn gives what Rs tells -/
def Itd' (J : It) (H0 : Hp) (Rs : List Den) : Prop := ∀ H1 H1', Same H0 H1 → Same H1 H1' →
  (∀ i, i < Rs.length → J.go i H1') ∧ J.stop Rs.length H1' ∧ ∀ i x H2', J.yld i H1' x H2' → ∀ R, Rs[i]? = some R → ∃ H2, Grow [] H1 H1' [] H2 H2' ∧ R.p H2 x
def EI (Os : Own) (wi : TI) (Γ : Ctx) (P : List Den → Prop) : Prop := ∀ (σ : L2.St) (H0 H : Hp), Env H0 Γ σ → Same H0 H → Hold Os H0 H → ∀ R : It → Hp → Prop, (∀ J H0' H' Rs, P Rs → Grow Os H0 H Os H0' H' → Itd' J H0' Rs → R J H') → wi σ H R
section
variable {K : PySem.W.Frag} {Os Os1 Os2 : Own} {Γ Γ1 Γ' : Ctx} {ta tb te : TE} {t u : TT} {A B R : Den} {g g' : TG} {wi : TI} {sa sb sc : TS} {N M : Own → Ctx → Prop} {O : Own → Den → Prop}
theorem wipe_mem {i : Nat} : ∀ {vs : List Nat} {σ : L2.St} {x : Option V}, i ∈ vs → wipe (σ.set i x) vs = wipe σ vs
  | v :: vs, σ, x, h => by
    unfold wipe
    by_cases m : i ∈ vs
    · rw [wipe_mem m]
    · have e : i = v := by
        rcases List.mem_cons.mp h with e | e
        · exact e
        · exact absurd e m
      subst e
      have q : ∀ {vs : List Nat} {σ : L2.St}, i ∉ vs → wipe (σ.set i x) vs = (wipe σ vs).set i x := by
        intro vs
        induction vs with
        | nil => intro σ _; rfl
        | cons w ws ih =>
          intro σ hn
          have h1 : i ≠ w := fun z => hn (z ▸ List.mem_cons_self)
          unfold wipe
          rw [ih fun z => hn (List.mem_cons_of_mem _ z), List.set_comm _ _ h1]
      rw [q m, List.set_set]
theorem wipe_none {i : Nat} : ∀ {vs : List Nat} {σ : L2.St}, i ∈ vs → (wipe σ vs).set i none = wipe σ vs
  | v :: vs, σ, h => by
    show ((wipe σ vs).set v none).set i none = (wipe σ vs).set v none
    by_cases z : i = v
    · subst z; rw [List.set_set]
    · rw [List.set_comm _ _ (Ne.symm z)]
      rcases List.mem_cons.mp h with q | q
      · exact absurd q z
      · rw [wipe_none q]
theorem wipe_wipe {vs : List Nat} {σ : L2.St} : ∀ {ws : List Nat}, (∀ i ∈ ws, i ∈ vs) → wipe (wipe σ vs) ws = wipe σ vs
  | [], _ => rfl
  | w :: ws, h => by
    show (wipe (wipe σ vs) ws).set w none = _
    rw [wipe_wipe fun i hi => h i (List.mem_cons_of_mem _ hi), wipe_none (h w List.mem_cons_self)]
theorem gd_name {i : Nat} : GD (gName i) Γ A (Γ.set i (some A)) [i] := fun σ H0 H x e s h Q q => q _ H0 H (.refl s .nil) (e.set i h) fun vs hv => wipe_mem (hv i List.mem_cons_self)
theorem gd_tup2 {is js : List Nat} (h1 : GD g Γ A Γ1 is) (h2 : GD g' Γ1 B Γ' js) : GD (gTup K 2 (gCons g (gCons g' gNil))) Γ (tupD [A, B]) Γ' (is ++ js) := fun σ H0 H x e s ⟨a, vs, ex, ht, hf⟩ Q q => by
  cases hf with
  | cons r1 t1 => cases t1 with
    | cons r2 t2 =>
      cases t2
      refine ⟨a, _, ex, .of (s _ _ ht), rfl, _, _, rfl, h1 σ H0 H _ e s r1 _ fun σ1 H1 H1' g1 e1 w1 => ?_⟩
      refine ⟨_, _, rfl, h2 σ1 H1 H1' _ e1 g1.sub (B.mono g1.s0 r2) _ fun σ2 H2 H2' g2 e2 w2 => ⟨rfl, q _ H2 H2' (g1.trans g2) e2 fun vs hv => ?_⟩⟩
      rw [w2 vs fun i hi => hv i (List.mem_append_right _ hi), w1 vs fun i hi => hv i (List.mem_append_left _ hi)]
/-! ### statements -/
theorem sb_asg {i : Nat} (h : ED Os te Γ A) (hn : N Os (Γ.set i (some A)) := by exact ⟨rfl, rfl⟩) : SB Os (tAsg te (gName i)) Γ N O := fun σ H0 H D e s w q _ => h σ H0 H e s w _ fun v H0' H' gr hv => q _ _ hn _ H0' H' gr ((e.mono gr.s0).set i hv)
/-- of one of many, which one is told from here on -/
theorem sb_asgX {α : Type} {P : α → Prop} {F : α → Den} {i : Nat} (h : ED Os te Γ (exD P F)) (hn : ∀ x, P x → N Os (Γ.set i (some (F x)))) : SB Os (tAsg te (gName i)) Γ N O := fun σ H0 H D e s w q _ => h σ H0 H e s w _ fun v H0' H' gr ⟨x, hx, hv⟩ => q _ _ (hn x hx) _ H0' H' gr ((e.mono gr.s0).set i hv)
theorem sb_asgG {is : List Nat} (h : ED Os te Γ A) (hg : GD g Γ A Γ' is) (hn : N Os Γ' := by exact ⟨rfl, rfl⟩) : SB Os (tAsg te g) Γ N O := fun σ H0 H D e s w q _ => h σ H0 H e s w _ fun v H1 H1' g1 hv =>
  hg σ H1 H1' v (e.mono g1.s0) g1.sub hv _ fun σ' H2 H2' g2 e2 _ => q _ _ hn _ H2 H2' (g1.trans (g2.up g1.ow)) e2
theorem sb_asgGX {α : Type} {P : α → Prop} {F : α → Den} {is : α → List Nat} {Γx : α → Ctx} (h : ED Os te Γ (exD P F)) (hg : ∀ x, P x → GD g Γ (F x) (Γx x) (is x)) (hn : ∀ x, P x → N Os (Γx x)) : SB Os (tAsg te g) Γ N O := fun σ H0 H D e s w q _ => h σ H0 H e s w _ fun v H1 H1' g1 ⟨x, hx, hv⟩ =>
  hg x hx σ H1 H1' v (e.mono g1.s0) g1.sub hv _ fun σ' H2 H2' g2 e2 _ => q _ _ (hn x hx) _ H2 H2' (g1.trans (g2.up g1.ow)) e2
theorem sb_ret (h : ED Os te Γ R) (hr : O Os R := by first | exact ⟨rfl, Sub.refl⟩ | exact ⟨rfl, rfl⟩) : SB Os (tRet te) Γ N O := fun σ H0 H D e s w _ q => h σ H0 H e s w _ fun v H0' H' gr hv => q _ _ hr v H0' H' gr hv
theorem sb_retN (hr : O Os nonD := by first | exact ⟨rfl, Sub.refl⟩ | exact ⟨rfl, rfl⟩) : SB Os tRetN Γ N O := fun σ H0 H D e s w _ q => q _ _ hr _ H0 H (.refl s w) rfl
theorem sb_next (hn : N Os Γ := by first | exact ⟨rfl, rfl⟩ | exact ⟨rfl, Sub.refl⟩) : SB Os tNext Γ N O := fun σ H0 H D e s w q _ => q _ _ hn σ H0 H (.refl s w) e
theorem sb_drop (h : ED Os te Γ A) (hn : N Os Γ := by first | exact ⟨rfl, rfl⟩ | exact ⟨rfl, Sub.refl⟩) : SB Os (tDrop te) Γ N O := fun σ H0 H D e s w q _ => h σ H0 H e s w _ fun v H0' H' gr _ => q _ _ hn σ H0' H' gr (e.mono gr.s0)
/-- what comes behind, for each state -/
theorem sb_seqG (h1 : SB Os sa Γ M O) (h2 : ∀ Os1 Γ1, M Os1 Γ1 → SB Os1 sb Γ1 N O) : SB Os (tSeq sa sb) Γ N O := fun σ H0 H D e s w q r => by
  refine h1 σ H0 H { D with nx := sb D } e s w (fun Os1 Γ1 m σ1 H1 H1' g1 e1 => ?_) r
  exact h2 Os1 Γ1 m σ1 H1 H1' D e1 g1.sub g1.ow (fun Os' Γ' hΓ σ2 H2 H2' g2 e2 => q Os' Γ' hΓ σ2 H2 H2' (g1.trans g2) e2) fun Os' R' hR v H2 H2' g2 hv => r Os' R' hR v H2 H2' (g1.trans g2) hv
theorem sb_seq (h1 : SB Os sa Γ (to Os1 Γ1) O) (h2 : SB Os1 sb Γ1 N O) : SB Os (tSeq sa sb) Γ N O := sb_seqG h1 fun o g m => by
  obtain ⟨rfl, rfl⟩ := m
  exact h2
def no : Own → Ctx → Prop := fun _ _ => False
/-- it gives back ahead of what follows -/
theorem sb_stop (h1 : SB Os sa Γ no O) : SB Os (tSeq sa sb) Γ N O := sb_seqG h1 fun _ _ m => nomatch m
theorem sb_if {b : Bool} (h : ET Os t Γ b) (h1 : b = true → SB Os sa Γ N O) (h2 : b = false → SB Os sb Γ N O) : SB Os (tIfS t sa sb) Γ N O := fun σ H0 H D e s w q r => h σ H0 H e s w _ fun H1 H1' g1 => by
  cases b with
  | true =>
    show sa D σ H1'
    exact h1 rfl σ H1 H1' D (e.mono g1.s0) g1.sub g1.ow (fun Os' Γ' hΓ σ' H2 H2' g2 e2 => q Os' Γ' hΓ σ' H2 H2' (g1.trans g2) e2) fun Os' R' hR v H2 H2' g2 hv => r Os' R' hR v H2 H2' (g1.trans g2) hv
  | false =>
    show sb D σ H1'
    exact h2 rfl σ H1 H1' D (e.mono g1.s0) g1.sub g1.ow (fun Os' Γ' hΓ σ' H2 H2' g2 e2 => q Os' Γ' hΓ σ' H2 H2' (g1.trans g2) e2) fun Os' R' hR v H2 H2' g2 hv => r Os' R' hR v H2 H2' (g1.trans g2) hv
/-- a test of which nothing is told -/
theorem sb_ifN (h : EN Os t Γ) (h1 : SB Os sa Γ N O) (h2 : SB Os sb Γ N O) : SB Os (tIfS t sa sb) Γ N O := fun σ H0 H D e s w q r => h σ H0 H e s w _ fun b H1 H1' g1 => by
  cases b with
  | true =>
    show sa D σ H1'
    exact h1 σ H1 H1' D (e.mono g1.s0) g1.sub g1.ow (fun Os' Γ' hΓ σ' H2 H2' g2 e2 => q Os' Γ' hΓ σ' H2 H2' (g1.trans g2) e2) fun Os' R' hR v H2 H2' g2 hv => r Os' R' hR v H2 H2' (g1.trans g2) hv
  | false =>
    show sb D σ H1'
    exact h2 σ H1 H1' D (e.mono g1.s0) g1.sub g1.ow (fun Os' Γ' hΓ σ' H2 H2' g2 e2 => q Os' Γ' hΓ σ' H2 H2' (g1.trans g2) e2) fun Os' R' hR v H2 H2' g2 hv => r Os' R' hR v H2 H2' (g1.trans g2) hv
/-- an if, and what follows either way -/
theorem sb_ifs {b : Bool} (h : ET Os t Γ b) (h1 : b = true → SB Os (tSeq sa sc) Γ N O) (h2 : b = false → SB Os (tSeq sb sc) Γ N O) : SB Os (tSeq (tIfS t sa sb) sc) Γ N O := fun σ H0 H D e s w q r => by
  have z : SB Os (fun D σ H => tSeq (tIfS t sa sb) sc D σ H) Γ N O := fun σ H0 H D e s w q r => by
    show t σ H fun b H1 => if b = true then sa { D with nx := sc D } σ H1 else sb { D with nx := sc D } σ H1
    exact sb_if (sa := tSeq sa sc) (sb := tSeq sb sc) h h1 h2 σ H0 H D e s w q r
  exact z σ H0 H D e s w q r
theorem sb_ifsN (h : EN Os t Γ) (h1 : SB Os (tSeq sa sc) Γ N O) (h2 : SB Os (tSeq sb sc) Γ N O) : SB Os (tSeq (tIfS t sa sb) sc) Γ N O := fun σ H0 H D e s w q r => by
  have z : SB Os (fun D σ H => tSeq (tIfS t sa sb) sc D σ H) Γ N O := fun σ H0 H D e s w q r => by
    show t σ H fun b H1 => if b = true then sa { D with nx := sc D } σ H1 else sb { D with nx := sc D } σ H1
    exact sb_ifN (sa := tSeq sa sc) (sb := tSeq sb sc) h h1 h2 σ H0 H D e s w q r
  exact z σ H0 H D e s w q r
theorem sb_skip (h : SB Os sc Γ N O) : SB Os (tSeq tNext sc) Γ N O := h
theorem sb_par {i j : Nat} {tA : TA} (h : EA Os tA Γ [A, B]) (hn : N Os ((Γ.set i (some A)).set j (some B)) := by exact ⟨rfl, rfl⟩) : SB Os (tPar i j tA) Γ N O := fun σ H0 H D e s w q _ => h σ H0 H e s w _ fun vs H1 H1' g1 hf => by
  cases hf with
  | cons r1 t1 => cases t1 with
    | cons r2 t2 =>
      cases t2
      exact ⟨_, _, rfl, q _ _ hn _ H1 H1' g1 (((e.mono g1.s0).set i r1).set j r2)⟩
theorem sb_aug {i : Nat} {f : Int → Int → Int} {a b : Int} (hx : Γ[i]? = some (some (intD a))) (h : ED Os te Γ (intD b)) (hn : N Os (Γ.set i (some (intD (f a b)))) := by exact ⟨rfl, rfl⟩) : SB Os (tAug i te (ipI f)) Γ N O := fun σ H0 H D e s w q _ => by
  obtain ⟨x, h1, h2⟩ := e.get hx
  refine ⟨x, h1, h σ H0 H e s w _ fun v H1 H1' g1 hv => ⟨a, b, h2, hv, q _ _ hn _ H1 H1' g1 ((e.mono g1.s0).set i rfl)⟩⟩
/-- fewer slots told -/
def Less (Γ' Γ : Ctx) : Prop := Γ'.length = Γ.length ∧ ∀ (i : Nat) (R : Den), Γ'[i]? = some (some R) → Γ[i]? = some (some R)
theorem Less.refl : Less Γ Γ := ⟨rfl, fun _ _ h => h⟩
theorem env_of : ∀ {H : Hp} {Γ : Ctx} {σ : L2.St}, Γ.length = σ.length → (∀ (i : Nat) (R : Den), Γ[i]? = some (some R) → ∃ x, σ[i]? = some (some x) ∧ R.p H x) → Env H Γ σ
  | _, [], [], _, _ => .nil
  | _, [], _ :: _, e, _ => by cases e
  | _, _ :: _, [], e, _ => by cases e
  | H, r :: Γ, v :: σ, e, h => by
    refine .cons (fun R hR => ?_) (env_of (Nat.succ.inj e) fun i R hi => ?_)
    · obtain ⟨x, h1, h2⟩ := h 0 R (by rw [hR] <;> rfl)
      simp at h1
      exact ⟨x, h1, h2⟩
    · obtain ⟨x, h1, h2⟩ := h (i + 1) R (by simpa using hi)
      exact ⟨x, by simpa using h1, h2⟩
theorem Env.less {H : Hp} {σ : L2.St} (e : Env H Γ σ) (l : Less Γ' Γ) : Env H Γ' σ := env_of (l.1.trans e.len) fun i R h => e.get (l.2 i R h)
/-- the state behind, seen as one of N -/
theorem SB.impG {N' : Own → Ctx → Prop} {O' : Own → Den → Prop} (h : SB Os sa Γ N O) (hn : ∀ o g, N o g → ∃ g', N' o g' ∧ Less g' g) (ho : ∀ o d, O o d → O' o d) : SB Os sa Γ N' O' := fun σ H0 H D e s w q r =>
  h σ H0 H D e s w (fun o g m σ' H0' H' g1 e1 => by
    obtain ⟨g', m', l⟩ := hn o g m
    exact q o g' m' σ' H0' H' g1 (e1.less l)) fun o d m => r o d (ho o d m)
theorem SB.less (h : SB Os sa Γ (to Os1 Γ1) O) (l : Less Γ' Γ1) : SB Os sa Γ (to Os1 Γ') O := h.impG (fun o g m => by obtain ⟨rfl, rfl⟩ := m; exact ⟨Γ', ⟨rfl, rfl⟩, l⟩) fun _ _ h => h
theorem SB.never (h : SB Os sa Γ no O) : SB Os sa Γ N O := h.impG (fun _ _ m => nomatch m) fun _ _ h => h
theorem SB.pre (h : SB Os sa Γ' N O) (l : Less Γ' Γ) : SB Os sa Γ N O := fun σ H0 H D e s w q r => h σ H0 H D (e.less l) s w q r
/-! ### things of one's own -/
/-- a new list of one's own -/
theorem sb_new {i : Nat} {tA : TA} {Rs : List Den} (h : EA Os tA Γ Rs) (hn : ∀ a, N ((a, lstO Rs) :: Os) (Γ.set i (some (valD (.ref a))))) (hl : Rs.length ≤ 100000 := by first | decide | (simp; done) | (simp <;> omega)) : SB Os (tAsg (tLst tA) (gName i)) Γ N O := fun σ H0 H D e s w q _ => h σ H0 H e s w _ fun vs H1 H1' g1 hf =>
  ⟨sz_of (by rw [← Paired.length hf]; exact hl), fun a ha => q _ _ (hn a) _ H1 (upd H1' a (.lst vs)) (g1.trans ⟨Same.refl _, fun b o _ hb => same_upd ha b o hb, g1.sub.trans (same_upd ha), fun b o _ _ n => n,
    ⟨List.nodup_cons.mpr ⟨g1.ow.out ha, g1.ow.nd⟩, fun p hp => by
      rcases List.mem_cons.mp hp with z | z
      · subst z; exact ⟨g1.sub.free ha, _, upd_same, vs, rfl, hf⟩
      · obtain ⟨n, o, eo, po⟩ := g1.ow.at_ p z
        exact ⟨n, o, same_upd ha _ _ eo, po⟩⟩, fun b hb => by
      rcases List.mem_cons.mp hb with z | z
      · exact .inr (by rw [show b = a from z]; exact ha)
      · exact .inl z⟩) ((e.mono g1.s0).set i rfl)⟩
/-- a new dict of one's own -/
theorem sb_newK {i : Nat} (hn : ∀ a, N ((a, dctO .dK []) :: Os) (Γ.set i (some (valD (.ref a))))) : SB Os (tAsg tDNewK (gName i)) Γ N O := fun σ H0 H D e s w q _ => fun a ha =>
  q _ _ (hn a) _ H0 (upd H a (.dK [])) ⟨Same.refl _, fun b o _ hb => same_upd ha b o hb, s.trans (same_upd ha), fun b o _ _ n => n,
    ⟨List.nodup_cons.mpr ⟨w.out ha, w.nd⟩, fun p hp => by
      rcases List.mem_cons.mp hp with z | z
      · subst z; exact ⟨s.free ha, _, upd_same, [], rfl, .nil⟩
      · obtain ⟨n, o, eo, po⟩ := w.at_ p z
        exact ⟨n, o, same_upd ha _ _ eo, po⟩⟩, fun b hb => by
      rcases List.mem_cons.mp hb with z | z
      · exact .inr (by rw [show b = a from z]; exact ha)
      · exact .inl z⟩ (e.set i rfl)
theorem grow_set {a : Addr} {O1 O2 : Ow} {H0 H : Hp} {o : HO} (s : Same H0 H) (w : Hold ((a, O1) :: Os) H0 H) (p : O2.p H0 o) : Grow ((a, O1) :: Os) H0 H ((a, O2) :: Os) H0 (upd H a o) := by
  have nd : (a :: ads Os).Nodup := w.nd
  obtain ⟨n1, n2⟩ := List.nodup_cons.mp nd
  have na := (w.at_ (a, O1) List.mem_cons_self).1
  refine ⟨Same.refl _, fun b u hb eb => ?_, fun b u hb => ?_, fun b u _ _ n => n, ⟨nd, fun q hq => ?_⟩, fun b hb => .inl hb⟩
  · rw [upd_ne fun z => hb (by rw [z]; exact List.mem_cons_self)]; exact eb
  · rw [upd_ne (ne_of_none hb na)]; exact s b u hb
  · rcases List.mem_cons.mp hq with z | z
    · subst z; exact ⟨na, o, upd_same, p⟩
    · obtain ⟨n, u, eu, pu⟩ := w.at_ q (List.mem_cons_of_mem _ z)
      exact ⟨n, u, by rw [upd_ne fun z' => n1 (by rw [← z']; exact ads_mem z)]; exact eu, pu⟩
theorem len_paired {α β : Type} {F : α → β → Prop} {l₁ : List α} {l₂ : List β} (h : Paired F l₁ l₂) : l₁.length = l₂.length := Paired.length h
/-- xs.append(e) -/
theorem sb_app {a : Addr} {tA : TA} {Rs : List Den} (ho : ED ((a, lstO Rs) :: Os) te Γ (valD (.ref a))) (h : EA ((a, lstO Rs) :: Os) tA Γ [A]) (hl : Rs.length < 100000) (hn : N ((a, lstO (Rs ++ [A])) :: Os) Γ := by exact ⟨rfl, rfl⟩) : SB ((a, lstO Rs) :: Os) (tDrop (tBM K "list" rAppend te tA)) Γ N O := fun σ H0 H D e s w q _ =>
  ho σ H0 H e s w _ fun x H1 H1' g1 hx => by
    have ex : x = .ref a := hx
    subst ex
    obtain ⟨_, o1, e1, us1, eo1, f1⟩ := g1.ow.at_ (a, lstO Rs) List.mem_cons_self
    subst eo1
    refine ⟨.inl ⟨rfl, us1, .of e1⟩, h σ H1 H1' (e.mono g1.s0) g1.sub g1.ow _ fun vs H2 H2' g2 hf => ?_⟩
    obtain ⟨_, o2, e2, us2, eo2, f2⟩ := g2.ow.at_ (a, lstO Rs) List.mem_cons_self
    subst eo2
    cases hf with
    | cons r t =>
      cases t
      exact ⟨a, us2, _, rfl, rfl, e2, sz_lt (by rw [← Paired.length f2]; exact hl), q _ _ hn σ H2 _ ((g1.trans g2).trans (grow_set g2.sub g2.ow ⟨_, rfl, Paired.app f2 (.cons r .nil)⟩)) ((e.mono g1.s0).mono g2.s0)⟩
/-- the thing of one's own is kept from here on -/
theorem grow_keep {a : Addr} {O1 : Ow} {H0 H : Hp} {o : HO} (s : Same H0 H) (w : Hold ((a, O1) :: Os) H0 H) (eo : H a = some o) : Grow ((a, O1) :: Os) H0 H Os (upd H0 a o) H := by
  have nd : (a :: ads Os).Nodup := w.nd
  obtain ⟨n1, n2⟩ := List.nodup_cons.mp nd
  have na := (w.at_ (a, O1) List.mem_cons_self).1
  refine ⟨same_upd na, fun b u _ eb => eb, fun b u hb => ?_, fun b u hb _ n => ?_, ⟨n2, fun q hq => ?_⟩, fun b hb => .inl (List.mem_cons_of_mem _ hb)⟩
  · by_cases z : b = a
    · subst z; rw [upd_same] at hb; cases hb; exact eo
    · rw [upd_ne z] at hb; exact s b u hb
  · rw [upd_ne fun z => hb (by rw [z]; exact List.mem_cons_self)]; exact n
  · obtain ⟨n, u, eu, pu⟩ := w.at_ q (List.mem_cons_of_mem _ hq)
    exact ⟨by rw [upd_ne fun z' => n1 (by rw [← z']; exact ads_mem hq)]; exact n, u, eu, q.2.mono (same_upd na) pu⟩
theorem set_id {σ : L2.St} {i : Nat} {v : Option V} (h : σ[i]? = some v) : σ.set i v = σ := by
  apply List.ext_getElem?
  intro j
  by_cases hj : j = i
  · subst hj
    have hlt := (List.getElem?_eq_some_iff.mp h).1
    rw [List.getElem?_set_self hlt, h]
  · rw [List.getElem?_set_ne (Ne.symm hj)]
theorem sb_keep {a : Addr} {O1 : Ow} {i : Nat} {D1 : Den} (kp : Keeps a O1 D1) (hi : Γ[i]? = some (some (valD (.ref a)))) (h : SB Os sa (Γ.set i (some D1)) N O) : SB ((a, O1) :: Os) sa Γ N O := fun σ H0 H D e s w q r => by
  obtain ⟨na, o, ea, po⟩ := w.at_ (a, O1) List.mem_cons_self
  have g1 := grow_keep s w ea
  have e2 : Env (upd H0 a o) (Γ.set i (some D1)) σ := by
    have z := (e.mono g1.s0).set i (R := D1) (v := .ref a) (kp _ o upd_same (O1.mono g1.s0 po))
    obtain ⟨x, hx, rx⟩ := e.get hi
    have ex : x = .ref a := rx
    subst ex
    rwa [set_id hx] at z
  exact h σ _ H D e2 g1.sub g1.ow (fun Os' Γ' m σ' H1 H1' g2 e2 => q Os' Γ' m σ' H1 H1' (g1.trans g2) e2) fun Os' R' m v H1 H1' g2 hv => r Os' R' m v H1 H1' (g1.trans g2) hv
/-- one of many things of one's own: which one is told from here on -/
theorem sb_open {α : Type} {P : α → Prop} {F : α → Ow} {a : Addr} (h : ∀ x, P x → SB ((a, F x) :: Os) sa Γ N O) : SB ((a, exO P F) :: Os) sa Γ N O := fun σ H0 H D e s w q r => by
  obtain ⟨na, o, ea, x, hx, px⟩ := w.at_ (a, exO P F) List.mem_cons_self
  have w2 : Hold ((a, F x) :: Os) H0 H := ⟨w.nd, fun p hp => by
    rcases List.mem_cons.mp hp with z | z
    · subst z; exact ⟨na, o, ea, px⟩
    · exact w.at_ p (List.mem_cons_of_mem _ z)⟩
  exact h x hx σ H0 H D e s w2 (fun Os' Γ' m σ' H1 H1' g2 e2 => q Os' Γ' m σ' H1 H1' ⟨g2.s0, g2.s1, g2.sub, g2.fr, g2.ow, g2.nw⟩ e2) fun Os' R' m v H1 H1' g2 hv => r Os' R' m v H1 H1' ⟨g2.s0, g2.s1, g2.sub, g2.fr, g2.ow, g2.nw⟩ hv
/-- the thing of one's own is told in other words -/
theorem sb_own {a : Addr} {O1 O2 : Ow} (f : ∀ H o, O1.p H o → O2.p H o) (h : SB ((a, O2) :: Os) sa Γ N O) : SB ((a, O1) :: Os) sa Γ N O := fun σ H0 H D e s w q r => by
  have w2 : Hold ((a, O2) :: Os) H0 H := ⟨w.nd, fun p hp => by
    rcases List.mem_cons.mp hp with z | z
    · subst z
      obtain ⟨na, o, ea, px⟩ := w.at_ (a, O1) List.mem_cons_self
      exact ⟨na, o, ea, f _ _ px⟩
    · exact w.at_ p (List.mem_cons_of_mem _ z)⟩
  exact h σ H0 H D e s w2 (fun Os' Γ' m σ' H1 H1' g2 e2 => q Os' Γ' m σ' H1 H1' ⟨g2.s0, g2.s1, g2.sub, g2.fr, g2.ow, g2.nw⟩ e2) fun Os' R' m v H1 H1' g2 hv => r Os' R' m v H1 H1' ⟨g2.s0, g2.s1, g2.sub, g2.fr, g2.ow, g2.nw⟩ hv
/-- .. behind -/
theorem SB.own {a : Addr} {O1 O2 : Ow} (f : ∀ H o, O1.p H o → O2.p H o) (h : SB Os sa Γ (to ((a, O1) :: Os1) Γ1) O) : SB Os sa Γ (to ((a, O2) :: Os1) Γ1) O := fun σ H0 H D e s w q r =>
  h σ H0 H D e s w (fun Os' Γ' m σ' H1 H1' g2 e2 => by
    obtain ⟨rfl, rfl⟩ := m
    refine q _ _ ⟨rfl, rfl⟩ σ' H1 H1' ⟨g2.s0, g2.s1, g2.sub, g2.fr, ⟨g2.ow.nd, fun p hp => ?_⟩, g2.nw⟩ e2
    rcases List.mem_cons.mp hp with z | z
    · subst z
      obtain ⟨na, o, ea, px⟩ := g2.ow.at_ (a, O1) List.mem_cons_self
      exact ⟨na, o, ea, f _ _ px⟩
    · exact g2.ow.at_ p (List.mem_cons_of_mem _ z)) r
def putD (f : Str) (v : Den) : List (Str × Den) → List (Str × Den)
  | [] => [(f, v)]
  | (g, x) :: r => if g = f then (g, v) :: r else (g, x) :: putD f v r
theorem putD_paired {H : Hp} {f : Str} {R : Den} {v : V} (hv : R.p H v) : ∀ {fs : List (Str × Den)} {us : List (Str × V)}, Paired (fun (p : Str × Den) (q : Str × V) => p.1 = q.1 ∧ p.2.p H q.2) fs us → Paired (fun (p : Str × Den) (q : Str × V) => p.1 = q.1 ∧ p.2.p H q.2) (putD f R fs) (putF f v us)
  | _, _, .nil => .cons ⟨rfl, hv⟩ .nil
  | (k, X) :: fs, (k', x) :: us, .cons r t => by
    obtain ⟨e, h⟩ := r
    dsimp at e h
    subst e
    have e1 : putD f R ((k, X) :: fs) = if k = f then (k, R) :: fs else (k, X) :: putD f R fs := rfl
    have e2 : putF f v ((k, x) :: us) = if k = f then (k, v) :: us else (k, x) :: putF f v us := rfl
    rw [e1, e2]
    by_cases z : k = f
    · rw [if_pos z, if_pos z]
      exact .cons ⟨rfl, hv⟩ t
    · rw [if_neg z, if_neg z]
      exact .cons ⟨rfl, h⟩ (putD_paired hv t)
/-- o.f = e, o a thing of one's own -/
theorem sb_fld {a C : Addr} {fs : List (Str × Den)} {f : Str} (hv : ED ((a, insO C fs) :: Os) tb Γ B) (ho : ED ((a, insO C fs) :: Os) ta Γ (valD (.ref a))) (c : Cls K C) (n : NoAttr K C f) (hl : fs.length < 1000) (hn : N ((a, insO C (putD f B fs)) :: Os) Γ := by exact ⟨rfl, rfl⟩) : SB ((a, insO C fs) :: Os) (sFld K ta tb f) Γ N O := fun σ H0 H D e s w q _ =>
  hv σ H0 H e s w _ fun y H1 H1' g1 hy => ho σ H1 H1' (e.mono g1.s0) g1.sub g1.ow _ fun x H2 H2' g2 hx => by
    have ex : x = .ref a := hx
    subst ex
    obtain ⟨_, o, ea, dx, us, eo, p⟩ := g2.ow.at_ (a, insO C fs) List.mem_cons_self
    subst eo
    exact ⟨a, C, dx, us, rfl, ea, c, n, by rw [← Paired.length p]; exact hl, q _ _ hn σ H2 _ ((g1.trans g2).trans (grow_set g2.sub g2.ow ⟨dx, _, rfl, putD_paired (B.mono g2.s0 hy) p⟩)) ((e.mono g1.s0).mono g2.s0)⟩
/-- locked for good, ahead of a statement -/
def tFrzB (i : Nat) (tb : TS) : TS := fun D σ H => ∃ a u, σ[i]? = some (some (.ref a)) ∧ H a = some u ∧ Mut (some u) ∧ ∀ od, tb D σ (upd H a (.frz od u))
theorem sb_frz {κ : Type} {mk : List (κ × V) → HO} {a : Addr} {kvs : List (κ × Den)} {i : Nat} (hm : ∀ us, Mut (some (mk us))) (hi : Γ[i]? = some (some (valD (.ref a)))) (h : SB Os sa (Γ.set i (some (dctD mk kvs))) N O) : SB ((a, dctO mk kvs) :: Os) (tFrzB i sa) Γ N O := fun σ H0 H D e s w q r => by
  obtain ⟨na, o, ea, us, eo, po⟩ := w.at_ (a, dctO mk kvs) List.mem_cons_self
  subst eo
  obtain ⟨x, hx, rx⟩ := e.get hi
  have ex : x = .ref a := rx
  subst ex
  refine ⟨a, _, hx, ea, hm us, fun od => ?_⟩
  have g0 : Grow ((a, dctO mk kvs) :: Os) H0 H ((a, eqO (.frz od (mk us))) :: Os) H0 (upd H a (.frz od (mk us))) := grow_set s w rfl
  have g1 := g0.trans (grow_keep g0.sub g0.ow upd_same)
  have e2 : Env (upd H0 a (.frz od (mk us))) (Γ.set i (some (dctD mk kvs))) σ := by
    have z := (e.mono g1.s0).set i (R := dctD mk kvs) (v := .ref a) ⟨a, od, us, rfl, upd_same, Paired.mono' (fun p _ h => ⟨h.1, p.2.mono g1.s0 h.2⟩) po⟩
    rwa [set_id hx] at z
  exact h σ _ _ D e2 g1.sub g1.ow (fun Os' Γ' m σ' H1 H1' g2 e2 => q Os' Γ' m σ' H1 H1' (g1.trans g2) e2) fun Os' R' m v H1 H1' g2 hv => r Os' R' m v H1 H1' (g1.trans g2) hv
/-! ### loops -/
theorem sb_for {P : List Den → Prop} (hi : EI Os wi Γ P) (h : ∀ Rs, P Rs → ∃ (Oz : Nat → Own) (Γs : Nat → Ctx), Oz 0 = Os ∧ (∀ i, ads (Oz i) = ads Os) ∧ Less (Γs 0) Γ ∧ N (Oz Rs.length) (Γs Rs.length) ∧ ∀ (i : Nat) (A : Den), Rs[i]? = some A → ∃ Γ1 is, GD g (Γs i) A Γ1 is ∧ SB (Oz i) sa Γ1 (to (Oz (i + 1)) (Γs (i + 1))) O) : SB Os (tFor wi g sa) Γ N O := fun σ H0 H D e s w q r =>
  hi σ H0 H e s w _ fun J H1 H1' Rs hP g1 it => by
    obtain ⟨Oz, Γs, z0, za, h0, hn, hs⟩ := h Rs hP
    refine ⟨fun i m σ H => m = Rs.length - i ∧ i ≤ Rs.length ∧ ∃ H2, Grow Os H1 H1' (Oz i) H2 H ∧ Env H2 (Γs i) σ, ⟨_, rfl, Nat.zero_le _, H1, by rw [z0]; exact .refl g1.sub g1.ow, (e.mono g1.s0).less h0⟩, ?_⟩
    rintro i m σ2 H2' ⟨rfl, hle, H2, g2, e2⟩
    obtain ⟨go, stop, yld⟩ := it H2 H2' g2.s0 g2.sub
    by_cases hlt : i < Rs.length
    · refine .inr ⟨go i hlt, fun σ' H' => ∃ H3, Grow Os H1 H1' (Oz (i + 1)) H3 H' ∧ Env H3 (Γs (i + 1)) σ', fun σ' H' ⟨H3, g3, e3⟩ => ⟨_, Nat.sub_lt_sub_left hlt (Nat.lt_succ_self i), rfl, hlt, H3, g3, e3⟩, fun x H3' hy => ?_⟩
      have hR : Rs[i]? = some Rs[i] := List.getElem?_eq_getElem hlt
      obtain ⟨H3, g3, hx⟩ := yld i x H3' hy _ hR
      obtain ⟨Γ1, is, hg, hb⟩ := hs i _ hR
      have g3u := g3.up g2.ow
      refine hg σ2 H3 H3' x (e2.mono g3.s0) g3.sub hx _ fun σ4 H4 H4' g4 e4 _ => ?_
      have g24 := g2.trans (g3u.trans (g4.up g3u.ow))
      refine hb σ4 H4 H4' _ e4 g4.sub g24.ow (fun Os' Γ' m σ5 H5 H5' g5 e5 => ?_) fun Os' R' m v H5 H5' g5 hv => r Os' R' m v H5 H5' (g1.trans (g24.trans g5)) hv
      obtain ⟨rfl, rfl⟩ := m
      exact ⟨H5, g24.trans g5, e5⟩
    · have ei : i = Rs.length := by omega
      subst ei
      exact .inl ⟨stop, q _ _ hn σ2 H2 H2' (g1.trans g2) e2⟩
/-- a for, by what has been walked -/
theorem sb_forP {α : Type} {xs : List α} {d : α → Den} {Oz : List α → Own} {Γs : List α → Ctx} (hi : EI Os wi Γ (· = xs.map d)) (z0 : Oz [] = Os) (za : ∀ i, ads (Oz i) = ads Os) (h0 : Less (Γs []) Γ) (hs : ∀ pre x post, xs = pre ++ x :: post → ∃ Γ1 is, GD g (Γs pre) (d x) Γ1 is ∧ SB (Oz pre) sa Γ1 (to (Oz (pre ++ [x])) (Γs (pre ++ [x]))) O) (hn : N (Oz xs) (Γs xs) := by exact ⟨rfl, rfl⟩) : SB Os (tFor wi g sa) Γ N O := by
  refine sb_for hi fun Rs hR => ⟨fun i => Oz (xs.take i), fun i => Γs (xs.take i), by dsimp only; rw [List.take_zero]; exact z0, fun i => za _, by dsimp only; rw [List.take_zero]; exact h0, ?_, fun i A hA => ?_⟩
  · have e2 : xs.take Rs.length = xs := by rw [hR, List.length_map, List.take_length]
    dsimp only
    rw [e2]
    exact hn
  · rw [hR, List.getElem?_map] at hA
    cases hx : xs[i]? with
    | none => rw [hx] at hA; cases hA
    | some x =>
      rw [hx] at hA
      have e : d x = A := Option.some.inj hA
      subst e
      obtain ⟨hlt, ex⟩ := List.getElem?_eq_some_iff.mp hx
      have e1 : xs.take (i + 1) = xs.take i ++ [x] := by rw [List.take_add_one, hx] <;> rfl
      dsimp only
      rw [e1]
      refine hs (xs.take i) x (xs.drop (i + 1)) ?_
      rw [← ex, List.getElem_cons_drop, List.take_append_drop]
/-- a for that leaves the state as it is (it may give back) -/
theorem sb_forS {α : Type} {xs : List α} {d : α → Den} (hi : EI Os wi Γ (· = xs.map d)) (hl : Less Γ' Γ) (hs : ∀ x, x ∈ xs → ∃ Γ1 is, GD g Γ' (d x) Γ1 is ∧ SB Os sa Γ1 (to Os Γ') O) (hn : N Os Γ' := by exact ⟨rfl, rfl⟩) : SB Os (tFor wi g sa) Γ N O :=
  sb_forP (Oz := fun _ => Os) (Γs := fun _ => Γ') hi rfl (fun _ => rfl) hl (fun pre x post e => hs x (by rw [e]; exact List.mem_append_right _ List.mem_cons_self)) hn
/-! ### what is walked -/
theorem ei_list {Rs : List Den} (h : ED Os te Γ (lstD Rs)) : EI Os (iList K te) Γ (· = Rs) := fun σ H0 H e s w R q => h σ H0 H e s w _ fun v H1 H1' g1 ⟨a, vs, ex, hl, hf⟩ =>
  ⟨a, ex, ⟨vs, .of (g1.sub _ _ hl)⟩, q _ H1 H1' _ rfl g1 fun H2 H2' s0 s2 => by
    have l2 : SqL K H2' a vs := .of (s2 _ _ (s0 _ _ hl))
    have len : Rs.length = vs.length := Paired.length hf
    refine ⟨fun i hi => ⟨vs, vs[i]'(by omega), l2, by simp [show i < vs.length by omega]⟩, ⟨vs, l2, Nat.le_of_eq len.symm⟩, fun i x H3' hy R hR => ?_⟩
    obtain ⟨e1, e2⟩ := hy
    subst e1
    obtain ⟨y, h1, h2⟩ := Paired.get' hf hR
    have e3 := e2 vs l2
    rw [h1] at e3
    cases e3
    exact ⟨H2, .refl s2 .nil, R.mono s0 h2⟩⟩
theorem ei_tup {Rs : List Den} (h : ED Os te Γ (tupD Rs)) : EI Os (iTup K te) Γ (· = Rs) := fun σ H0 H e s w R q => h σ H0 H e s w _ fun v H1 H1' g1 ⟨a, vs, ex, hl, hf⟩ =>
  ⟨a, ex, ⟨vs, .of (g1.sub _ _ hl)⟩, q _ H1 H1' _ rfl g1 fun H2 H2' s0 s2 => by
    have l2 : SqT K H2' a vs := .of (s2 _ _ (s0 _ _ hl))
    have len : Rs.length = vs.length := Paired.length hf
    refine ⟨fun i hi => ⟨vs, vs[i]'(by omega), l2, by simp [show i < vs.length by omega]⟩, ⟨vs, l2, Nat.le_of_eq len.symm⟩, fun i x H3' hy R hR => ?_⟩
    obtain ⟨e1, e2⟩ := hy
    subst e1
    obtain ⟨y, h1, h2⟩ := Paired.get' hf hR
    have e3 := e2 vs l2
    rw [h1] at e3
    cases e3
    exact ⟨H2, .refl s2 .nil, R.mono s0 h2⟩⟩
theorem ei_range {tA : TA} {n : Int} (h : EA Os tA Γ [intD n]) (h0 : 0 ≤ n) (h1 : n < 2 ^ 62) : EI Os (iRng1 tA) Γ (· = (List.range n.toNat).map fun i => intD (i : Nat)) := fun σ H0 H e s w R q => h σ H0 H e s w _ fun vs H1 H1' g1 hf => by
  cases hf with
  | cons r t =>
    cases t
    refine ⟨n, by rw [show _ = V.int n from r], by omega, h1, q _ H1 H1' _ rfl g1 fun H2 H2' s0 s2 => ?_⟩
    rw [List.length_map, List.length_range]
    refine ⟨fun i hi => hi, Nat.le_refl _, fun i x H3' hy R hR => ?_⟩
    obtain ⟨e1, e2⟩ := hy
    subst e1
    rw [List.getElem?_map] at hR
    by_cases hi : i < n.toNat
    · rw [List.getElem?_range hi] at hR
      cases hR
      exact ⟨H2, .refl s2 .nil, by rw [e2, Int.zero_add]; rfl⟩
    · rw [List.getElem?_eq_none (by rw [List.length_range]; omega)] at hR
      cases hR
/-- the signs of a text -/
def signs (z : Str) : List Str := z.cps.toList.map fun c => ⟨#[c]⟩
theorem ei_str {z : Str} (h : ED Os te Γ (strD z)) : EI Os (iStr te) Γ (· = (signs z).map strD) := fun σ H0 H e s w R q => h σ H0 H e s w _ fun v H1 H1' g1 hv =>
  ⟨z, hv, q _ H1 H1' _ rfl g1 fun H2 H2' s0 s2 => by
    have len : ((signs z).map strD).length = z.cps.size := by unfold signs; rw [List.length_map, List.length_map, Array.length_toList]
    rw [len]
    refine ⟨fun i hi => hi, Nat.le_refl _, fun i x H3' hy R hR => ?_⟩
    obtain ⟨e1, c, e2, e3⟩ := hy
    subst e1
    unfold signs at hR
    rw [List.getElem?_map, List.getElem?_map, Array.getElem?_toList, e2] at hR
    cases hR
    exact ⟨H2, .refl s2 .nil, e3⟩⟩
theorem ei_keys {kvs : List (Key × Den)} (h : ED Os te Γ (dkD kvs)) : EI Os (iKeys te) Γ (· = kvs.map fun p => valD (kV p.1)) := fun σ H0 H e s w R q => h σ H0 H e s w _ fun v H1 H1' g1 ⟨a, o, us, ex, ha, hp⟩ =>
  ⟨a, o, ex, .inl ⟨us, g1.sub _ _ ha, q _ H1 H1' _ rfl g1 fun H2 H2' s0 s2 => by
    have l2 : H2' a = some (.frz o (.dK us)) := s2 _ _ (s0 _ _ ha)
    have len : kvs.length = us.length := Paired.length hp
    rw [List.length_map]
    have w := walk_keys (d := a) (o := o) (kvs := us)
    refine ⟨fun i hi => w.goes i H2' (by omega) l2, by rw [len]; exact w.stops H2' l2, fun i x H3' hy R hR => ?_⟩
    rw [List.getElem?_map] at hR
    cases hk : kvs[i]? with
    | none => rw [hk] at hR; cases hR
    | some p =>
      rw [hk] at hR
      cases hR
      obtain ⟨b, hb, eb, _⟩ := Paired.get' hp hk
      have hi : i < us.length := (List.getElem?_eq_some_iff.mp hb).1
      obtain ⟨e1, k, z, e2, e3⟩ := w.yields i H2' x H3' hi l2 hy
      subst e1
      rw [hb] at e2
      cases e2
      exact ⟨H2, .refl s2 .nil, by rw [e3]; show kV k = kV p.1; rw [eb]⟩⟩⟩
theorem ei_items {kvs : List (Key × Den)} (h : ED Os te Γ (dkD kvs)) : EI Os (iItems te) Γ (· = kvs.map fun p => tupD [valD (kV p.1), p.2]) := fun σ H0 H e s w R q => h σ H0 H e s w _ fun v H1 H1' g1 ⟨a, o, us, ex, ha, hp⟩ =>
  ⟨a, o, us, ex, g1.sub _ _ ha, q _ H1 H1' _ rfl g1 fun H2 H2' s0 s2 => by
    have l2 : H2' a = some (.frz o (.dK us)) := s2 _ _ (s0 _ _ ha)
    have len : kvs.length = us.length := Paired.length hp
    rw [List.length_map]
    have w := walk_items (d := a) (o := o) (kvs := us)
    refine ⟨fun i hi => w.goes i H2' (by omega) l2, by rw [len]; exact w.stops H2' l2, fun i x H3' hy R hR => ?_⟩
    rw [List.getElem?_map] at hR
    cases hk : kvs[i]? with
    | none => rw [hk] at hR; cases hR
    | some p =>
      rw [hk] at hR
      cases hR
      obtain ⟨b, hb, eb, rb⟩ := Paired.get' hp hk
      have hi : i < us.length := (List.getElem?_eq_some_iff.mp hb).1
      obtain ⟨T, x1, y1, e1, hT, e2, e3, e4⟩ := w.yields i H2' x H3' hi l2 hy
      dsimp only at e3 e4
      rw [hb] at e3 e4
      cases e3
      cases e4
      subst e2
      refine ⟨_, .new0 s2 hT, T, _, e1, upd_same, .cons ?_ (.cons ?_ .nil)⟩
      · show kV b.1 = kV p.1
        rw [eb]
      · exact p.2.mono (s0.trans (same_upd (s2.free hT))) rb⟩
theorem ei_enum {Rs : List Den} {tA : TA} (h : EA Os tA Γ [lstD Rs]) : EI Os (iEnum K tA) Γ (· = Rs.zipIdx.map fun p => tupD [intD (p.2 : Nat), p.1]) := fun σ H0 H e s w R q => h σ H0 H e s w _ fun vs0 H1 H1' g1 hf0 => by
  cases hf0 with
  | cons r t =>
    cases t
    obtain ⟨a, vs, ex, hl, hf⟩ := r
    subst ex
    refine ⟨a, vs, rfl, .of (g1.sub _ _ hl), q _ H1 H1' _ rfl g1 fun H2 H2' s0 s2 => ?_⟩
    have l2 : SqL K H2' a vs := .of (s2 _ _ (s0 _ _ hl))
    have len : Rs.length = vs.length := Paired.length hf
    rw [List.length_map, List.length_zipIdx]
    have w := walk_enum (K := K) (a := a) (xs := vs)
    refine ⟨fun i hi => w.goes i H2' (by omega) l2, by rw [len]; exact w.stops H2' l2, fun i x H3' hy R hR => ?_⟩
    rw [List.getElem?_map, List.getElem?_zipIdx] at hR
    cases hk : Rs[i]? with
    | none => rw [hk] at hR; cases hR
    | some p =>
      rw [hk] at hR
      cases hR
      obtain ⟨b, hb, rb⟩ := Paired.get' hf hk
      have hi : i < vs.length := (List.getElem?_eq_some_iff.mp hb).1
      obtain ⟨T, x1, y1, e1, hT, e2, e3, e4⟩ := w.yields i H2' x H3' hi l2 hy
      dsimp only at e3 e4
      cases e3
      rw [hb] at e4
      cases e4
      subst e2
      refine ⟨_, .new0 s2 hT, T, _, e1, upd_same, .cons ?_ (.cons (p.mono (s0.trans (same_upd (s2.free hT))) rb) .nil)⟩
      show V.int (i : Nat) = V.int (((0 + i : Nat) : Nat) : Int)
      rw [Nat.zero_add]

/-! ### comprehensions -/
def wipeC (Γ : Ctx) : List Nat → Ctx
  | [] => Γ
  | v :: vs => (wipeC Γ vs).set v none
theorem Env.wipe {H : Hp} {σ : L2.St} (e : Env H Γ σ) : ∀ vs : List Nat, Env H (wipeC Γ vs) (L2.wipe σ vs)
  | [] => e
  | v :: vs => (Env.wipe e vs).clear v none
theorem et_yes : ET Os tYes Γ true := fun σ H0 H e s w Q q => q H0 H (.refl s w)
theorem mem_sub {is vs : List Nat} (h : (is.all fun i => vs.contains i) = true) : ∀ i ∈ is, i ∈ vs := fun i hi => by
  have := List.all_eq_true.mp h i hi
  simpa using this
theorem ed_lc {α : Type} {xs : List α} {d f : α → Den} {p : α → Bool} {Γ1 : α → Ctx} {vs is : List Nat} (hi : EI Os wi Γ (· = xs.map d)) (hg : ∀ x, x ∈ xs → GD g (wipeC Γ vs) (d x) (Γ1 x) is) (ht : ∀ x, x ∈ xs → ET Os t (Γ1 x) (p x))
    (he : ∀ x, x ∈ xs → p x = true → ED Os te (Γ1 x) (f x)) (hv : (is.all fun i => vs.contains i) = true := by decide) (hz : xs.length ≤ 100000 := by first | decide | omega) : ED Os (tLc wi g t te vs) Γ (lstD ((xs.filter p).map f)) := fun σ H0 H e s w Q q => by
  refine hi σ H0 H e s w _ fun J H1 H1' Rs hRs g1 it Dl hD => ?_
  have hD0 : H1 Dl = none := g1.sub.free hD
  have hDo : Dl ∉ ads Os := g1.ow.out hD
  refine ⟨fun i m H' => m = xs.length - i ∧ i ≤ xs.length ∧ ∃ (H2 : Hp) (us : List V), Grow Os H1 H1' Os H2 H' ∧ H2 Dl = none ∧ H' Dl = some (.lst us) ∧ Fits H2 (((xs.take i).filter p).map f) us, ⟨_, rfl, Nat.zero_le _, H1, [], ⟨Same.refl _, fun b o _ hb => same_upd hD b o hb, g1.sub.trans (same_upd hD), fun b o _ hb n => n, ⟨g1.ow.nd, fun q hq => ?_⟩, fun b hb => .inl hb⟩, hD0, upd_same, .nil⟩, ?_⟩
  · obtain ⟨n, o, eo, po⟩ := g1.ow.at_ q hq
    exact ⟨n, o, same_upd hD _ _ eo, po⟩
  rintro i m H2' ⟨rfl, hle, H2, us, g2, n2, hl, hf⟩
  obtain ⟨go, stop, yld⟩ := it H2 H2' g2.s0 g2.sub
  rw [hRs, List.length_map] at go stop
  by_cases hlt : i < xs.length
  · refine .inr ⟨go i hlt, fun H' => ∃ (H3 : Hp) (ws : List V), Grow Os H1 H1' Os H3 H' ∧ H3 Dl = none ∧ H' Dl = some (.lst ws) ∧ Fits H3 (((xs.take (i + 1)).filter p).map f) ws, fun H' ⟨H3, ws, h⟩ => ⟨_, Nat.sub_lt_sub_left hlt (Nat.lt_succ_self i), rfl, hlt, H3, ws, h⟩, fun x H3' hy => ?_⟩
    have hR : Rs[i]? = some (d xs[i]) := by rw [hRs, List.getElem?_map, List.getElem?_eq_getElem hlt] <;> rfl
    obtain ⟨H3, g3, hx⟩ := yld i x H3' hy _ hR
    have g3u := g3.up g2.ow
    have hm := List.getElem_mem hlt
    have tk : xs.take (i + 1) = xs.take i ++ [xs[i]] := by rw [List.take_add_one, List.getElem?_eq_getElem hlt] <;> rfl
    have n3 : H3 Dl = none := g3u.fr Dl _ hDo hl n2
    refine hg _ hm (L2.wipe σ vs) H3 H3' x (((e.mono g1.s0).mono (g2.s0.trans g3.s0)).wipe vs) g3.sub hx _ fun σ4 H4 H4' g4 e4 w4 => ⟨?_, ?_⟩
    · rw [w4 vs (mem_sub hv)]
      exact wipe_wipe fun i hi => hi
    · have g4u := g4.up g3u.ow
      have n4 : H4 Dl = none := g4u.fr Dl _ hDo (g3u.s1 _ _ hDo hl) n3
      have l4 : H4' Dl = some (.lst us) := g4u.s1 _ _ hDo (g3u.s1 _ _ hDo hl)
      refine ht _ hm σ4 H4 H4' e4 g4.sub g4u.ow _ fun H5 H5' g5 => ?_
      have n5 : H5 Dl = none := g5.fr Dl _ hDo l4 n4
      have l5 := g5.s1 _ _ hDo l4
      have g25 := g2.trans (g3u.trans (g4u.trans g5))
      cases hp : p xs[i] with
      | true =>
        show te σ4 H5' _
        refine he _ hm hp σ4 H5 H5' (e4.mono g5.s0) g5.sub g5.ow _ fun v H6 H6' g6 hv6 => ⟨us, g6.s1 _ _ hDo l5, ?_, H6, us ++ [v], ?_, g6.fr Dl _ hDo l5 n5, upd_same, ?_⟩
        · refine sz_lt ?_
          have h1 : us.length = (((xs.take i).filter p).map f).length := (Paired.length hf).symm
          have h2 := List.length_filter_le p (xs.take i)
          rw [List.length_map] at h1
          rw [List.length_take] at h2
          omega
        · have g26 := g25.trans g6
          refine ⟨g26.s0, fun b o hb eb => ?_, fun b o hb => ?_, g26.fr, ⟨g26.ow.nd, fun q hq => ?_⟩, g26.nw⟩
          · rw [upd_ne (ne_of_none eb hD)]; exact g26.s1 b o hb eb
          · rw [upd_ne (ne_of_none hb (g6.fr Dl _ hDo l5 n5))]; exact g26.sub b o hb
          · obtain ⟨n, o, eo, po⟩ := g26.ow.at_ q hq
            exact ⟨n, o, by rw [upd_ne fun z => hDo (by rw [← z]; exact ads_mem hq)]; exact eo, po⟩
        · rw [tk, List.filter_append, List.map_append]
          have e1 : [xs[i]].filter p = [xs[i]] := by rw [List.filter_cons, if_pos hp] <;> rfl
          rw [e1]
          exact Paired.app (hf.mono ((g3.s0.trans g4.s0).trans (g5.s0.trans g6.s0))) (.cons hv6 .nil)
      | false =>
        refine ⟨H5, us, g25, n5, l5, ?_⟩
        rw [tk, List.filter_append, List.map_append]
        have e1 : [xs[i]].filter p = [] := by rw [List.filter_cons, if_neg (by rw [hp]; decide)] <;> rfl
        rw [e1]
        show Fits H5 (((xs.take i).filter p).map f ++ []) us
        rw [List.append_nil]
        exact hf.mono ((g3.s0.trans g4.s0).trans g5.s0)
  · have ei : i = xs.length := by omega
    subst ei
    rw [List.take_length] at hf
    refine .inl ⟨stop, q (.ref Dl) (upd H2 Dl (.lst us)) H2' (g1.trans ⟨g2.s0.trans (same_upd n2), g2.s1, fun b o hb => ?_, fun b o hb eb n => ?_, ⟨g2.ow.nd, fun q hq => ?_⟩, g2.nw⟩) ⟨Dl, us, rfl, upd_same, hf.mono (same_upd n2)⟩⟩
    · by_cases z : b = Dl
      · subst z; rw [upd_same] at hb; cases hb; exact hl
      · rw [upd_ne z] at hb; exact g2.sub b o hb
    · rw [upd_ne (ne_of_none eb hD)]; exact g2.fr b o hb eb n
    · obtain ⟨n, o, eo, po⟩ := g2.ow.at_ q hq
      exact ⟨by rw [upd_ne fun z => hDo (by rw [← z]; exact ads_mem hq)]; exact n, o, eo, q.2.mono (same_upd n2) po⟩
end
end Dn
/-! RulB -/
/-! {(..): v for .. in ..}: a comprehension's dict whose keys are tuples; len of a locked dict. -/
namespace Rb
open PySem PySem.Spec PyProof.Rows L2
theorem d_dictSetT {X : Cx} {pins : List (Addr × Obj)} {σ : L2.St} {H : Hp} {s : Shared} {E : Value → Shared → Prop} {D b : Addr} {kvs : List (List Key × V)} {k : List Key} {v : V} {u r : Value} {Q : Unit → Shared → Prop} (hu : X.A.units + 1 < cLine) (I : Inv X pins σ H s) (e : H D = some (.dT kvs)) (l : kvs.length < sizeLine)
    (eb : H b = some (.tup (k.map kV))) (ry : RelV (.ref b) u) (rv : RelV v r) (h : ∀ s', Inv X pins σ (upd H D (.dT (putK kvs k v))) s' → Q () s') : wpAny (model X.prog X.w) X.A (dictSet D u r) Q E s := by
  cases (show u = Value.ref b from ry)
  obtain ⟨z, hd, xs, rel, dd⟩ := dt_of I.hok e
  have hz : xs.length ≤ sizeLine := by rw [← Paired.length rel]; exact z
  have hl : (putK kvs k v).length ≤ sizeLine := by have := length_putK kvs k v; omega
  refine wpAny_dictSet_heap (hsz := hz) (show (tupleKind (mixKind X.prog X.w)).room X.A from Nat.lt_of_succ_lt hu) (key_of I.hok eb) dd fun h' dd' hs => h _ ?_
  obtain ⟨q, es, ep, hq, h2, h3, h4, _, h5⟩ := dd'
  refine d_write I (by rw [e]; exact True.intro) hs ⟨q, hq⟩ ⟨hl, hd, _, (rel.put k eb rv).keeps fun c ys ec => ?_, q, es, ep, hq, h2, h3, h4, h5⟩
  rw [upd_ne (ne_of ec e (fun z => nomatch z))]
  exact ec
section
variable {X : Cx}
/-- as tDc, the keys tuples of ints and texts -/
def tDcT (wi : TI) (g : TG) (tt : TT) (tk tv : TE) (vs : List Nat) : TE := fun σ H Q => wi σ H fun J H1 => ∀ D, H1 D = none → ∃ W : Nat → Nat → Hp → Prop, (∃ m, W 0 m (upd H1 D (.dT []))) ∧ ∀ i m H, W i m H →
  (J.stop i H ∧ Q (.ref D) H) ∨ (J.go i H ∧ ∃ Nx : Hp → Prop, (∀ H', Nx H' → ∃ m', m' < m ∧ W (i + 1) m' H') ∧ ∀ x H', J.yld i H x H' → g x (wipe σ vs) H' fun σ2 H2 => wipe σ2 vs = wipe σ vs ∧ tt σ2 H2 fun b H3 =>
    if b = true then tk σ2 H3 fun y H4 => tv σ2 H4 fun z H5 => ∃ kvs k b, y = .ref b ∧ H5 b = some (.tup (k.map kV)) ∧ H5 D = some (.dT kvs) ∧ kvs.length < sizeLine ∧ Nx (upd H5 D (.dT (putK kvs k z))) else Nx H3)
theorem dct_core {pins : List (Addr × Obj)} {s : Shared} {σ : L2.St} {H : Hp} {Q : VK} {kx vx tg iter : Expr} {ifs : List Expr} {scope : Scope} {own : List (Str × Nat)} {pos pos' : Pos} {wi : TI} {g : TG} {tt : TT} {tk tv : TE} {use : Option (Value → Sem Unit)} {Qf : Value → Shared → Prop}
    (hu : X.A.units + 1 < cLine) (hc : X.calm = true) (hN : X.N.Nodup) (I : Inv X pins σ H s) (hi : PI X tg iter wi) (ok : BlkOk X.N X.env.scope scope own)
    (hg : ∀ (s : Shared) (H : Hp) (C : Addr) (cl : List (Str × Addr)) (fp : List Addr), PG (X.blk s H scope (compEnvC scope cl C X.env) fp) tg g) (ht : ∀ (s : Shared) (H : Hp) (C : Addr) (cl : List (Str × Addr)) (fp : List Addr), PTs (X.blk s H scope (compEnvC scope cl C X.env) fp) ifs tt)
    (hk : ∀ (s : Shared) (H : Hp) (C : Addr) (cl : List (Str × Addr)) (fp : List Addr), PE (X.blk s H scope (compEnvC scope cl C X.env) fp) kx tk)
    (he : ∀ (s : Shared) (H : Hp) (C : Addr) (cl : List (Str × Addr)) (fp : List Addr), PE (X.blk s H scope (compEnvC scope cl C X.env) fp) vx tv) (hs : ∀ x, foldedSetIterable iter X.env x = pure x)
    (h : tDcT wi g tt tk tv (own.map (·.2)) σ H Q)
    (hRR : ∀ D C s' m H', Inv X pins σ H' s' → Q (.ref D) H' → s'.heap.Ns C m → FpOk X pins H' C → compPost (model X.prog X.w) X.A X.xe use Qf (.ref D) C (.ok .next) s') :
    wpAny (model X.prog X.w) X.A (comprehension (.DictComp kx vx [⟨tg, iter, ifs, 0⟩] scope pos) scope X.env pos' newDict false (eval iter X.env) use) Qf X.xe s := by
  have hfree : ∀ y ∈ scope.names, y.2 = .free → ∃ c, X.env.cells.lookup y.1 = some c := fun y hy e => by
    rcases ok.free y hy e with k | k
    · exact I.ok.has _ (.inl k)
    · exact I.ok.has _ (.inr k)
  refine wpAny_comprehension_free (use := use) rfl hs (closure_ok hfree) ok.kind (fun y hy e => by rw [ok.uniq y hy, e])
    (thn (hi.run pins s σ H _ I h) fun xv s1 hx => thn hx fun itv s2 h2 => ?_)
  obtain ⟨it, fp, tn, J, H2, e, I2, T, st2, f2, q⟩ := h2
  subst e
  refine wpAny_newObj_type (newEnv_comp ?_)
  generalize hD : s2.heap.objs.size = D
  have hDn : H2 D = none := I2.hok.fresh (Nat.le_of_eq hD)
  obtain ⟨W, ⟨m0, w0⟩, turn⟩ := q D hDn
  generalize hs3 : ({ s2 with heap := s2.heap.push { cls := .type "dict", data := .dict #[] } } : Shared) = s3
  have I3 : Inv X pins σ (upd H2 D (.dT [])) s3 := by
    rw [← hs3]
    refine I2.laid (t' := s2.toks) (fun b o e => Heap.get?_push_of_some _ e) (Nat.le_of_eq hD) ?_
    rw [← hD]
    exact dt_empty s2.heap I2.big
  have h3 : s3.heap = s2.heap.push { cls := .type "dict", data := .dict #[] } := by rw [← hs3]
  have sz : ∀ b ∈ fp, b < s2.heap.objs.size := fun b hb => by
    obtain ⟨o, e, _⟩ := T.obj _ _ st2 b hb
    exact Heap.lt_size e
  have f3 : ∀ b ∈ fp, FpOk X pins (upd H2 D (.dT [])) b ∧ b < s3.heap.objs.size := fun b hb => by
    have hlt := sz b hb
    refine ⟨⟨?_, (f2 b hb).2⟩, by rw [h3, Heap.size_push]; exact Nat.lt_succ_of_lt hlt⟩
    rw [upd_ne (by rw [← hD]; exact Nat.ne_of_lt hlt)]
    exact (f2 b hb).1
  have st3 : tn 0 s3.heap := T.keep _ _ _ st2 fun b _ o e => by rw [h3]; exact Heap.get?_push_of_some _ e
  have I4 := block_start I3 ok hN f3
  have pg := hg s3 (upd H2 D (.dT [])) s3.heap.objs.size (cellsFrom (s3.heap.objs.size + 1) scope.names (cloFrom X.env.cells scope.names [])) fp
  have pt := ht s3 (upd H2 D (.dT [])) s3.heap.objs.size (cellsFrom (s3.heap.objs.size + 1) scope.names (cloFrom X.env.cells scope.names [])) fp
  have pk := hk s3 (upd H2 D (.dT [])) s3.heap.objs.size (cellsFrom (s3.heap.objs.size + 1) scope.names (cloFrom X.env.cells scope.names [])) fp
  have pe := he s3 (upd H2 D (.dT [])) s3.heap.objs.size (cellsFrom (s3.heap.objs.size + 1) scope.names (cloFrom X.env.cells scope.names [])) fp
  show codeAny _ _ (.compStart (.DictComp kx vx [⟨tg, iter, ifs, 0⟩] scope pos) 0 (.ref it) (.ref D) (compEnvC scope (cellsFrom (s3.heap.objs.size + 1) scope.names (cloFrom X.env.cells scope.names [])) s3.heap.objs.size X.env)) (compPost (model X.prog X.w) X.A X.xe use Qf (.ref D) s3.heap.objs.size) { s3 with heap := pushCells (s3.heap.push { cls := .type "dict", data := .dict #[] }) scope.names }
  have nfp : ∀ b ∈ fp, (upd H2 D (.dT [])) b = none := fun b hb => (f3 b hb).1.1
  generalize hce : compEnvC scope (cellsFrom (s3.heap.objs.size + 1) scope.names (cloFrom X.env.cells scope.names [])) s3.heap.objs.size X.env = ce at I4 pg pt pk pe ⊢
  have cL : ce.locals = s3.heap.objs.size := by subst hce; rfl
  generalize hH3 : upd H2 D (.dT []) = H3 at I3 I4 pg pt pk pe w0 nfp f3
  generalize hs4 : ({ s3 with heap := pushCells (s3.heap.push { cls := .type "dict", data := .dict #[] }) scope.names } : Shared) = s4 at I4 ⊢
  have st4 : tn 0 s4.heap := T.keep _ _ _ st3 fun b _ o e => by rw [← hs4]; exact pushCells_keeps _ _ _ _ (Heap.get?_push_of_some _ e)
  have stat : ∀ {σ' : L2.St} {H' : Hp} {s' : Shared}, Inv (X.blk s3 H3 scope ce fp) [] σ' H' s' → (∀ b ∈ fp, H' b = none) → ∀ b ∈ fp, FpOk (X.blk s3 H3 scope ce fp) [] H' b := fun {σ' H' s'} I' hn b hb =>
    ⟨hn b hb, (I'.ok.exf b hb).1, I'.ok.exfs b hb, .inl hb, fun x c e => (I'.ok.exf b hb).2 x c e, fun p hp => absurd (show p ∈ ([] : List (Addr × Obj)) ++ [] from hp) (by simp)⟩
  have loop : codeAny (model X.prog X.w) X.A (.compLoop (.DictComp kx vx [⟨tg, iter, ifs, 0⟩] scope pos) 0 (.ref it) (.ref D) ce) (compPost (model X.prog X.w) X.A X.xe use Qf (.ref D) s3.heap.objs.size) s4 := by
    refine compLoop_anyD (fun n s' => ∃ i H', Inv (X.blk s3 H3 scope ce fp) [] (wipe σ (own.map (·.2))) H' s' ∧ tn i s'.heap ∧ (∀ b ∈ fp, H' b = none) ∧ W i n H') ?_ m0 ⟨0, H3, I4, st4, nfp, w0⟩
    rintro n s5 ⟨i, H5, I5, st5, n5, w5⟩
    rcases turn i n H5 w5 with ⟨stop, qq⟩ | ⟨go, Nx, hNx, step⟩
    · have td := T.done (X.blk s3 H3 scope ce fp) rfl rfl rfl hc i [] s5 _ H5 (fun _ _ => False) I5 (stat I5 n5) st5 stop
      refine thnF td fun r s6 ⟨hr, I6⟩ => ?_
      subst hr
      have I7 : Inv X pins σ H5 s6 := I3.call' (ch := fp) I6.os I6.base I6.hok I6.bare fun b hb => ⟨(f3 b hb).1.2.2.2.1, (f3 b hb).1.2.1, (f3 b hb).1.2.2.2.2.1, (f3 b hb).1.2.2.2.2.2⟩
      have nC : H5 s3.heap.objs.size = none := by
        have z : H5 ce.locals = none := I6.free
        rw [cL] at z
        exact z
      obtain ⟨m, hn, _⟩ := I6.loc
      have hn : s6.heap.Ns ce.locals m := hn
      rw [cL] at hn
      exact hRR D s3.heap.objs.size s6 m H5 I7 qq hn (I3.fpOk (Nat.le_refl _) nC)
    · have ti := T.item (X.blk s3 H3 scope ce fp) rfl rfl rfl hc i [] s5 _ H5 (fun _ _ => False) I5 (stat I5 n5) st5 go
      refine thnF ti fun r s6 ⟨u, hr, h6⟩ => ?_
      subst hr
      refine thnF h6 fun _ s7 ⟨x, H7, I7, r7, y7, st7, n7⟩ => ?_
      have I7' := I7.pinned (stat I7 n7) (T.obj _ _ st7)
      refine thnF (pg.run _ s7 _ H7 x u _ I7' r7 (step x H7 y7)) fun _ s8 ⟨σ8, H8, I8, hw8, q8⟩ => ?_
      refine thnF (pt.run _ s8 σ8 H8 _ I8 q8) fun b s9 ⟨H9, I9, q9⟩ => ?_
      have fin : ∀ {s' : Shared} {H' : Hp}, Inv (X.blk s3 H3 scope ce fp) ([] ++ pinsAt fp s7.heap) σ8 H' s' → Nx H' → ∃ m, m < n ∧ ∃ i H', Inv (X.blk s3 H3 scope ce fp) [] (wipe σ (own.map (·.2))) H' s' ∧ tn i s'.heap ∧ (∀ b ∈ fp, H' b = none) ∧ W i m H' := fun {s' H'} I' nx => by
        obtain ⟨m', hm, w'⟩ := hNx H' nx
        have pin' : ∀ b ∈ fp, ∀ o, s7.heap.get? b = some o → s'.heap.get? b = some o ∧ H' b = none := fun b hb o e =>
          let z := I'.pin (b, o) (List.mem_append_right _ (List.mem_append_right _ (mem_pinsAt hb e)))
          ⟨z.1, z.2.1⟩
        have hl : (wipe σ (own.map (·.2))).length = σ8.length := by rw [← hw8, wipe_length]
        refine ⟨m', hm, i + 1, H', (I'.unpinned (pins := [])).weak hl (fun j v e => ?_), T.keep _ _ _ st7 fun b hb o e => (pin' b hb o e).1, fun b hb => ?_, w'⟩
        · rw [← hw8] at e
          exact (wipe_some e).1
        · obtain ⟨o, e, _⟩ := T.obj _ _ st7 b hb
          exact (pin' b hb o e).2
      cases b with
      | false =>
        simp only [Bool.false_eq_true, if_false] at q9 ⊢
        exact fin I9 q9
      | true =>
        simp only [if_true] at q9 ⊢
        refine thnF (pk.run _ s9 σ8 H9 _ I9 q9) fun z s10 ⟨yk, H10, I10, r10, q10⟩ => ?_
        refine thnF (pe.run _ s10 σ8 H10 _ I10 q10) fun z2 s11 ⟨yv, H11, I11, r11, kvs, k, b, ek, hb11, hD11, hz11, nx⟩ => ?_
        subst ek
        exact d_dictSetT (X := X.blk s3 H3 scope ce fp) hu I11 hD11 hz11 hb11 r10 r11 fun s12 I12 => fin I12 nx
  exact codeAny_compStart_dict loop (T.self X.A 0 _ _ _ st4 loop)
theorem pe_dcT {kx vx tg iter : Expr} {ifs : List Expr} {scope : Scope} {own : List (Str × Nat)} {pos : Pos} {wi : TI} {g : TG} {tt : TT} {tk tv : TE} (hu : X.A.units + 1 < cLine) (hc : X.calm = true) (hN : X.N.Nodup) (hi : PI X tg iter wi) (ok : BlkOk X.N X.env.scope scope own)
    (hg : ∀ (s : Shared) (H : Hp) (C : Addr) (cl : List (Str × Addr)) (fp : List Addr), PG (X.blk s H scope (compEnvC scope cl C X.env) fp) tg g) (ht : ∀ (s : Shared) (H : Hp) (C : Addr) (cl : List (Str × Addr)) (fp : List Addr), PTs (X.blk s H scope (compEnvC scope cl C X.env) fp) ifs tt)
    (hk : ∀ (s : Shared) (H : Hp) (C : Addr) (cl : List (Str × Addr)) (fp : List Addr), PE (X.blk s H scope (compEnvC scope cl C X.env) fp) kx tk)
    (he : ∀ (s : Shared) (H : Hp) (C : Addr) (cl : List (Str × Addr)) (fp : List Addr), PE (X.blk s H scope (compEnvC scope cl C X.env) fp) vx tv) (hs : ∀ x, foldedSetIterable iter X.env x = pure x := by intro _; rfl) :
    PE X (.DictComp kx vx [⟨tg, iter, ifs, 0⟩] scope pos) (tDcT wi g tt tk tv (own.map (·.2))) := by
  refine ⟨fun pins s σ H Q I h => ?_⟩
  rw [arm_eval_DictComp]
  refine dct_core hu hc hN I hi ok hg ht hk he hs h fun D C s' m H' I' q hn f => ⟨m, hn, fun h'' sb => ?_⟩
  obtain ⟨f0, f1, f2, f3, f4, f5⟩ := f
  exact ⟨.ref D, H', I'.turned (t' := s'.toks) (fun b o hb e => (sb.2 b hb).trans e) f0 f1 f3 f4 f5, rfl, q⟩
theorem ps_setDcT {i : Nat} {y : Str} {py : Pos} {kx vx tg iter : Expr} {ifs : List Expr} {scope : Scope} {own : List (Str × Nat)} {pos spos : Pos} {wi : TI} {g : TG} {tt : TT} {tk tv : TE} (hu : X.A.units + 1 < cLine) (hc : X.calm = true) (hN : X.N.Nodup) (hy : X.N[i]? = some y) (hyl : X.env.scope.names.lookup y = some .local)
    (hsw : swapsWith (.DictComp kx vx [⟨tg, iter, ifs, 0⟩] scope pos) (some (.Name y py)) spos.line X.env = pure true) (hi : PI X tg iter wi) (ok : BlkOk X.N X.env.scope scope own)
    (hg : ∀ (s : Shared) (H : Hp) (C : Addr) (cl : List (Str × Addr)) (fp : List Addr), PG (X.blk s H scope (compEnvC scope cl C X.env) fp) tg g) (ht : ∀ (s : Shared) (H : Hp) (C : Addr) (cl : List (Str × Addr)) (fp : List Addr), PTs (X.blk s H scope (compEnvC scope cl C X.env) fp) ifs tt)
    (hk : ∀ (s : Shared) (H : Hp) (C : Addr) (cl : List (Str × Addr)) (fp : List Addr), PE (X.blk s H scope (compEnvC scope cl C X.env) fp) kx tk)
    (he : ∀ (s : Shared) (H : Hp) (C : Addr) (cl : List (Str × Addr)) (fp : List Addr), PE (X.blk s H scope (compEnvC scope cl C X.env) fp) vx tv) (hs : ∀ x, foldedSetIterable iter X.env x = pure x := by intro _; rfl) :
    PS X (.Assign [.Name y py] (.DictComp kx vx [⟨tg, iter, ifs, 0⟩] scope pos) spos) (tAsg (tDcT wi g tt tk tv (own.map (·.2))) (gName i)) := by
  refine ⟨fun pins s σ H D I h => ?_⟩
  rw [exec_Assign_Name_used _ _ _ _ hsw]
  refine wpAny_bind (wpAny_standAt (wpAny_bind ?_))
  show wpAny _ X.A (do let _ ← comprehension (.DictComp kx vx [⟨tg, iter, ifs, 0⟩] scope pos) scope X.env (firstIterPos [⟨tg, iter, ifs, 0⟩] pos) newDict false (eval iter X.env) (some (assign (.Name y py) X.env))) _ _ s
  have h : tDcT wi g tt tk tv (own.map (·.2)) σ H (fun x H1 => gName i x σ H1 D.nx) := h
  refine wpAny_bind (thn (dct_core (Qf := fun _ s' => SP X pins D .next s') hu hc hN I hi ok hg ht hk he hs h fun L C s' m H' I' q hn f => ?_) fun _ s' hq => wpAny_pure (wpAny_pure hq))
  show wpAny _ _ (assign (.Name y py) X.env (.ref L)) _ _ _
  refine wpAny_assign_Name (store_ok2 (v := V.ref L) I' hN hy (.inl hyl) rfl (fun s2 I2 ⟨a, sb, ha⟩ => ?_) (.inr hyl))
  obtain ⟨f0, f1, f2, f3, f4, f5⟩ := f
  have haC : C ≠ a := by
    rcases ha with z | z
    · rw [z]; exact f1
    · exact fun e => f4 y a z e.symm
  refine ⟨m, hn.sameBut sb haC, fun h3 sb3 => ?_⟩
  exact ⟨_, H', I2.turned (t' := s2.toks) (fun b o hb e => (sb3.2 b hb).trans e) f0 f1 f3 f4 f5, q⟩
theorem sw_trueD {kx vx : Expr} {gs : List Comprehension} {scope : Scope} {pos py : Pos} {y : Str} {l : Nat} {env : Env} (hk : env.scope.kind = .function) (hy : env.scope.names.lookup y = some .local) (hl : (py.line == pos.line) = true)
    (ha : (scope.names.any fun (n, k) => n == y && (k == .local || k == .cell)) = false) : swapsWith (.DictComp kx vx gs scope pos) (some (.Name y py)) l env = pure true := by
  have ky : env.kindOf y = some .local := hy
  have hb : env.blockKind = .function := by unfold Env.blockKind; rw [hk]; rfl
  unfold swapsWith
  simp only [hb, ky, ha, Expr.pos, hl]
  rfl
theorem call_lenDR : CallR X (.builtin "len") (fun xs H Q => ∃ a kvs, xs = [V.ref a] ∧ Rd H a (.dK kvs) ∧ Q (.int kvs.length) H) := by
  intro pins s σ H xs us Q I r h
  obtain ⟨a, kvs, rfl, ha, q⟩ := h
  obtain ⟨u, rfl, ru⟩ := vals1 r
  cases ru
  exact d_len I ha fun t s' I' => ⟨.int kvs.length, H, I', ⟨t, rfl⟩, q⟩
end
end Rb
/-! RulK -/
/-! Rules whose reading names the written part: it is named by itself, so that a reading below a comprehension does not name its block. -/
namespace Rb
open PySem PySem.Spec PyProof.Rows L2
section
variable {X : Cx} {K : PySem.W.Frag} {pos p apos cpos tpos : Pos} {e o tg l : Expr} {es : List Expr} {f : Str} {ta tl td to : TE} {t : TA}
theorem pe_fldK (he : PE X e ta) (hK : X.K = K := by rfl) (hb : attributeBase e f X.env (eval e X.env) = eval e X.env := by rfl) : PE X (.Attribute e f pos) (tFld K ta f) := hK ▸ pe_fld he hb
theorem pe_slK (he : PE X e ta) (hK : X.K = K := by rfl) (hb : attributeBase e f X.env (eval e X.env) = eval e X.env := by rfl) : PE X (.Attribute e f pos) (SlX.tSl K ta f) := hK ▸ SlX.pe_sl he hb
theorem pe_cvalK (he : PE X e ta) (hK : X.K = K := by rfl) (hb : attributeBase e f X.env (eval e X.env) = eval e X.env := by rfl) : PE X (.Attribute e f pos) (ClX.tCVal K ta f) := hK ▸ ClX.pe_cval he hb
theorem ix_tupK (hK : X.K = K := by rfl) : IxR X (rIxT K) := hK ▸ ix_tup
theorem ix_listK (hK : X.K = K := by rfl) : IxR X (rIxL K) := hK ▸ ix_list
theorem op_in_seqK (hK : X.K = K := by rfl) : OpR X (compareOp .In) (rIn K false) := hK ▸ op_in_seq
theorem op_notIn_seqK (hK : X.K = K := by rfl) : OpR X (compareOp .NotIn) (rIn K true) := hK ▸ op_notIn_seq
theorem op_inDK (hu : X.A.units + 65 < cLine) (hK : X.K = K := by rfl) : OpR X (compareOp .In) (rInD K) := hK ▸ op_inD hu
theorem op_notInDK (hu : X.A.units + 65 < cLine) (hK : X.K = K := by rfl) : OpR X (compareOp .NotIn) (rNotInD K) := hK ▸ op_notInD hu
theorem op_eqDK (hu : X.A.units + 64 < cLine) (hK : X.K = K := by rfl) : OpR X (compareOp .Eq) (rEqD K) := hK ▸ op_eqD hu
theorem op_neDK (hu : X.A.units + 64 < cLine) (hK : X.K = K := by rfl) : OpR X (compareOp .NotEq) (rNeD K) := hK ▸ op_neD hu
theorem op_catAK (hK : X.K = K := by rfl) : OpR X (binaryOp .Add) (rCatA K) := hK ▸ op_catA
theorem call_lenK (hK : X.K = K := by rfl) : CallR X (.builtin "len") (rLen K) := hK ▸ call_len
theorem call_isiK' (hK : X.K = K := by rfl) : CallR X (.builtin "isinstance") (rIsi K) := hK ▸ call_isi
theorem call_isiTK (hK : X.K = K := by rfl) : CallR X (.builtin "isinstance") (rIsiT K) := hK ▸ call_isiT
theorem call_isiSlK (u : Value) (hK : X.K = K := by rfl) : CallR X (.builtin "isinstance") (SlX.rIsiSl K u) := hK ▸ SlX.call_isiSl u
theorem cr_allK (hc : X.calm = true) (hK : X.K = K := by rfl) : CallR X (.builtin "all") (rAll K) := hK ▸ cr_all hc
theorem cr_anyK (hc : X.calm = true) (hK : X.K = K := by rfl) : CallR X (.builtin "any") (rAny K) := hK ▸ cr_any hc
theorem cr_sumK (hc : X.calm = true) (hK : X.K = K := by rfl) : CallR X (.builtin "sum") (rSum K) := hK ▸ cr_sum hc
theorem cr_sortedSK (hK : X.K = K := by rfl) : CallR X (.builtin "sorted") (rSortedS K) := hK ▸ cr_sortedS
def rListOf (K : PySem.W.Frag) : List V → Hp → VK → Prop := fun xs H Q => ∃ p ys, xs = [.ref p] ∧ (SqL K H p ys ∨ SqT K H p ys) ∧ ∀ l, H l = none → Q (.ref l) (upd H l (.lst ys))
def rTupOf (K : PySem.W.Frag) : List V → Hp → VK → Prop := fun xs H Q => ∃ p ys, xs = [.ref p] ∧ ((SqL K H p ys ∧ ∀ l, H l = none → Q (.ref l) (upd H l (.tup ys))) ∨ (SqT K H p ys ∧ Q (.ref p) H))
theorem call_list_ofK (hK : X.K = K := by rfl) : CallR X (.type "list") (rListOf K) := hK ▸ call_list_of
theorem call_tuple_ofK (hK : X.K = K := by rfl) : CallR X (.type "tuple") (rTupOf K) := hK ▸ call_tuple_of
def rDictP (K : PySem.W.Frag) : List V → Hp → VK → Prop := fun xs H Q => ∃ (a : Addr) (ps : List Addr) (kvs : List (Key × V)), xs = [.ref a] ∧ SqL K H a (ps.map V.ref) ∧ Paired (fun p kv => SqT K H p [kV kv.1, kv.2]) ps kvs ∧
    ∀ p, H p = none → Q (.ref p) (upd H p (.dK (mergeK [] kvs)))
theorem call_dictPK (hc : X.calm = true) (hK : X.K = K := by rfl) : CallR X (.type "dict") (rDictP K) := hK ▸ call_dictP hc
theorem pi_listK (hl : PE X l tl) (hK : X.K = K := by rfl) : PI X tg l (iList K tl) := hK ▸ pi_list hl
theorem pi_tupK (hl : PE X l tl) (hK : X.K = K := by rfl) : PI X tg l (iTup K tl) := hK ▸ pi_tup hl
theorem pi_enumK {elts : List Expr} {kk : Nat} (hg : Gl X "enumerate") (hm : X.mg "enumerate" = none) (ha : PA X [e] t) (hK : X.K = K := by rfl) (hs : starEach [e] X.env = [(false, eval e X.env)] := by rfl) : PI X (.Tuple elts kk tpos) (.Call (.Name "enumerate" p) [e] [] pos) (iEnum K t) := hK ▸ pi_enum hg hm ha hs
theorem sl_listK (hK : X.K = K := by rfl) : L2.SlR X (rSlL K) := hK ▸ sl_list
theorem pg_tupK {k n : Nat} {tt : TGs} (hc : X.calm = true) (h : PGs X es tt) (hK : X.K = K := by rfl) (hn : (assignEach es X.env).length = n := by rfl) (hst : (assignEach es X.env).findIdx? (·.1) = none := by rfl) : PG X (.Tuple es k pos) (gTup K n tt) := hK ▸ pg_tup hc h hn hst
theorem pe_joinK {a b : Expr} {to te : TE} (ho : PE X a to) (he : PE X b te) : True := True.intro
end
end Rb
/-! DC -/
/-! Built-in calls and operators in such terms; a def's promise. -/
namespace Dn
open PySem PySem.Spec PyProof.Rows L2
section
variable {P : Program} {w : World} {K : PySem.W.Frag} {mg : Str → Option Value} {base : Heap} {x qual : Str} {params : Arguments} {body : List Stmt} {scope : Scope} {dvs : List V} {kws : List (Str × V)} {f : Addr} {fd : FuncData}
/-- each def keeps its promise -/
theorem def_ok {N ps : List Str} {k : Nat} {rel : List Den → Own → Own → Den → Prop} (F : FunD K x qual params body scope dvs kws f fd) (S : FnScope N ps scope) (hl : ∀ Rs Os Os' R, rel Rs Os Os' R → Rs.length = ps.length)
    (hb : ∀ (cdv : Value) (A : Around) (outer : List PySem.Env) (s : Shared) (H : Hp) (E : XK), Room k (A.deeper (envOfC qual scope s.heap.objs.size f cdv)) →
      ∃ t, PSs (cxOf CX0 P w K mg base N qual scope f cdv A outer s H E) body t ∧ ∀ Rs Os Os' R, rel Rs Os Os' R → SB Os t (ctx N.length Rs) (fun o _ => o = Os' ∧ Sub nonD R) (fun o d => o = Os' ∧ Sub d R)) : FnOk P w K mg base CX0 (k + 1) f fd ps (DefSp rel) := by
  refine F.ok S (fun vs H Q E h => ?_) fun cdv A outer s H vs Q E hr h => ?_
  · obtain ⟨H0, Os, Os', Rs, R, _, _, hf, hr, _⟩ := h
    rw [← Paired.length hf]
    exact hl _ _ _ _ hr
  · obtain ⟨t, ht, hb⟩ := hb cdv A outer s H E hr
    refine ⟨t, ht, ?_⟩
    obtain ⟨H0, Os, Os', Rs, R, sm, hw, hf, hr, q⟩ := h
    exact hb Rs Os Os' R hr (L2.start N vs) H0 H _ (Env.start hf) sm hw (fun o g ⟨e1, e2⟩ σ' H0' H' gr _ => q _ H0' H' (e1 ▸ gr) (e2 _ _ rfl)) fun o d ⟨e1, e2⟩ v H0' H' gr hv => q v H0' H' (e1 ▸ gr) (e2 _ _ hv)
end
/-- a promise, by cases a: arguments, one's own ahead and behind, answer -/
def ow {α : Type} (Pr : α → Prop) (args : α → List Den) (os os' : α → Own) (res : α → Den) : List Den → Own → Own → Den → Prop := fun Rs Os Os' R => ∃ a, Pr a ∧ Rs = args a ∧ Os = os a ∧ Os' = os' a ∧ R = res a
abbrev pu {α : Type} (Pr : α → Prop) (args : α → List Den) (res : α → Den) : List Den → Own → Own → Den → Prop := ow Pr args (fun _ => []) (fun _ => []) res
section
variable {P : Program} {w : World} {K : PySem.W.Frag} {mg : Str → Option Value} {base : Heap} {x qual : Str} {params : Arguments} {body : List Stmt} {scope : Scope} {dvs : List V} {kws : List (Str × V)} {f : Addr} {fd : FuncData}
theorem ow_ok {N ps : List Str} {k : Nat} {α : Type} {Pr : α → Prop} {args : α → List Den} {os os' : α → Own} {res : α → Den} (F : FunD K x qual params body scope dvs kws f fd) (S : FnScope N ps scope) (hl : ∀ a, (args a).length = ps.length)
    (hb : ∀ (cdv : Value) (A : Around) (outer : List PySem.Env) (s : Shared) (H : Hp) (E : XK), Room k (A.deeper (envOfC qual scope s.heap.objs.size f cdv)) →
      ∃ t, PSs (cxOf CX0 P w K mg base N qual scope f cdv A outer s H E) body t ∧ ∀ a, Pr a → SB (os a) t (ctx N.length (args a)) (fun o _ => o = os' a ∧ Sub nonD (res a)) (fun o d => o = os' a ∧ Sub d (res a))) : FnOk P w K mg base CX0 (k + 1) f fd ps (DefSp (ow Pr args os os' res)) :=
  def_ok F S (fun Rs Os Os' R h => by
    obtain ⟨a, _, e, _⟩ := h
    rw [e]
    exact hl a) fun cdv A outer s H E hr => by
    obtain ⟨t, h1, h2⟩ := hb cdv A outer s H E hr
    refine ⟨t, h1, fun Rs Os Os' R h => ?_⟩
    obtain ⟨a, ha, rfl, rfl, rfl, rfl⟩ := h
    exact h2 a ha
end
section
variable {Os : Own} {Γ : Ctx} {te : TE} {α : Type} {Pr : α → Prop} {args : α → List Den} {res : α → Den} {os os' : α → Own} {tA : TA}
theorem ed_callP (a : α) (h : EA Os tA Γ (args a)) (hp : Pr a) : ED Os (tCall (DefSp (pu Pr args res)) [] E0 tA) Γ (res a) := ed_callO h (Os1 := []) List.nodup_nil (fun q z => nomatch z) ⟨a, hp, rfl, rfl, rfl, rfl⟩
/-- with one thing of one's own -/
theorem ed_call1P {p : Addr} {O : Ow} (a : α) (h : EA Os tA Γ (args a)) (hp : Pr a) (h1 : os a = [(p, O)]) (h2 : os' a = [(p, O)]) (hm : (p, O) ∈ Os) : ED Os (tCall (DefSp (ow Pr args os os' res)) [] E0 tA) Γ (res a) := ed_call1 h hm ⟨a, hp, rfl, h1.symm, h2.symm, rfl⟩
theorem ed_methP {C : Addr} {fs : List (Str × Den)} {m : Str} {Rs : List Den} (a : α) (h : ED Os te Γ (insD C fs)) (ha : EA Os tA Γ Rs) (hp : Pr a) (e : insD C fs :: Rs = args a := by rfl) (l : fs.lookup m = none := by rfl) : ED Os (tMeth C m (DefSp (pu Pr args res)) [] E0 te tA) Γ (res a) :=
  ed_methO h l ha (Os1 := []) List.nodup_nil (fun q z => nomatch z) ⟨a, hp, e, rfl, rfl, rfl⟩
theorem ed_propP {C : Addr} {fs : List (Str × Den)} (a : α) (h : ED Os te Γ (insD C fs)) (hp : Pr a) (e : [insD C fs] = args a := by rfl) : ED Os (tProp C (DefSp (pu Pr args res)) [] E0 te) Γ (res a) := fun σ H0 H e' s w Q q =>
  h σ H0 H e' s w _ fun x H1 H1' g1 hx => by
    obtain ⟨b, dx, us, ex, ea, p⟩ := id hx
    subst ex
    exact ⟨b, dx, us, rfl, g1.sub _ _ ea, def_sp (Os := []) (Os' := []) g1.sub .nil (.cons hx .nil) ⟨a, hp, e, rfl, rfl, rfl⟩ fun v H2 H2' g2 h2 => q v H2 H2' (g1.trans (g2.up g1.ow)) h2⟩
end
section
variable {K : PySem.W.Frag} {Os : Own} {Γ : Ctx} {ta tb te tc : TE} {A B C R : Den} {r r' : R2}
theorem CD.to {r : List V → Hp → VK → Prop} {As As' : List Den} (h : CD r As R) (f : ∀ H vs, Fits H As' vs → Fits H As vs) : CD r As' R := fun H0 H xs s hf Q q => h H0 H xs s (f _ _ hf) Q q
theorem od_le {i j : Int} : OD (rI0 fun i j => .bl (decide (i ≤ j))) (intD i) (intD j) (blD (decide (i ≤ j))) := od_I0
theorem od_lt {i j : Int} : OD (rI0 fun i j => .bl (decide (i < j))) (intD i) (intD j) (blD (decide (i < j))) := od_I0
theorem od_gt {i j : Int} : OD (rI0 fun i j => .bl (decide (j < i))) (intD i) (intD j) (blD (decide (j < i))) := od_I0
theorem od_ge {i j : Int} : OD (rI0 fun i j => .bl (decide (j ≤ i))) (intD i) (intD j) (blD (decide (j ≤ i))) := od_I0
theorem od_add {i j : Int} : OD (rI0 fun i j => .int (i + j)) (intD i) (intD j) (intD (i + j)) := od_I0
theorem od_sub {i j : Int} : OD (rI0 fun i j => .int (i - j)) (intD i) (intD j) (intD (i - j)) := od_I0
/-! ### chains, None -/
theorem ed_chain {a b : Bool} (ha : ED Os ta Γ A) (hb : ED Os tb Γ B) (hc : a = true → ED Os tc Γ C) (h1 : OD r A B (blD a)) (h2 : OD r' B C (blD b)) : ED Os (tChain r r' ta tb tc) Γ (blD (a && b)) := fun σ H0 H e s w Q q =>
  ha σ H0 H e s w _ fun x H1 H1' g1 hx => hb σ H1 H1' (e.mono g1.s0) g1.sub g1.ow _ fun y H2 H2' g2 hy => h1 H2 H2' x y g2.sub (A.mono g2.s0 hx) hy _ fun z H3 H3' g3 hz => ⟨a, hz, by
    have g3u := g3.up g2.ow
    have g13 := (g1.trans g2).trans g3u
    cases a with
    | true =>
      show tc σ H3' _
      exact hc rfl σ H3 H3' (e.mono g13.s0) g3u.sub g3u.ow _ fun w' H4 H4' g4 hw => h2 H4 H4' y w' g4.sub (B.mono (g3.s0.trans g4.s0) hy) hw _ fun v H5 H5' g5 hv => q v H5 H5' ((g13.trans g4).trans (g5.up g4.ow)) hv
    | false =>
      show Q (.bl false) H3'
      exact q _ H3 H3' g13 rfl⟩
def notN (R : Den) : Prop := ∀ H v, R.p H v → v ≠ .non
theorem od_isN : OD (fun x y H Q => y = .non ∧ Q (.bl (decide (x = .non))) H) nonD nonD (blD true) := fun H0 H x y s hx hy Q q => ⟨hy, by
  have e : x = .non := hx
  subst e
  exact q _ H0 H (.refl s .nil) rfl⟩
theorem od_isN' (n : notN A) : OD (fun x y H Q => y = .non ∧ Q (.bl (decide (x = .non))) H) A nonD (blD false) := fun H0 H x y s hx hy Q q => ⟨hy, by
  rw [decide_eq_false (n _ _ hx)]
  exact q _ H0 H (.refl s .nil) rfl⟩
theorem od_notN : OD (fun x y H Q => y = .non ∧ Q (.bl (!decide (x = .non))) H) nonD nonD (blD false) := fun H0 H x y s hx hy Q q => ⟨hy, by
  have e : x = .non := hx
  subst e
  exact q _ H0 H (.refl s .nil) rfl⟩
theorem od_notN' (n : notN A) : OD (fun x y H Q => y = .non ∧ Q (.bl (!decide (x = .non))) H) A nonD (blD true) := fun H0 H x y s hx hy Q q => ⟨hy, by
  rw [decide_eq_false (n _ _ hx)]
  exact q _ H0 H (.refl s .nil) rfl⟩
/-- None, or an int -/
def optD : Option Int → Den
  | none => nonD
  | some i => intD i
theorem od_isO {o : Option Int} : OD (fun x y H Q => y = .non ∧ Q (.bl (decide (x = .non))) H) (optD o) nonD (blD (decide (o = none))) := by
  cases o with
  | none => exact od_isN
  | some i => exact od_isN' fun H v h z => by rw [show v = V.int i from h] at z; cases z
theorem od_notO {o : Option Int} : OD (fun x y H Q => y = .non ∧ Q (.bl (!decide (x = .non))) H) (optD o) nonD (blD (!decide (o = none))) := by
  cases o with
  | none => exact od_notN
  | some i => exact od_notN' fun H v h z => by rw [show v = V.int i from h] at z; cases z
theorem optD_some {o : Option Int} {i : Int} (h : o = some i) : optD o = intD i := by rw [h]; rfl
theorem optD_none {o : Option Int} (h : o = none) : optD o = nonD := by rw [h]; rfl
/-! ### isinstance -/
def Ty (K : PySem.W.Frag) (R : Den) (t : Value) : Prop := ∀ H v, R.p H v → TyX K H v t
theorem _root_.L2.TyX.mono {H H' : Hp} {v : V} {t : Value} (s : Same H H') (h : TyX K H v t) : TyX K H' v t := by
  cases h with
  | base b =>
    cases b with
    | non => exact .base .non
    | bl x => exact .base (.bl x)
    | int i => exact .base (.int i)
    | str x => exact .base (.str x)
    | flt x => exact .base (.flt x)
    | lst e => exact .base (.lst (s _ _ e))
    | frz e => exact .base (.frz (s _ _ e))
    | tup e => exact .base (.tup (s _ _ e))
    | dK e => exact .base (.dK (s _ _ e))
    | dT e => exact .base (.dT (s _ _ e))
    | ins e a b c d f => exact .base (.ins (s _ _ e) a b c d f)
  | byt b => exact .byt b
  | set e => exact .set (s _ _ e)
  | kList e c => exact .kList e c
  | kTuple e c => exact .kTuple e c
  | kDict e c => exact .kDict e c
  | fTuple e => exact .fTuple (s _ _ e)
  | fDict e => exact .fDict (s _ _ e)
theorem ty_int {i : Int} : Ty K (intD i) (.type "int") := fun H v h => by rw [show v = V.int i from h]; exact .base (.int i)
theorem ty_bl {i : Bool} : Ty K (blD i) (.type "bool") := fun H v h => by rw [show v = V.bl i from h]; exact .base (.bl i)
theorem ty_str {i : Str} : Ty K (strD i) (.type "str") := fun H v h => by rw [show v = V.str i from h]; exact .base (.str i)
theorem ty_non : Ty K nonD (.type "NoneType") := fun H v h => by rw [show v = V.non from h]; exact .base .non
theorem ty_lst {Rs : List Den} : Ty K (lstD Rs) (.type "list") := fun H v ⟨a, vs, e, h, _⟩ => by subst e; exact .base (.lst h)
theorem ty_tup {Rs : List Den} : Ty K (tupD Rs) (.type "tuple") := fun H v ⟨a, vs, e, h, _⟩ => by subst e; exact .base (.tup h)
theorem ty_dk {Rs : List (Key × Den)} : Ty K (dkD Rs) (.type "dict") := fun H v ⟨a, o, us, e, h, _⟩ => by subst e; exact .fDict h
theorem cd_isi {b : Bool} {t u : Value} {c : V} (ht : Ty K A t) (hc : ClsV c u) (hk : PySem.W.kitOne K t u = some b) : CD (rIsi K) [A, valD c] (blD b) := fun H0 H xs s hf Q q => by
  cases hf with
  | cons r1 t1 => cases t1 with
    | cons r2 t2 =>
      cases t2
      exact ⟨_, c, t, u, b, by rw [show _ = c from r2], hc, (ht _ _ r1).mono s, hk, q _ H0 H (.refl s .nil) rfl⟩
/-- of two built-in types -/
theorem cd_isiB {b : Bool} {t n : String} (ht : Ty K A (.type t)) (hk : kitB t n = some b := by decide +kernel) : CD (rIsi K) [A, valD (.ty n)] (blD b) := cd_isi ht (.ty n) (kit_ty hk)
theorem kAny_nil {t : Value} : PySem.W.kitAny K t [] = some false := rfl
theorem cd_isiT2 {b b' : Bool} {t n n' : String} (ht : Ty K A (.type t)) (hk : kitB t n = some b := by decide +kernel) (hk' : kitB t n' = some b' := by decide +kernel) : CD (rIsiT K) [A, tupD [valD (.ty n), valD (.ty n')]] (blD (b || b')) := fun H0 H xs s hf Q q => by
  cases hf with
  | cons r1 t1 => cases t1 with
    | cons r2 t2 =>
      cases t2
      obtain ⟨a, vs, e, h, hf⟩ := r2
      subst e
      have e2 : vs = [V.ty n, V.ty n'] := Fits.vals (vs := [V.ty n, V.ty n']) hf
      subst e2
      refine ⟨_, a, _, _, [.type n, .type n'], b || b', rfl, s _ _ h, .cons (.ty n) (.cons (.ty n') .nil), (ht _ _ r1).mono s, ?_, q _ H0 H (.refl s .nil) rfl⟩
      refine kitAny_cons (kit_ty hk) (fun eb => ?_) (fun eb => by rw [eb]; rfl)
      subst eb
      refine kitAny_cons (kit_ty hk') (fun eb => ?_) (fun eb => by rw [eb]; rfl)
      subst eb
      rfl
/-! ### len, all, any, sum -/
theorem cd_len {Rs : List Den} (hl : Rs.length ≤ 16000000 := by first | decide | omega) : CD (rLen K) [lstD Rs] (intD (Rs.length : Nat)) := fun H0 H xs s hf Q q => by
  cases hf with
  | cons r1 t1 =>
    cases t1
    obtain ⟨a, vs, e, h, hf⟩ := r1
    subst e
    exact ⟨_, _, rfl, .inl ⟨vs, .of (s _ _ h), rfl⟩, q _ H0 H (.refl s .nil) (by rw [Paired.length hf]; rfl)⟩
theorem cd_lenT {Rs : List Den} : CD (rLen K) [tupD Rs] (intD (Rs.length : Nat)) := fun H0 H xs s hf Q q => by
  cases hf with
  | cons r1 t1 =>
    cases t1
    obtain ⟨a, vs, e, h, hf⟩ := r1
    subst e
    exact ⟨_, _, rfl, .inr ⟨vs, .of (s _ _ h), rfl⟩, q _ H0 H (.refl s .nil) (by rw [Paired.length hf]; rfl)⟩
theorem cd_lenS {z : Str} (h : z.length ≤ sizeLine) : CD (rLen K) [strD z] (intD (z.length : Nat)) := fun H0 H xs s hf Q q => by
  cases hf with
  | cons r1 t1 =>
    cases t1
    exact ⟨.str z, z.length, by rw [show _ = V.str z from r1], ⟨h, rfl⟩, q _ H0 H (.refl s .nil) rfl⟩
theorem fits_map {α : Type} {f : α → V} {l : List α} {H : Hp} {vs : List V} (h : Fits H (l.map fun x => valD (f x)) vs) : vs = l.map f := by
  have e : (l.map fun x => valD (f x)) = (l.map f).map valD := by rw [List.map_map]; rfl
  rw [e] at h
  exact Fits.vals h
theorem cd_all {bs : List Bool} : CD (rAll K) [lstD (bs.map fun b => blD b)] (blD (bs.all id)) := fun H0 H xs s hf Q q => by
  cases hf with
  | cons r1 t1 =>
    cases t1
    obtain ⟨a, vs, e, h, hf⟩ := r1
    subst e
    exact ⟨a, bs, rfl, by rw [← fits_map hf]; exact .of (s _ _ h), q _ H0 H (.refl s .nil) rfl⟩
theorem cd_any {bs : List Bool} : CD (rAny K) [lstD (bs.map fun b => blD b)] (blD (bs.any id)) := fun H0 H xs s hf Q q => by
  cases hf with
  | cons r1 t1 =>
    cases t1
    obtain ⟨a, vs, e, h, hf⟩ := r1
    subst e
    exact ⟨a, bs, rfl, by rw [← fits_map hf]; exact .of (s _ _ h), q _ H0 H (.refl s .nil) rfl⟩
theorem cd_sum {bs : List Int} : CD (rSum K) [lstD (bs.map fun b => intD b)] (intD bs.sum) := fun H0 H xs s hf Q q => by
  cases hf with
  | cons r1 t1 =>
    cases t1
    obtain ⟨a, vs, e, h, hf⟩ := r1
    subst e
    exact ⟨a, bs, rfl, by rw [← fits_map hf]; exact .of (s _ _ h), q _ H0 H (.refl s .nil) rfl⟩
/-! ### in -/
theorem od_inSign {c : Nat} {z : Str} : OD (fun x y H Q => ∃ (c : Nat) (z : Str), x = .str ⟨#[c]⟩ ∧ y = .str z ∧ Q (.bl (decide (c ∈ z.cps.toList))) H) (strD ⟨#[c]⟩) (strD z) (blD (decide (c ∈ z.cps.toList))) := fun H0 H x y s hx hy Q q => ⟨c, z, hx, hy, q _ H0 H (.refl s .nil) rfl⟩
theorem eqV_str (x y : Str) : eqV (.str x) (.str y) = decide (x = y) := by
  show (x == y) = _
  by_cases h : x = y
  · subst h; simp
  · rw [decide_eq_false h, beq_eq_false_iff_ne.mpr h]
theorem inV_str {x : Str} {xs : List Str} : inV (.str x) (xs.map V.str) = decide (x ∈ xs) := by
  unfold inV
  induction xs with
  | nil => rfl
  | cons y ys ih =>
    rw [List.map_cons, List.any_cons, ih, eqV_str]
    by_cases h : y = x
    · subst h; simp
    · have h' : x ≠ y := fun z => h z.symm
      simp [h, h']
theorem inV_int {x : Int} {xs : List Int} : inV (.int x) (xs.map V.int) = decide (x ∈ xs) := by
  unfold inV
  induction xs with
  | nil => rfl
  | cons y ys ih =>
    have e : eqV (.int y) (.int x) = decide (y = x) := by
      show (y == x) = _
      by_cases h : y = x
      · subst h; simp
      · rw [decide_eq_false h, beq_eq_false_iff_ne.mpr h]
    rw [List.map_cons, List.any_cons, ih, e]
    by_cases h : y = x
    · subst h; simp
    · have h' : x ≠ y := fun z => h z.symm
      simp [h, h']
theorem flat_str (xs : List Str) : (xs.map V.str).all flatV = true := by
  rw [List.all_map]
  exact List.all_eq_true.mpr fun _ _ => rfl
theorem flat_int (xs : List Int) : (xs.map V.int).all flatV = true := by
  rw [List.all_map]
  exact List.all_eq_true.mpr fun _ _ => rfl
theorem od_inL {x : Str} {xs : List Str} : OD (rIn K false) (strD x) (lstD (xs.map fun y => strD y)) (blD (decide (x ∈ xs))) := fun H0 H a b s hx ⟨l, vs, e, h, hf⟩ Q q => by
  subst e
  rw [fits_map hf] at h
  rw [show a = V.str x from hx]
  exact ⟨l, _, rfl, .inl (.of (s _ _ h)), rfl, flat_str xs, by show Q (.bl (inV _ _)) H; rw [inV_str]; exact q _ H0 H (.refl s .nil) rfl⟩
theorem od_inT {x : Str} {xs : List Str} : OD (rIn K false) (strD x) (tupD (xs.map fun y => strD y)) (blD (decide (x ∈ xs))) := fun H0 H a b s hx ⟨l, vs, e, h, hf⟩ Q q => by
  subst e
  rw [fits_map hf] at h
  rw [show a = V.str x from hx]
  exact ⟨l, _, rfl, .inr (.of (s _ _ h)), rfl, flat_str xs, by show Q (.bl (inV _ _)) H; rw [inV_str]; exact q _ H0 H (.refl s .nil) rfl⟩
theorem od_notInL {x : Str} {xs : List Str} : OD (rIn K true) (strD x) (lstD (xs.map fun y => strD y)) (blD (!decide (x ∈ xs))) := fun H0 H a b s hx ⟨l, vs, e, h, hf⟩ Q q => by
  subst e
  rw [fits_map hf] at h
  rw [show a = V.str x from hx]
  exact ⟨l, _, rfl, .inl (.of (s _ _ h)), rfl, flat_str xs, by show Q (.bl (!inV _ _)) H; rw [inV_str]; exact q _ H0 H (.refl s .nil) rfl⟩
theorem od_inLI {x : Int} {xs : List Int} : OD (rIn K false) (intD x) (lstD (xs.map fun y => intD y)) (blD (decide (x ∈ xs))) := fun H0 H a b s hx ⟨l, vs, e, h, hf⟩ Q q => by
  subst e
  rw [fits_map hf] at h
  rw [show a = V.int x from hx]
  exact ⟨l, _, rfl, .inl (.of (s _ _ h)), rfl, flat_int xs, by show Q (.bl (inV _ _)) H; rw [inV_int]; exact q _ H0 H (.refl s .nil) rfl⟩
/-! ### nested data -/
def Dat (K : PySem.W.Frag) (R : Den) (d : PyData) : Prop := ∀ H v, R.p H v → Dp K H v d
theorem dat_str {z : Str} : Dat K (strD z) (.str z) := fun H v h => by rw [show v = V.str z from h]; exact .str z
theorem dat_int {z : Int} : Dat K (intD z) (.int z) := fun H v h => by rw [show v = V.int z from h]; exact .int z
theorem dat_bl {z : Bool} : Dat K (blD z) (.bool z) := fun H v h => by rw [show v = V.bl z from h]; exact .bl z
theorem dat_non : Dat K nonD .none := fun H v h => by rw [show v = V.non from h]; exact .non
theorem dat_all {H : Hp} : ∀ {Rs : List Den} {ds : List PyData} {vs : List V}, Paired (Dat K) Rs ds → Fits H Rs vs → DpAll K H vs ds
  | _, _, _, .nil, .nil => .nil
  | _, _, _, .cons d t, .cons r s => .cons (d _ _ r) (dat_all t s)
theorem dat_lst {Rs : List Den} {ds : List PyData} (h : Paired (Dat K) Rs ds) : Dat K (lstD Rs) (.list ds) := fun H v ⟨a, vs, e, ha, hf⟩ => by subst e; exact .lst (.of ha) (dat_all h hf)
theorem dat_tup {Rs : List Den} {ds : List PyData} (h : Paired (Dat K) Rs ds) : Dat K (tupD Rs) (.tuple ds) := fun H v ⟨a, vs, e, ha, hf⟩ => by subst e; exact .tup (.of ha) (dat_all h hf)
theorem dat_map {α : Type} {f : α → Den} {g : α → PyData} (h : ∀ x, Dat K (f x) (g x)) : ∀ l : List α, Paired (Dat K) (l.map f) (l.map g)
  | [] => .nil
  | x :: l => .cons (h x) (dat_map h l)
mutual
theorem Dp.mono {H H' : Hp} (s : Same H H') : ∀ {d : PyData} {v : V}, Dp K H v d → Dp K H' v d
  | _, _, .non => .non
  | _, _, .bl b => .bl b
  | _, _, .int b => .int b
  | _, _, .str b => .str b
  | _, _, .lst h t => .lst (s.seq h) (DpAll.mono s t)
  | _, _, .tup h t => .tup (s.tup h) (DpAll.mono s t)
theorem DpAll.mono {H H' : Hp} (s : Same H H') : ∀ {ds : List PyData} {vs : List V}, DpAll K H vs ds → DpAll K H' vs ds
  | _, _, .nil => .nil
  | _, _, .cons h t => .cons (Dp.mono s h) (DpAll.mono s t)
end
theorem od_eqD {d e : PyData} (hA : Dat K A d) (hB : Dat K B e) (sd : SeqAt.shaped d = true) (se : SeqAt.shaped e = true) : OD (rEqD K) A B (blD (PyData.eqv d e)) := fun H0 H x y s hx hy Q q => ⟨d, e, Dp.mono s (hA _ _ hx), Dp.mono s (hB _ _ hy), sd, se, q _ H0 H (.refl s .nil) rfl⟩
theorem od_neD {d e : PyData} (hA : Dat K A d) (hB : Dat K B e) (sd : SeqAt.shaped d = true) (se : SeqAt.shaped e = true) : OD (rNeD K) A B (blD (!PyData.eqv d e)) := fun H0 H x y s hx hy Q q => ⟨d, e, Dp.mono s (hA _ _ hx), Dp.mono s (hB _ _ hy), sd, se, q _ H0 H (.refl s .nil) rfl⟩
theorem od_inD {d : PyData} {ds : List PyData} (hA : Dat K A d) (hB : Dat K B (.list ds)) (sd : SeqAt.shaped d = true) (se : SeqAt.shaped (.list ds) = true) : OD (rInD K) A B (blD (ds.any fun z => PyData.eqv z d)) := fun H0 H x y s hx hy Q q => ⟨d, ds, Dp.mono s (hA _ _ hx), Dp.mono s (hB _ _ hy), sd, se, q _ H0 H (.refl s .nil) rfl⟩
theorem od_notInD {d : PyData} {ds : List PyData} (hA : Dat K A d) (hB : Dat K B (.list ds)) (sd : SeqAt.shaped d = true) (se : SeqAt.shaped (.list ds) = true) : OD (rNotInD K) A B (blD (!ds.any fun z => PyData.eqv z d)) := fun H0 H x y s hx hy Q q => ⟨d, ds, Dp.mono s (hA _ _ hx), Dp.mono s (hB _ _ hy), sd, se, q _ H0 H (.refl s .nil) rfl⟩
/-! ### xs[i], xs + ys, slices -/
theorem fits_get {H : Hp} {Rs : List Den} {vs : List V} {i : Nat} {R : Den} (h : Fits H Rs vs) (e : Rs[i]? = some R) : ∃ v, vs[i]? = some v ∧ R.p H v := Paired.get' (F := fun (R : Den) (x : V) => R.p H x) h e
theorem atI_nat {α : Type} {xs : List α} {i : Nat} {v : α} (h : xs[i]? = some v) : atI xs (i : Int) = some v := by
  have hl := (List.getElem?_eq_some_iff.mp h).1
  unfold atI ixN
  rw [if_pos (Int.natCast_nonneg i), if_pos (by omega)]
  exact h
theorem od_ixL {Rs : List Den} {i : Nat} (h : Rs[i]? = some R) : OD (rIxL K) (lstD Rs) (intD (i : Nat)) R := fun H0 H x y s ⟨a, vs, e, ha, hf⟩ hy Q q => by
  subst e
  obtain ⟨v, h1, h2⟩ := fits_get hf h
  exact ⟨a, vs, i, v, rfl, hy, .of (s _ _ ha), atI_nat h1, q v H0 H (.refl s .nil) h2⟩
theorem od_ixT {Rs : List Den} {i : Nat} (h : Rs[i]? = some R) : OD (rIxT K) (tupD Rs) (intD (i : Nat)) R := fun H0 H x y s ⟨a, vs, e, ha, hf⟩ hy Q q => by
  subst e
  obtain ⟨v, h1, h2⟩ := fits_get hf h
  exact ⟨a, vs, i, v, rfl, hy, .of (s _ _ ha), atI_nat h1, q v H0 H (.refl s .nil) h2⟩
theorem od_cat {Rs Ss : List Den} (hl : Rs.length + Ss.length ≤ 100000 := by first | decide | (simp <;> omega)) : OD rCat (lstD Rs) (lstD Ss) (lstD (Rs ++ Ss)) := fun H0 H x y s ⟨a, vs, e, ha, hf⟩ ⟨b, us, e', hb, hg⟩ Q q => by
  subst e e'
  exact ⟨a, b, vs, us, rfl, rfl, s _ _ ha, s _ _ hb, sz_of (by rw [← Paired.length hf, ← Paired.length hg]; exact hl), fun p hp => q (.ref p) _ _ (.new0 s hp) ⟨p, _, rfl, upd_same, Fits.mono (same_upd (s.free hp)) (fits_app hf hg)⟩⟩
theorem od_catT {Rs Ss : List Den} (hl : Rs.length + Ss.length ≤ 100000 := by first | decide | (simp <;> omega)) : OD (rCatA K) (tupD Rs) (tupD Ss) (tupD (Rs ++ Ss)) := fun H0 H x y s ⟨a, vs, e, ha, hf⟩ ⟨b, us, e', hb, hg⟩ Q q => by
  subst e e'
  refine ⟨a, b, vs, us, rfl, rfl, .of (s _ _ ha), .of (s _ _ hb), sz_of (by rw [← Paired.length hf, ← Paired.length hg]; exact hl), fun z => ?_, fun _ z => ?_, fun _ _ p hp => q (.ref p) _ _ (.new0 s hp) ⟨p, _, rfl, upd_same, Fits.mono (same_upd (s.free hp)) (fits_app hf hg)⟩⟩
  · subst z
    cases hf
    exact q _ H0 H (.refl s .nil) ⟨b, us, rfl, hb, hg⟩
  · subst z
    cases hg
    exact q _ H0 H (.refl s .nil) ⟨a, vs, rfl, ha, by rw [List.append_nil]; exact hf⟩
/-! ### int, str, list, max, min, abs -/
theorem cd_int {i : Int} : CD (fun xs H Q => (∃ i, xs = [.int i] ∧ Q (.int i) H) ∨ ∃ k, xs = [.bl k] ∧ Q (.int (if k then 1 else 0)) H) [intD i] (intD i) := fun H0 H xs s hf Q q => by
  cases hf with
  | cons r1 t1 =>
    cases t1
    exact .inl ⟨i, by rw [show _ = V.int i from r1], q _ H0 H (.refl s .nil) rfl⟩
theorem cd_intB {b : Bool} : CD (fun xs H Q => (∃ i, xs = [.int i] ∧ Q (.int i) H) ∨ ∃ k, xs = [.bl k] ∧ Q (.int (if k then 1 else 0)) H) [blD b] (intD (if b then 1 else 0)) := fun H0 H xs s hf Q q => by
  cases hf with
  | cons r1 t1 =>
    cases t1
    exact .inr ⟨b, by rw [show _ = V.bl b from r1], q _ H0 H (.refl s .nil) rfl⟩
theorem cd_str {z : Str} : CD (fun xs H Q => ∃ a, xs = [.str a] ∧ Q (.str a) H) [strD z] (strD z) := fun H0 H xs s hf Q q => by
  cases hf with
  | cons r1 t1 =>
    cases t1
    exact ⟨z, by rw [show _ = V.str z from r1], q _ H0 H (.refl s .nil) rfl⟩
theorem cd_max {i j : Int} : CD (fun xs H Q => ∃ i j, xs = [.int i, .int j] ∧ Q (.int (if j > i then j else i)) H) [intD i, intD j] (intD (max i j)) := fun H0 H xs s hf Q q => by
  cases hf with
  | cons r1 t1 => cases t1 with
    | cons r2 t2 =>
      cases t2
      refine ⟨i, j, by rw [show _ = V.int i from r1, show _ = V.int j from r2], ?_⟩
      have e : (if j > i then j else i) = max i j := by
        split <;> omega
      rw [e]
      exact q _ H0 H (.refl s .nil) rfl
theorem cd_min {i j : Int} : CD (fun xs H Q => ∃ i j, xs = [.int i, .int j] ∧ Q (.int (if j < i then j else i)) H) [intD i, intD j] (intD (min i j)) := fun H0 H xs s hf Q q => by
  cases hf with
  | cons r1 t1 => cases t1 with
    | cons r2 t2 =>
      cases t2
      refine ⟨i, j, by rw [show _ = V.int i from r1, show _ = V.int j from r2], ?_⟩
      have e : (if j < i then j else i) = min i j := by
        split <;> omega
      rw [e]
      exact q _ H0 H (.refl s .nil) rfl
theorem cd_list {Rs : List Den} : CD (Rb.rListOf K) [lstD Rs] (lstD Rs) := fun H0 H xs s hf Q q => by
  cases hf with
  | cons r1 t1 =>
    cases t1
    obtain ⟨a, vs, e, h, hf⟩ := r1
    subst e
    exact ⟨a, vs, rfl, .inl (.of (s _ _ h)), fun l hl => q _ _ _ (.new0 s hl) ⟨l, vs, rfl, upd_same, hf.mono (same_upd (s.free hl))⟩⟩
theorem cd_listT {Rs : List Den} : CD (Rb.rListOf K) [tupD Rs] (lstD Rs) := fun H0 H xs s hf Q q => by
  cases hf with
  | cons r1 t1 =>
    cases t1
    obtain ⟨a, vs, e, h, hf⟩ := r1
    subst e
    exact ⟨a, vs, rfl, .inr (.of (s _ _ h)), fun l hl => q _ _ _ (.new0 s hl) ⟨l, vs, rfl, upd_same, hf.mono (same_upd (s.free hl))⟩⟩
theorem cd_tuple {Rs : List Den} : CD (Rb.rTupOf K) [lstD Rs] (tupD Rs) := fun H0 H xs s hf Q q => by
  cases hf with
  | cons r1 t1 =>
    cases t1
    obtain ⟨a, vs, e, h, hf⟩ := r1
    subst e
    exact ⟨a, vs, rfl, .inl ⟨.of (s _ _ h), fun l hl => q _ _ _ (.new0 s hl) ⟨l, vs, rfl, upd_same, hf.mono (same_upd (s.free hl))⟩⟩⟩
/-! ### frozen dicts -/
def look {κ : Type} [DecidableEq κ] (kvs : List (κ × Den)) (k : κ) : Option Den := (kvs.find? fun p => decide (p.1 = k)).map (·.2)
theorem look_paired {κ : Type} [DecidableEq κ] {H : Hp} {k : κ} : ∀ {kvs : List (κ × Den)} {us : List (κ × V)}, Paired (fun (p : κ × Den) (q : κ × V) => p.1 = q.1 ∧ p.2.p H q.2) kvs us → (∀ R, look kvs k = some R → ∃ v, valV us k = some v ∧ R.p H v) ∧ (look kvs k = none → valV us k = none)
  | _, _, .nil => ⟨fun R h => (nomatch h), fun _ => rfl⟩
  | (k1, R1) :: kvs, (k2, v2) :: us, .cons r t => by
    obtain ⟨i1, i2⟩ := look_paired (k := k) t
    obtain ⟨e1, e2⟩ := r
    dsimp at e1 e2
    subst e1
    unfold look valV at *
    rw [List.find?_cons, List.find?_cons]
    by_cases q : k1 = k
    · simp only [decide_eq_true q]
      exact ⟨fun R h => ⟨v2, rfl, (Option.some.inj h) ▸ e2⟩, fun h => (nomatch h)⟩
    · simp only [decide_eq_false q]
      exact ⟨i1, i2⟩
theorem dget_k {kvs : List (Key × Den)} {k : Key} (h : look kvs k = some R) (ha : ED Os ta Γ (dkD kvs)) (hb : ED Os tb Γ (valD (kV k))) : ED Os (tDGet ta tb) Γ R := fun σ H0 H e s w Q q =>
  ha σ H0 H e s w _ fun x H1 H1' g1 ⟨a, o, us, ex, hx, hp⟩ => hb σ H1 H1' (e.mono g1.s0) g1.sub g1.ow _ fun y H2 H2' g2 hy => by
    obtain ⟨v, h1, h2⟩ := (look_paired hp).1 R h
    exact ⟨a, v, ex, .inl ⟨us, k, .inr ⟨o, g2.sub _ _ (g2.s0 _ _ hx)⟩, hy, h1.symm⟩, q v H2 H2' (g1.trans g2) (R.mono g2.s0 h2)⟩
theorem ed_frz {kvs : List (Key × Den)} (h : ∀ (σ : L2.St) (H0 H : Hp), Env H0 Γ σ → Same H0 H → Hold Os H0 H → ∀ Q : VK, (∀ a H0' H' us, Grow Os H0 H Os H0' H' → H' a = some (.dK us) → H0' a = none → a ∉ ads Os → (∀ o, H a ≠ some o) → Paired (fun (p : Key × Den) (q : Key × V) => p.1 = q.1 ∧ p.2.p H0' q.2) kvs us → Q (.ref a) H') → te σ H Q) : ED Os (tFrz te) Γ (dkD kvs) := fun σ H0 H e s w Q q =>
  h σ H0 H e s w _ fun a H1 H1' us g1 ha n1 no nH hp => ⟨a, _, rfl, ha, True.intro, fun od => q (.ref a) (upd H1 a (.frz od (.dK us))) _ ⟨g1.s0.trans (same_upd n1), fun b o hb eb => by
      rw [upd_ne fun z => nH o (by rw [← z]; exact eb)]
      exact g1.s1 b o hb eb, fun b o hb => by
      by_cases z : b = a
      · subst z; rw [upd_same] at hb ⊢; exact hb
      · rw [upd_ne z] at hb ⊢; exact g1.sub b o hb, fun b o hb eb n => by
      rw [upd_ne fun z => nH o (by rw [← z]; exact eb)]
      exact g1.fr b o hb eb n, ⟨g1.ow.nd, fun p hp => by
      obtain ⟨n, o, eo, po⟩ := g1.ow.at_ p hp
      have ne : p.1 ≠ a := fun z => no (by rw [← z]; exact ads_mem hp)
      exact ⟨by rw [upd_ne ne]; exact n, o, by rw [upd_ne ne]; exact eo, p.2.mono (same_upd n1) po⟩⟩, g1.nw⟩ ⟨a, od, us, rfl, upd_same, Paired.mono' (fun p _ h => ⟨h.1, p.2.mono (same_upd n1) h.2⟩) hp⟩⟩
end
end Dn
/-! Srt -/
/-! The one rising order of texts. -/
namespace Srt
open PySem PySem.Spec PyProof.Rows
theorem lt_irr : ∀ a : List Nat, ltCps a a = false
  | [] => rfl
  | x :: a => by
    show (decide (x < x) || (x == x && ltCps a a)) = false
    rw [lt_irr a]; simp
theorem lt_asymm : ∀ {a b : List Nat}, ltCps a b = true → ltCps b a = false
  | [], [], _ => rfl
  | [], _ :: _, _ => rfl
  | _ :: _, [], h => by cases h
  | x :: a, y :: b, h => by
    have h' : (decide (x < y) || (x == y && ltCps a b)) = true := h
    show (decide (y < x) || (y == x && ltCps b a)) = false
    simp only [Bool.or_eq_true, decide_eq_true_eq, Bool.and_eq_true, beq_iff_eq] at h'
    rcases h' with h' | ⟨h1, h2⟩
    · have e1 : decide (y < x) = false := decide_eq_false (by omega)
      have e2 : (y == x) = false := beq_eq_false_iff_ne.mpr (by omega)
      rw [e1, e2]; rfl
    · subst h1
      rw [lt_asymm h2]; simp
theorem lt_tri : ∀ {a b : List Nat}, ltCps a b = false → ltCps b a = false → a = b
  | [], [], _, _ => rfl
  | [], _ :: _, h, _ => by cases h
  | _ :: _, [], _, h => by cases h
  | x :: a, y :: b, h, h' => by
    have h1 : (decide (x < y) || (x == y && ltCps a b)) = false := h
    have h2 : (decide (y < x) || (y == x && ltCps b a)) = false := h'
    simp only [Bool.or_eq_false_iff, decide_eq_false_iff_not] at h1 h2
    have e : x = y := by omega
    subst e
    have z1 := h1.2
    have z2 := h2.2
    simp only [beq_self_eq_true, Bool.true_and] at z1 z2
    rw [lt_tri z1 z2]
theorem ge_trans : ∀ {a b c : List Nat}, ltCps b a = false → ltCps c b = false → ltCps c a = false
  | [], _, [], _, _ => rfl
  | [], [], c, _, h => h
  | [], _ :: _, _ :: _, _, _ => rfl
  | _ :: _, [], _, h, _ => by cases h
  | _ :: _, _ :: _, [], _, h => by cases h
  | x :: a, y :: b, z :: c, h, h' => by
    have h1 : (decide (y < x) || (y == x && ltCps b a)) = false := h
    have h2 : (decide (z < y) || (z == y && ltCps c b)) = false := h'
    show (decide (z < x) || (z == x && ltCps c a)) = false
    simp only [Bool.or_eq_false_iff, decide_eq_false_iff_not] at h1 h2 ⊢
    refine ⟨by omega, ?_⟩
    by_cases e : z = x
    · have e1 : y = x := by omega
      subst e1
      subst e
      have z1 := h1.2
      have z2 := h2.2
      simp only [beq_self_eq_true, Bool.true_and] at z1 z2 ⊢
      exact ge_trans z1 z2
    · rw [beq_eq_false_iff_ne.mpr e]; rfl
def le (a b : Str) : Prop := ltCps b.cps.toList a.cps.toList = false
theorem le_refl (a : Str) : le a a := lt_irr _
theorem le_trans {a b c : Str} (h : le a b) (h' : le b c) : le a c := ge_trans h h'
theorem le_anti {a b : Str} (h : le a b) (h' : le b a) : a = b := by
  obtain ⟨⟨x⟩⟩ := a
  obtain ⟨⟨y⟩⟩ := b
  have e : x = y := lt_tri h' h
  rw [e]
theorem le_total (a b : Str) : le a b ∨ le b a := by
  unfold le
  cases h : ltCps b.cps.toList a.cps.toList with
  | false => exact .inl rfl
  | true => exact .inr (lt_asymm h)
theorem rising_pw : ∀ {l : List Str} {p : Str}, risingS p l = true ↔ (p :: l).Pairwise le
  | [], p => ⟨fun _ => List.pairwise_singleton _ _, fun _ => rfl⟩
  | x :: l, p => by
    show (!ltCps x.cps.toList p.cps.toList && risingS x l) = true ↔ _
    rw [Bool.and_eq_true, rising_pw (l := l) (p := x), List.pairwise_cons (a := p)]
    constructor
    · intro ⟨h1, h2⟩
      have h3 : le p x := by unfold le; cases z : ltCps x.cps.toList p.cps.toList with
        | false => rfl
        | true => rw [z] at h1; cases h1
      refine ⟨fun y hy => ?_, h2⟩
      rcases List.mem_cons.mp hy with e | e
      · rw [e]; exact h3
      · exact le_trans h3 ((List.pairwise_cons.mp h2).1 y e)
    · intro ⟨h1, h2⟩
      have h3 : ltCps x.cps.toList p.cps.toList = false := h1 x List.mem_cons_self
      exact ⟨by rw [h3]; rfl, h2⟩
theorem sorted_pw : ∀ {l : List Str}, sortedS l = true ↔ l.Pairwise le
  | [] => ⟨fun _ => .nil, fun _ => rfl⟩
  | _ :: _ => rising_pw
theorem eq_of_perm : ∀ {l₁ l₂ : List Str}, l₁.Perm l₂ → l₁.Pairwise le → l₂.Pairwise le → l₁ = l₂
  | [], l₂, h, _, _ => (List.nil_perm.mp h).symm
  | a :: l₁, [], h, _, _ => by have := h.length_eq; simp at this
  | a :: l₁, b :: l₂, h, p1, p2 => by
    obtain ⟨q1, r1⟩ := List.pairwise_cons.mp p1
    obtain ⟨q2, r2⟩ := List.pairwise_cons.mp p2
    have hab : le a b := by
      have m : b ∈ a :: l₁ := h.symm.subset List.mem_cons_self
      rcases List.mem_cons.mp m with e | e
      · rw [e]; exact le_refl _
      · exact q1 b e
    have hba : le b a := by
      have m : a ∈ b :: l₂ := h.subset List.mem_cons_self
      rcases List.mem_cons.mp m with e | e
      · rw [e]; exact le_refl _
      · exact q2 a e
    have e := le_anti hab hba
    subst e
    rw [eq_of_perm ((List.perm_cons a).mp h) r1 r2]
/-- in its place -/
def ins (a : Str) : List Str → List Str
  | [] => [a]
  | b :: l => if ltCps b.cps.toList a.cps.toList = false then a :: b :: l else b :: ins a l
/-- the rising order -/
def srt : List Str → List Str
  | [] => []
  | a :: l => ins a (srt l)
theorem ins_perm (a : Str) : ∀ l, (ins a l).Perm (a :: l)
  | [] => .refl _
  | b :: l => by
    unfold ins
    split
    · exact .refl _
    · exact ((ins_perm a l).cons b).trans (List.Perm.swap a b l)
theorem srt_perm : ∀ l, (srt l).Perm l
  | [] => .refl _
  | a :: l => (ins_perm a _).trans ((srt_perm l).cons a)
theorem ins_pw (a : Str) : ∀ {l : List Str}, l.Pairwise le → (ins a l).Pairwise le
  | [], _ => List.pairwise_singleton _ _
  | b :: l, h => by
    obtain ⟨h1, h2⟩ := List.pairwise_cons.mp h
    unfold ins
    split
    · rename_i q
      exact List.pairwise_cons.mpr ⟨fun y hy => by
        rcases List.mem_cons.mp hy with e | e
        · rw [e]; exact q
        · exact le_trans q (h1 y e), h⟩
    · rename_i q
      have hb : le b a := by
        rcases le_total a b with z | z
        · exact absurd z q
        · exact z
      refine List.pairwise_cons.mpr ⟨fun y hy => ?_, ins_pw a h2⟩
      rcases List.mem_cons.mp ((ins_perm a l).subset hy) with e | e
      · rw [e]; exact hb
      · exact h1 y e
theorem srt_pw : ∀ l, (srt l).Pairwise le
  | [] => .nil
  | a :: l => ins_pw a (srt_pw l)
theorem srt_eq {ys xs : List Str} (h : ys.Perm xs) (s : sortedS ys = true) : ys = srt xs := eq_of_perm (h.trans (srt_perm xs).symm) (sorted_pw.mp s) (srt_pw xs)
theorem srt_of {xs : List Str} (h : xs.Pairwise le) : srt xs = xs := eq_of_perm (srt_perm xs) (srt_pw xs) h
theorem srt_congr {xs ys : List Str} (h : xs.Perm ys) : srt xs = srt ys := eq_of_perm ((srt_perm xs).trans (h.trans (srt_perm ys).symm)) (srt_pw xs) (srt_pw ys)
theorem srt_srt (xs : List Str) : srt (srt xs) = srt xs := srt_of (srt_pw xs)
theorem mem_srt {x : Str} {xs : List Str} : x ∈ srt xs ↔ x ∈ xs := (srt_perm xs).mem_iff
theorem length_srt (xs : List Str) : (srt xs).length = xs.length := (srt_perm xs).length_eq
end Srt
/-! DE -/
/-! Comprehensions' dicts, sorted, slices, slotted instances, class constants in such terms. -/
namespace Dn
open PySem PySem.Spec PyProof.Rows L2
section
variable {K : PySem.W.Frag} {Os : Own} {Γ : Ctx} {ta tb te tk tv : TE} {t : TT} {A B C R : Den} {g : TG} {wi : TI} {sa : TS} {N : Own → Ctx → Prop} {O : Own → Den → Prop}
/-! ### lists of answers -/
theorem cd_allM {α : Type} {xs : List α} {f : α → Bool} : CD (rAll K) [lstD (xs.map fun x => blD (f x))] (blD (xs.all f)) := by
  have e1 : (xs.map fun x => blD (f x)) = (xs.map f).map fun b => blD b := by rw [List.map_map]; rfl
  have e2 : xs.all f = (xs.map f).all id := by rw [List.all_map]; rfl
  rw [e1, e2]
  exact cd_all
theorem cd_anyM {α : Type} {xs : List α} {f : α → Bool} : CD (rAny K) [lstD (xs.map fun x => blD (f x))] (blD (xs.any f)) := by
  have e1 : (xs.map fun x => blD (f x)) = (xs.map f).map fun b => blD b := by rw [List.map_map]; rfl
  have e2 : xs.any f = (xs.map f).any id := by rw [List.any_map]; rfl
  rw [e1, e2]
  exact cd_any
theorem cd_sumM {α : Type} {xs : List α} {f : α → Int} : CD (rSum K) [lstD (xs.map fun x => intD (f x))] (intD (xs.map f).sum) := by
  have e1 : (xs.map fun x => intD (f x)) = (xs.map f).map fun b => intD b := by rw [List.map_map]; rfl
  rw [e1]
  exact cd_sum
/-- without a test -/
theorem ed_lc0 {α : Type} {xs : List α} {d f : α → Den} {Γ1 : α → Ctx} {vs is : List Nat} (hi : EI Os wi Γ (· = xs.map d)) (hg : ∀ x, x ∈ xs → GD g (wipeC Γ vs) (d x) (Γ1 x) is)
    (he : ∀ x, x ∈ xs → ED Os te (Γ1 x) (f x)) (hv : (is.all fun i => vs.contains i) = true := by decide) (hz : xs.length ≤ 100000 := by first | decide | omega) : ED Os (tLc wi g tYes te vs) Γ (lstD (xs.map f)) := by
  have z := ed_lc (p := fun _ => true) hi hg (fun x _ => et_yes) (fun x hx _ => he x hx) hv hz
  have e : xs.filter (fun _ => true) = xs := by simp
  rw [e] at z
  exact z
theorem ei_strC {z : Str} (h : ED Os te Γ (strD z)) : EI Os (iStr te) Γ (· = z.cps.toList.map fun c => strD ⟨#[c]⟩) := by
  have e : (signs z).map strD = z.cps.toList.map fun c => strD ⟨#[c]⟩ := by unfold signs; rw [List.map_map]; rfl
  rw [← e]
  exact ei_str h
/-! ### a comprehension's walk, whatever it gathers -/
def tAcc (wi : TI) (g : TG) (tt : TT) (o0 : HO) (bd : Addr → L2.St → Hp → (Hp → Prop) → Prop) (vs : List Nat) : TE := fun σ H Q => wi σ H fun J H1 => ∀ D, H1 D = none → ∃ W : Nat → Nat → Hp → Prop, (∃ m, W 0 m (upd H1 D o0)) ∧ ∀ i m H, W i m H →
  (J.stop i H ∧ Q (.ref D) H) ∨ (J.go i H ∧ ∃ Nx : Hp → Prop, (∀ H', Nx H' → ∃ m', m' < m ∧ W (i + 1) m' H') ∧ ∀ x H', J.yld i H x H' → g x (wipe σ vs) H' fun σ2 H2 => wipe σ2 vs = wipe σ vs ∧ tt σ2 H2 fun b H3 =>
    if b = true then bd D σ2 H3 Nx else Nx H3)
def ETP (Os : Own) (tt : TT) (Γ : Ctx) (pb : Bool → Prop) : Prop := ∀ (σ : L2.St) (H0 H : Hp), Env H0 Γ σ → Same H0 H → Hold Os H0 H → ∀ Q : Bool → Hp → Prop, (∀ b H0' H', pb b → Grow Os H0 H Os H0' H' → Q b H') → tt σ H Q
theorem etp_yes : ETP Os tYes Γ (· = true) := fun σ H0 H e s w Q q => q true H0 H rfl (.refl s w)
theorem etp_en (h : EN Os t Γ) : ETP Os t Γ (fun _ => True) := fun σ H0 H e s w Q q => h σ H0 H e s w Q fun b H0' H' gr => q b H0' H' trivial gr
def ItdO (Os : Own) (J : It) (H0 : Hp) (Rs : List Den) : Prop := ∀ H1 H1', Same H0 H1 → Same H1 H1' → Hold Os H1 H1' →
  (∀ i, i < Rs.length → J.go i H1') ∧ J.stop Rs.length H1' ∧ ∀ i x H2', J.yld i H1' x H2' → ∀ R, Rs[i]? = some R → ∃ H2, Grow [] H1 H1' [] H2 H2' ∧ R.p H2 x
/-- what is walked may be one's own: it stays as it is told -/
def EIO (Os : Own) (wi : TI) (Γ : Ctx) (P : List Den → Prop) : Prop := ∀ (σ : L2.St) (H0 H : Hp), Env H0 Γ σ → Same H0 H → Hold Os H0 H → ∀ R : It → Hp → Prop, (∀ J H0' H' Rs, P Rs → Grow Os H0 H Os H0' H' → ItdO Os J H0' Rs → R J H') → wi σ H R
theorem EI.o {P : List Den → Prop} (h : EI Os wi Γ P) : EIO Os wi Γ P := fun σ H0 H e s w R q => h σ H0 H e s w R fun J H0' H' Rs hP g1 it => q J H0' H' Rs hP g1 fun H1 H1' s0 s1 _ => it H1 H1' s0 s1
theorem eio_list {a : Addr} {Rs : List Den} (h : ED Os te Γ (valD (.ref a))) (hm : (a, lstO Rs) ∈ Os) : EIO Os (iList K te) Γ (· = Rs) := fun σ H0 H e s w R q => h σ H0 H e s w _ fun v H1 H1' g1 hv => by
  have ev : v = .ref a := hv
  subst ev
  obtain ⟨_, o, eo, us, po, hf⟩ := g1.ow.at_ _ hm
  subst po
  refine ⟨a, rfl, ⟨us, .of eo⟩, q _ H1 H1' _ rfl g1 fun H2 H2' s0 s2 w2 => ?_⟩
  obtain ⟨_, o2, eo2, us2, po2, hf2⟩ := w2.at_ _ hm
  subst po2
  have l2 : SqL K H2' a us2 := .of eo2
  have len : Rs.length = us2.length := Paired.length hf2
  refine ⟨fun i hi => ⟨us2, us2[i]'(by omega), l2, by simp [show i < us2.length by omega]⟩, ⟨us2, l2, Nat.le_of_eq len.symm⟩, fun i x H3' hy R hR => ?_⟩
  obtain ⟨e1, e2⟩ := hy
  subst e1
  obtain ⟨y, h1, h2⟩ := Paired.get' hf2 hR
  have e3 := e2 us2 l2
  rw [h1] at e3
  cases e3
  exact ⟨H2, .refl s2 .nil, h2⟩
theorem acc_walk {α : Type} {xs : List α} {d : α → Den} {Γ1 : α → Ctx} {vs is : List Nat} {o0 : HO} {bd : Addr → L2.St → Hp → (Hp → Prop) → Prop} {pb : α → Bool → Prop} (Acc : Hp → List α → HO → Prop) (am : ∀ {H H' : Hp} {ys o}, Same H H' → Acc H ys o → Acc H' ys o) (a0 : ∀ H, Acc H [] o0)
    (hi : EIO Os wi Γ (· = xs.map d)) (hg : ∀ x, x ∈ xs → GD g (wipeC Γ vs) (d x) (Γ1 x) is) (ht : ∀ x, x ∈ xs → ETP Os t (Γ1 x) (pb x))
    (hsk : ∀ H pre x o, x ∈ xs → pb x false → Acc H pre o → Acc H (pre ++ [x]) o)
    (hs : ∀ pre x post, xs = pre ++ x :: post → pb x true → ∀ (σ : L2.St) (H0 H : Hp) (D : Addr) (o : HO), Env H0 (Γ1 x) σ → Same H0 H → Hold Os H0 H → H0 D = none → D ∉ ads Os → H D = some o → Acc H0 pre o → ∀ Nx : Hp → Prop, (∀ H0' H' o', Grow Os H0 H Os H0' H' → Acc H0' (pre ++ [x]) o' → Nx (upd H' D o')) → bd D σ H Nx)
    (hv : (is.all fun i => vs.contains i) = true) : ∀ (σ : L2.St) (H0 H : Hp), Env H0 Γ σ → Same H0 H → Hold Os H0 H → ∀ Q : VK, (∀ D o H0' H', Grow Os H0 H Os H0' H' → H0' D = none → D ∉ ads Os → (∀ u, H D ≠ some u) → H' D = some o → Acc H0' xs o → Q (.ref D) H') → tAcc wi g t o0 bd vs σ H Q := fun σ H0 H e s w Q q => by
  refine hi σ H0 H e s w _ fun J H1 H1' Rs hRs g1 it Dl hD => ?_
  have hD0 : H1 Dl = none := g1.sub.free hD
  have hDo : Dl ∉ ads Os := g1.ow.out hD
  have hDH : ∀ u, H Dl ≠ some u := fun u z => by
    have := g1.s1 _ _ hDo z
    rw [hD] at this
    cases this
  refine ⟨fun i m H' => m = xs.length - i ∧ i ≤ xs.length ∧ ∃ (H2 : Hp) (o : HO), Grow Os H1 H1' Os H2 H' ∧ H2 Dl = none ∧ H' Dl = some o ∧ Acc H2 (xs.take i) o, ⟨_, rfl, Nat.zero_le _, H1, o0, ⟨Same.refl _, fun b o _ hb => same_upd hD b o hb, g1.sub.trans (same_upd hD), fun b o _ hb n => n, ⟨g1.ow.nd, fun q hq => ?_⟩, fun b hb => .inl hb⟩, hD0, upd_same, a0 _⟩, ?_⟩
  · obtain ⟨n, o, eo, po⟩ := g1.ow.at_ q hq
    exact ⟨n, o, same_upd hD _ _ eo, po⟩
  rintro i m H2' ⟨rfl, hle, H2, o, g2, n2, hl, hf⟩
  obtain ⟨go, stop, yld⟩ := it H2 H2' g2.s0 g2.sub g2.ow
  rw [hRs, List.length_map] at go stop
  by_cases hlt : i < xs.length
  · refine .inr ⟨go i hlt, fun H' => ∃ (H3 : Hp) (o : HO), Grow Os H1 H1' Os H3 H' ∧ H3 Dl = none ∧ H' Dl = some o ∧ Acc H3 (xs.take (i + 1)) o, fun H' ⟨H3, ws, h⟩ => ⟨_, Nat.sub_lt_sub_left hlt (Nat.lt_succ_self i), rfl, hlt, H3, ws, h⟩, fun x H3' hy => ?_⟩
    have hR : Rs[i]? = some (d xs[i]) := by rw [hRs, List.getElem?_map, List.getElem?_eq_getElem hlt] <;> rfl
    obtain ⟨H3, g3, hx⟩ := yld i x H3' hy _ hR
    have g3u := g3.up g2.ow
    have hm := List.getElem_mem hlt
    have tk : xs.take (i + 1) = xs.take i ++ [xs[i]] := by rw [List.take_add_one, List.getElem?_eq_getElem hlt] <;> rfl
    have sp : xs = xs.take i ++ xs[i] :: xs.drop (i + 1) := by rw [List.getElem_cons_drop, List.take_append_drop]
    have n3 : H3 Dl = none := g3u.fr Dl _ hDo hl n2
    refine hg _ hm (L2.wipe σ vs) H3 H3' x (((e.mono g1.s0).mono (g2.s0.trans g3.s0)).wipe vs) g3.sub hx _ fun σ4 H4 H4' g4 e4 w4 => ⟨?_, ?_⟩
    · rw [w4 vs (mem_sub hv)]
      exact wipe_wipe fun i hi => hi
    · have g4u := g4.up g3u.ow
      have n4 : H4 Dl = none := g4u.fr Dl _ hDo (g3u.s1 _ _ hDo hl) n3
      have l4 : H4' Dl = some o := g4u.s1 _ _ hDo (g3u.s1 _ _ hDo hl)
      refine ht _ hm σ4 H4 H4' e4 g4.sub g4u.ow _ fun b H5 H5' hp g5 => ?_
      have n5 : H5 Dl = none := g5.fr Dl _ hDo l4 n4
      have l5 := g5.s1 _ _ hDo l4
      have g25 := g2.trans (g3u.trans (g4u.trans g5))
      have a5 : Acc H5 (xs.take i) o := am ((g3.s0.trans g4.s0).trans g5.s0) hf
      cases b with
      | true =>
        show bd Dl σ4 H5' _
        refine hs _ _ _ sp hp σ4 H5 H5' Dl o (e4.mono g5.s0) g5.sub g5.ow n5 hDo l5 a5 _ fun H6 H6' o' g6 ha => ?_
        rw [tk]
        have n6 : H6 Dl = none := g6.fr Dl _ hDo l5 n5
        have g26 := g25.trans g6
        refine ⟨H6, o', ⟨g26.s0, fun b o hb eb => ?_, fun b o hb => ?_, g26.fr, ⟨g26.ow.nd, fun q hq => ?_⟩, g26.nw⟩, n6, upd_same, ha⟩
        · rw [upd_ne (ne_of_none eb hD)]; exact g26.s1 b o hb eb
        · rw [upd_ne (ne_of_none hb n6)]; exact g26.sub b o hb
        · obtain ⟨n, o, eo, po⟩ := g26.ow.at_ q hq
          exact ⟨n, o, by rw [upd_ne fun z => hDo (by rw [← z]; exact ads_mem hq)]; exact eo, po⟩
      | false =>
        show ∃ _, _
        rw [tk]
        exact ⟨H5, o, g25, n5, l5, hsk _ _ _ _ hm hp a5⟩
  · have ei : i = xs.length := by omega
    subst ei
    rw [List.take_length] at hf
    exact .inl ⟨stop, q Dl o H2 H2' (g1.trans g2) n2 hDo hDH hl hf⟩
/-- the gathered thing, kept -/
theorem acc_keep {H0 H H0' H' : Hp} {D : Addr} {o : HO} (g1 : Grow Os H0 H Os H0' H') (n : H0' D = none) (no : D ∉ ads Os) (nH : ∀ u, H D ≠ some u) (e : H' D = some o) : Grow Os H0 H Os (upd H0' D o) H' :=
  ⟨g1.s0.trans (same_upd n), g1.s1, fun b u hb => by
    by_cases z : b = D
    · subst z; rw [upd_same] at hb; cases hb; exact e
    · rw [upd_ne z] at hb; exact g1.sub b u hb, fun b u hb eb nb => by
    rw [upd_ne fun z => nH u (by rw [← z]; exact eb)]
    exact g1.fr b u hb eb nb, ⟨g1.ow.nd, fun q hq => by
    obtain ⟨m, u, eu, pu⟩ := g1.ow.at_ q hq
    exact ⟨by rw [upd_ne fun z => no (by rw [← z]; exact ads_mem hq)]; exact m, u, eu, q.2.mono (same_upd n) pu⟩⟩, g1.nw⟩
/-- a list whose test is told nothing of: some of them -/
theorem ed_lcN {α : Type} {xs : List α} {d f : α → Den} {Γ1 : α → Ctx} {vs is : List Nat} (hi : EI Os wi Γ (· = xs.map d)) (hg : ∀ x, x ∈ xs → GD g (wipeC Γ vs) (d x) (Γ1 x) is) (ht : ∀ x, x ∈ xs → EN Os t (Γ1 x))
    (he : ∀ x, x ∈ xs → ED Os te (Γ1 x) (f x)) (hv : (is.all fun i => vs.contains i) = true := by decide) (hz : xs.length ≤ 100000 := by first | decide | omega) : ED Os (tLc wi g t te vs) Γ (exD (fun ys : List α => ys.Sublist xs) fun ys => lstD (ys.map f)) := fun σ H0 H e s w Q q =>
  acc_walk (o0 := .lst []) (bd := fun D σ2 H3 Nx => te σ2 H3 fun y H4 => ∃ acc, H4 D = some (.lst acc) ∧ acc.length < sizeLine ∧ Nx (upd H4 D (.lst (acc ++ [y])))) (pb := fun _ _ => True)
    (fun H pre o => ∃ (ys : List α) (us : List V), ys.Sublist pre ∧ o = .lst us ∧ Fits H (ys.map f) us) (fun sm ⟨ys, us, h1, h2, h3⟩ => ⟨ys, us, h1, h2, h3.mono sm⟩) (fun H => ⟨[], [], .refl _, rfl, .nil⟩) hi.o hg (fun x hx => etp_en (ht x hx))
    (fun H pre x o _ _ ⟨ys, us, h1, h2, h3⟩ => ⟨ys, us, h1.trans (List.sublist_append_left _ _), h2, h3⟩)
    (fun pre x post sp _ σ H0 H D o e s w nD nO eD ⟨ys, us, h1, h2, h3⟩ Nx q => by
      subst h2
      refine he x (by rw [sp]; exact List.mem_append_right _ List.mem_cons_self) σ H0 H e s w _ fun v H0' H' gr hv => ⟨us, gr.s1 _ _ nO eD, sz_lt ?_, q H0' H' _ gr ⟨ys ++ [x], us ++ [v], h1.append (.refl _), rfl, by rw [List.map_append]; exact fits_app (h3.mono gr.s0) (.cons hv .nil)⟩⟩
      have l1 : us.length = ys.length := by rw [← Paired.length h3, List.length_map]
      have l2 := h1.length_le
      have l3 : xs.length = pre.length + (post.length + 1) := by rw [sp, List.length_append, List.length_cons]
      omega) hv σ H0 H e s w Q fun D o H0' H' g1 n no nH eo ⟨ys, us, h1, h2, h3⟩ => q _ _ H' (acc_keep g1 n no nH eo) ⟨ys, h1, D, us, rfl, by rw [upd_same, h2], h3.mono (same_upd n)⟩
theorem put_new {κ : Type} [DecidableEq κ] {H : Hp} {kvs : List (κ × Den)} {us : List (κ × V)} {k : κ} {v : V} {R : Den} (h : Paired (fun (p : κ × Den) (q : κ × V) => p.1 = q.1 ∧ p.2.p H q.2) kvs us) (n : k ∉ kvs.map (·.1)) (hv : R.p H v) : Paired (fun (p : κ × Den) (q : κ × V) => p.1 = q.1 ∧ p.2.p H q.2) (kvs ++ [(k, R)]) (putK us k v) := by
  have hn : look kvs k = none := by
    unfold look
    rw [Option.map_eq_none_iff, List.find?_eq_none]
    intro p hp
    have : p.1 ≠ k := fun z => n (by rw [← z]; exact List.mem_map.mpr ⟨p, hp, rfl⟩)
    simp [this]
  rw [putK_new v ((look_paired h).2 hn)]
  exact Paired.app h (.cons ⟨rfl, hv⟩ .nil)
theorem frz_grow {H0 H H0' H' : Hp} {D : Addr} {o o' : HO} (g1 : Grow Os H0 H Os H0' H') (n : H0' D = none) (no : D ∉ ads Os) (nH : ∀ u, H D ≠ some u) (e : H' D = some o) : Grow Os H0 H Os (upd H0' D o') (upd H' D o') := by
  have nH' : H D = none := by
    cases z : H D with
    | none => rfl
    | some u => exact absurd z (nH u)
  refine ⟨g1.s0.trans (same_upd n), fun b u hb eb => ?_, same_upd2 g1.sub, fun b u hb eb nb => ?_, ⟨g1.ow.nd, fun q hq => ?_⟩, g1.nw⟩
  · rw [upd_ne (ne_of_none eb nH')]; exact g1.s1 b u hb eb
  · rw [upd_ne (ne_of_none eb nH')]; exact g1.fr b u hb eb nb
  · obtain ⟨m, u, eu, pu⟩ := g1.ow.at_ q hq
    have ne : q.1 ≠ D := fun z => no (by rw [← z]; exact ads_mem hq)
    exact ⟨by rw [upd_ne ne]; exact m, u, by rw [upd_ne ne]; exact eu, q.2.mono (same_upd n) pu⟩
theorem acc_dc {α : Type} {xs : List α} {d f : α → Den} {key : α → Key} {Γ1 : α → Ctx} {vs is : List Nat} (hi : EI Os wi Γ (· = xs.map d)) (hg : ∀ x, x ∈ xs → GD g (wipeC Γ vs) (d x) (Γ1 x) is)
    (hk : ∀ x, x ∈ xs → ED Os tk (Γ1 x) (valD (kV (key x)))) (he : ∀ x, x ∈ xs → ED Os tv (Γ1 x) (f x)) (nd : (xs.map key).Nodup) (hv : (is.all fun i => vs.contains i) = true) (hz : xs.length ≤ 100000) (σ : L2.St) (H0 H : Hp) (e : Env H0 Γ σ) (s : Same H0 H) (w : Hold Os H0 H) (Q : VK)
    (q : ∀ D us H0' H', Grow Os H0 H Os H0' H' → H0' D = none → D ∉ ads Os → (∀ u, H D ≠ some u) → H' D = some (.dK us) → Paired (fun (p : Key × Den) (q : Key × V) => p.1 = q.1 ∧ p.2.p H0' q.2) (xs.map fun x => (key x, f x)) us → Q (.ref D) H') : tDc wi g tYes tk tv vs σ H Q :=
  acc_walk (o0 := .dK []) (bd := fun D σ2 H3 Nx => tk σ2 H3 fun y H4 => tv σ2 H4 fun z H5 => ∃ kvs k, y = kV k ∧ H5 D = some (.dK kvs) ∧ kvs.length < sizeLine ∧ Nx (upd H5 D (.dK (putK kvs k z)))) (pb := fun _ b => b = true)
    (fun H pre o => ∃ us : List (Key × V), o = .dK us ∧ Paired (fun (p : Key × Den) (q : Key × V) => p.1 = q.1 ∧ p.2.p H q.2) (pre.map fun x => (key x, f x)) us) (fun sm ⟨us, h1, h2⟩ => ⟨us, h1, Paired.mono' (fun p _ h => ⟨h.1, p.2.mono sm h.2⟩) h2⟩) (fun H => ⟨[], rfl, .nil⟩) hi.o hg (fun x hx => etp_yes)
    (fun H pre x o _ z _ => by cases z)
    (fun pre x post sp _ σ H0 H D o e s w nD nO eD ⟨us, h1, h2⟩ Nx q => by
      subst h1
      have hx : x ∈ xs := by rw [sp]; exact List.mem_append_right _ List.mem_cons_self
      refine hk x hx σ H0 H e s w _ fun y H1 H1' g1 hy => he x hx σ H1 H1' (e.mono g1.s0) g1.sub g1.ow _ fun v H2 H2' g2 hv => ⟨us, key x, hy, g2.s1 _ _ nO (g1.s1 _ _ nO eD), sz_lt ?_, q H2 H2' _ (g1.trans g2) ⟨_, rfl, ?_⟩⟩
      · have l1 : us.length = pre.length := by rw [← Paired.length h2, List.length_map]
        have l3 : xs.length = pre.length + (post.length + 1) := by rw [sp, List.length_append, List.length_cons]
        omega
      · rw [List.map_append]
        refine put_new (Paired.mono' (fun p _ h => ⟨h.1, p.2.mono (g1.s0.trans g2.s0) h.2⟩) h2) ?_ hv
        rw [sp, List.map_append, List.nodup_append] at nd
        intro m
        rw [List.map_map] at m
        obtain ⟨z, hz, ez⟩ := List.mem_map.mp m
        exact nd.2.2 (key z) (List.mem_map.mpr ⟨z, hz, rfl⟩) (key x) (List.mem_map.mpr ⟨x, List.mem_cons_self, rfl⟩) ez) hv σ H0 H e s w Q fun D o H0' H' g1 n no nH eo ⟨us, h1, h2⟩ => by
      subst h1
      exact q D us H0' H' g1 n no nH eo h2
/-- {k: v for x in ..}, texts, locked -/
theorem ed_dc {α : Type} {xs : List α} {d f : α → Den} {key : α → Key} {Γ1 : α → Ctx} {vs is : List Nat} (hi : EI Os wi Γ (· = xs.map d)) (hg : ∀ x, x ∈ xs → GD g (wipeC Γ vs) (d x) (Γ1 x) is)
    (hk : ∀ x, x ∈ xs → ED Os tk (Γ1 x) (valD (kV (key x)))) (he : ∀ x, x ∈ xs → ED Os tv (Γ1 x) (f x)) (nd : (xs.map key).Nodup) (hv : (is.all fun i => vs.contains i) = true := by decide) (hz : xs.length ≤ 100000 := by first | decide | omega) : ED Os (tFrz (tDc wi g tYes tk tv vs)) Γ (dkD (xs.map fun x => (key x, f x))) := fun σ H0 H e s w Q q =>
  acc_dc hi hg hk he nd hv hz σ H0 H e s w _ fun D us H0' H' g1 n no nH eo h2 =>
      ⟨D, _, rfl, eo, True.intro, fun od => q _ (upd H0' D (.frz od (.dK us))) _ (frz_grow g1 n no nH eo) ⟨D, od, us, rfl, upd_same, Paired.mono' (fun p _ h => ⟨h.1, p.2.mono (same_upd n) h.2⟩) h2⟩⟩
/-- a tuple's reading as a key -/
def KeyD (A : Den) (k : List Key) : Prop := ∀ H v, A.p H v → ∃ b, v = .ref b ∧ H b = some (.tup (k.map kV))
theorem key_tup (k : List Key) : KeyD (tupD (k.map fun x => valD (kV x))) k := fun H v ⟨a, vs, e, h, hf⟩ => ⟨a, e, by rw [h, fits_map hf]⟩
theorem acc_dcT {α : Type} {xs : List α} {d e' f : α → Den} {key : α → List Key} {Γ1 : α → Ctx} {vs is : List Nat} (hi : EIO Os wi Γ (· = xs.map d)) (hg : ∀ x, x ∈ xs → GD g (wipeC Γ vs) (d x) (Γ1 x) is)
    (hk : ∀ x, x ∈ xs → ED Os tk (Γ1 x) (e' x)) (hkd : ∀ x, KeyD (e' x) (key x)) (he : ∀ x, x ∈ xs → ED Os tv (Γ1 x) (f x)) (nd : (xs.map key).Nodup) (hv : (is.all fun i => vs.contains i) = true) (hz : xs.length ≤ 100000) (σ : L2.St) (H0 H : Hp) (e : Env H0 Γ σ) (s : Same H0 H) (w : Hold Os H0 H) (Q : VK)
    (q : ∀ D us H0' H', Grow Os H0 H Os H0' H' → H0' D = none → D ∉ ads Os → (∀ u, H D ≠ some u) → H' D = some (.dT us) → Paired (fun (p : List Key × Den) (q : List Key × V) => p.1 = q.1 ∧ p.2.p H0' q.2) (xs.map fun x => (key x, f x)) us → Q (.ref D) H') : Rb.tDcT wi g tYes tk tv vs σ H Q :=
  acc_walk (o0 := .dT []) (bd := fun D σ2 H3 Nx => tk σ2 H3 fun y H4 => tv σ2 H4 fun z H5 => ∃ kvs k b, y = .ref b ∧ H5 b = some (.tup (k.map kV)) ∧ H5 D = some (.dT kvs) ∧ kvs.length < sizeLine ∧ Nx (upd H5 D (.dT (putK kvs k z)))) (pb := fun _ b => b = true)
    (fun H pre o => ∃ us : List (List Key × V), o = .dT us ∧ Paired (fun (p : List Key × Den) (q : List Key × V) => p.1 = q.1 ∧ p.2.p H q.2) (pre.map fun x => (key x, f x)) us) (fun sm ⟨us, h1, h2⟩ => ⟨us, h1, Paired.mono' (fun p _ h => ⟨h.1, p.2.mono sm h.2⟩) h2⟩) (fun H => ⟨[], rfl, .nil⟩) hi hg (fun x hx => etp_yes)
    (fun H pre x o _ z _ => by cases z)
    (fun pre x post sp _ σ H0 H D o e s w nD nO eD ⟨us, h1, h2⟩ Nx q => by
      subst h1
      have hx : x ∈ xs := by rw [sp]; exact List.mem_append_right _ List.mem_cons_self
      refine hk x hx σ H0 H e s w _ fun y H1 H1' g1 hy => he x hx σ H1 H1' (e.mono g1.s0) g1.sub g1.ow _ fun v H2 H2' g2 hv => ?_
      obtain ⟨b, eb, hb⟩ := hkd x _ _ hy
      refine ⟨us, key x, b, eb, g2.sub _ _ (g2.s0 _ _ hb), g2.s1 _ _ nO (g1.s1 _ _ nO eD), sz_lt ?_, q H2 H2' _ (g1.trans g2) ⟨_, rfl, ?_⟩⟩
      · have l1 : us.length = pre.length := by rw [← Paired.length h2, List.length_map]
        have l3 : xs.length = pre.length + (post.length + 1) := by rw [sp, List.length_append, List.length_cons]
        omega
      · rw [List.map_append]
        refine put_new (Paired.mono' (fun p _ h => ⟨h.1, p.2.mono (g1.s0.trans g2.s0) h.2⟩) h2) ?_ hv
        rw [sp, List.map_append, List.nodup_append] at nd
        intro m
        rw [List.map_map] at m
        obtain ⟨z, hz, ez⟩ := List.mem_map.mp m
        exact nd.2.2 (key z) (List.mem_map.mpr ⟨z, hz, rfl⟩) (key x) (List.mem_map.mpr ⟨x, List.mem_cons_self, rfl⟩) ez) hv σ H0 H e s w Q fun D o H0' H' g1 n no nH eo ⟨us, h1, h2⟩ => by
      subst h1
      exact q D us H0' H' g1 n no nH eo h2
/-- {(..): v for x in ..}, locked -/
theorem ed_dcT {α : Type} {xs : List α} {d e' f : α → Den} {key : α → List Key} {Γ1 : α → Ctx} {vs is : List Nat} (hi : EI Os wi Γ (· = xs.map d)) (hg : ∀ x, x ∈ xs → GD g (wipeC Γ vs) (d x) (Γ1 x) is)
    (hk : ∀ x, x ∈ xs → ED Os tk (Γ1 x) (e' x)) (hkd : ∀ x, KeyD (e' x) (key x)) (he : ∀ x, x ∈ xs → ED Os tv (Γ1 x) (f x)) (nd : (xs.map key).Nodup) (hv : (is.all fun i => vs.contains i) = true := by decide) (hz : xs.length ≤ 100000 := by first | decide | omega) : ED Os (tFrz (Rb.tDcT wi g tYes tk tv vs)) Γ (dtD (xs.map fun x => (key x, f x))) := fun σ H0 H e s w Q q =>
  acc_dcT hi.o hg hk hkd he nd hv hz σ H0 H e s w _ fun D us H0' H' g1 n no nH eo h2 =>
      ⟨D, _, rfl, eo, True.intro, fun od => q _ (upd H0' D (.frz od (.dT us))) _ (frz_grow g1 n no nH eo) ⟨D, od, us, rfl, upd_same, Paired.mono' (fun p _ h => ⟨h.1, p.2.mono (same_upd n) h.2⟩) h2⟩⟩
/-- .. as a dict of one's own -/
theorem grow_own {H0 H H0' H' : Hp} {D : Addr} {o : HO} {O1 : Ow} (g1 : Grow Os H0 H Os H0' H') (n : H0' D = none) (no : D ∉ ads Os) (nH : ∀ u, H D ≠ some u) (e : H' D = some o) (p : O1.p H0' o) : Grow Os H0 H ((D, O1) :: Os) H0' H' :=
  ⟨g1.s0, g1.s1, g1.sub, g1.fr, ⟨List.nodup_cons.mpr ⟨no, g1.ow.nd⟩, fun q hq => by
    rcases List.mem_cons.mp hq with z | z
    · subst z; exact ⟨n, o, e, p⟩
    · exact g1.ow.at_ q z⟩, fun b hb => by
    rcases List.mem_cons.mp hb with z | z
    · refine .inr ?_
      cases q : H b with
      | none => rfl
      | some u => exact absurd (by rw [← show b = D from z]; exact q) (nH u)
    · exact .inl z⟩
theorem sb_newDcT {α : Type} {xs : List α} {d e' f : α → Den} {key : α → List Key} {Γ1 : α → Ctx} {vs is : List Nat} {i : Nat} (hi : EIO Os wi Γ (· = xs.map d)) (hg : ∀ x, x ∈ xs → GD g (wipeC Γ vs) (d x) (Γ1 x) is)
    (hk : ∀ x, x ∈ xs → ED Os tk (Γ1 x) (e' x)) (hkd : ∀ x, KeyD (e' x) (key x)) (he : ∀ x, x ∈ xs → ED Os tv (Γ1 x) (f x)) (nd : (xs.map key).Nodup) (hv : (is.all fun i => vs.contains i) = true) (hz : xs.length ≤ 100000) (hn : ∀ D, N ((D, dctO .dT (xs.map fun x => (key x, f x))) :: Os) (Γ.set i (some (valD (.ref D))))) : SB Os (tAsg (Rb.tDcT wi g tYes tk tv vs) (gName i)) Γ N O := fun σ H0 H D e s w q _ =>
  acc_dcT hi hg hk hkd he nd hv hz σ H0 H e s w _ fun D us H0' H' g1 n no nH eo h2 => q _ _ (hn D) _ H0' H' (grow_own g1 n no nH eo ⟨us, rfl, h2⟩) ((e.mono g1.s0).set i rfl)
/-- a list of one's own -/
theorem acc_lc {α : Type} {xs : List α} {d f : α → Den} {p : α → Bool} {Γ1 : α → Ctx} {vs is : List Nat} (hi : EIO Os wi Γ (· = xs.map d)) (hg : ∀ x, x ∈ xs → GD g (wipeC Γ vs) (d x) (Γ1 x) is) (ht : ∀ x, x ∈ xs → ET Os t (Γ1 x) (p x))
    (he : ∀ x, x ∈ xs → p x = true → ED Os te (Γ1 x) (f x)) (hv : (is.all fun i => vs.contains i) = true) (hz : xs.length ≤ 100000) (σ : L2.St) (H0 H : Hp) (e : Env H0 Γ σ) (s : Same H0 H) (w : Hold Os H0 H) (Q : VK)
    (q : ∀ D us H0' H', Grow Os H0 H Os H0' H' → H0' D = none → D ∉ ads Os → (∀ u, H D ≠ some u) → H' D = some (.lst us) → Fits H0' ((xs.filter p).map f) us → Q (.ref D) H') : tLc wi g t te vs σ H Q :=
  acc_walk (o0 := .lst []) (bd := fun D σ2 H3 Nx => te σ2 H3 fun y H4 => ∃ acc, H4 D = some (.lst acc) ∧ acc.length < sizeLine ∧ Nx (upd H4 D (.lst (acc ++ [y])))) (pb := fun x b => b = p x)
    (fun H pre o => ∃ us : List V, o = .lst us ∧ Fits H ((pre.filter p).map f) us) (fun sm ⟨us, h2, h3⟩ => ⟨us, h2, h3.mono sm⟩) (fun H => ⟨[], rfl, .nil⟩) hi hg (fun x hx => fun σ H0 H e s w Q q => ht x hx σ H0 H e s w Q fun H0' H' gr => q _ H0' H' rfl gr)
    (fun H pre x o _ hp ⟨us, h2, h3⟩ => ⟨us, h2, by
      rw [List.filter_append, List.map_append, List.filter_cons, if_neg (by rw [← hp]; decide), List.filter_nil, List.map_nil, List.append_nil]
      exact h3⟩)
    (fun pre x post sp hp σ H0 H D o e s w nD nO eD ⟨us, h2, h3⟩ Nx q => by
      subst h2
      refine he x (by rw [sp]; exact List.mem_append_right _ List.mem_cons_self) hp.symm σ H0 H e s w _ fun v H0' H' gr hv => ⟨us, gr.s1 _ _ nO eD, sz_lt ?_, q H0' H' _ gr ⟨us ++ [v], rfl, ?_⟩⟩
      · have l1 : us.length = (pre.filter p).length := by rw [← Paired.length h3, List.length_map]
        have l2 := List.length_filter_le p pre
        have l3 : xs.length = pre.length + (post.length + 1) := by rw [sp, List.length_append, List.length_cons]
        omega
      · rw [List.filter_append, List.map_append, List.filter_cons, if_pos hp.symm, List.filter_nil]
        exact fits_app (h3.mono gr.s0) (.cons hv .nil)) hv σ H0 H e s w Q fun D o H0' H' g1 n no nH eo ⟨us, h2, h3⟩ => by
      subst h2
      exact q D us H0' H' g1 n no nH eo h3
theorem sb_newLc {α : Type} {xs : List α} {d f : α → Den} {p : α → Bool} {Γ1 : α → Ctx} {vs is : List Nat} {i : Nat} (hi : EIO Os wi Γ (· = xs.map d)) (hg : ∀ x, x ∈ xs → GD g (wipeC Γ vs) (d x) (Γ1 x) is) (ht : ∀ x, x ∈ xs → ET Os t (Γ1 x) (p x))
    (he : ∀ x, x ∈ xs → p x = true → ED Os te (Γ1 x) (f x)) (hv : (is.all fun i => vs.contains i) = true) (hz : xs.length ≤ 100000) (hn : ∀ D, N ((D, lstO ((xs.filter p).map f)) :: Os) (Γ.set i (some (valD (.ref D))))) : SB Os (tAsg (tLc wi g t te vs) (gName i)) Γ N O := fun σ H0 H D e s w q _ =>
  acc_lc hi hg ht he hv hz σ H0 H e s w _ fun D us H0' H' g1 n no nH eo h2 => q _ _ (hn D) _ H0' H' (grow_own g1 n no nH eo ⟨us, rfl, h2⟩) ((e.mono g1.s0).set i rfl)
/-! ### dicts: in, len, copies -/
theorem ed_dinK {kvs : List (Key × Den)} {k : Key} (hb : ED Os tk Γ (valD (kV k))) (ha : ED Os ta Γ (dkD kvs)) : ED Os (tDIn tk ta) Γ (blD (look kvs k).isSome) := fun σ H0 H e s w Q q =>
  hb σ H0 H e s w _ fun y H1 H1' g1 hy => ha σ H1 H1' (e.mono g1.s0) g1.sub g1.ow _ fun x H2 H2' g2 ⟨a, o, us, ex, hx, hp⟩ => by
    have e1 : (valV us k).isSome = (look kvs k).isSome := by
      cases z : look kvs k with
      | none => rw [(look_paired hp).2 z]; rfl
      | some R =>
        obtain ⟨v, h1, _⟩ := (look_paired hp).1 R z
        rw [h1]; rfl
    exact ⟨a, _, ex, .inl ⟨us, k, .inr ⟨o, g2.sub _ _ hx⟩, hy, rfl⟩, by rw [e1]; exact q _ H2 H2' (g1.trans g2) rfl⟩
theorem ed_dninK {kvs : List (Key × Den)} {k : Key} (hb : ED Os tk Γ (valD (kV k))) (ha : ED Os ta Γ (dkD kvs)) : ED Os (tDNotIn tk ta) Γ (blD (!(look kvs k).isSome)) := fun σ H0 H e s w Q q =>
  hb σ H0 H e s w _ fun y H1 H1' g1 hy => ha σ H1 H1' (e.mono g1.s0) g1.sub g1.ow _ fun x H2 H2' g2 ⟨a, o, us, ex, hx, hp⟩ => by
    have e1 : (valV us k).isSome = (look kvs k).isSome := by
      cases z : look kvs k with
      | none => rw [(look_paired hp).2 z]; rfl
      | some R =>
        obtain ⟨v, h1, _⟩ := (look_paired hp).1 R z
        rw [h1]; rfl
    exact ⟨a, _, ex, .inl ⟨us, k, .inr ⟨o, g2.sub _ _ hx⟩, hy, rfl⟩, by rw [e1]; exact q _ H2 H2' (g1.trans g2) rfl⟩
theorem ed_dinT {kvs : List (List Key × Den)} {k : List Key} (hk : KeyD A k) (hb : ED Os tk Γ A) (ha : ED Os ta Γ (dtD kvs)) : ED Os (tDIn tk ta) Γ (blD (look kvs k).isSome) := fun σ H0 H e s w Q q =>
  hb σ H0 H e s w _ fun y H1 H1' g1 hy => ha σ H1 H1' (e.mono g1.s0) g1.sub g1.ow _ fun x H2 H2' g2 ⟨a, o, us, ex, hx, hp⟩ => by
    have e1 : (valV us k).isSome = (look kvs k).isSome := by
      cases z : look kvs k with
      | none => rw [(look_paired hp).2 z]; rfl
      | some R =>
        obtain ⟨v, h1, _⟩ := (look_paired hp).1 R z
        rw [h1]; rfl
    obtain ⟨b, eb, hb'⟩ := hk _ _ hy
    exact ⟨a, _, ex, .inr ⟨us, k, b, .inr ⟨o, g2.sub _ _ hx⟩, eb, g2.sub _ _ (g2.s0 _ _ hb'), rfl⟩, by rw [e1]; exact q _ H2 H2' (g1.trans g2) rfl⟩
theorem ed_dninT {kvs : List (List Key × Den)} {k : List Key} (hk : KeyD A k) (hb : ED Os tk Γ A) (ha : ED Os ta Γ (dtD kvs)) : ED Os (tDNotIn tk ta) Γ (blD (!(look kvs k).isSome)) := fun σ H0 H e s w Q q =>
  hb σ H0 H e s w _ fun y H1 H1' g1 hy => ha σ H1 H1' (e.mono g1.s0) g1.sub g1.ow _ fun x H2 H2' g2 ⟨a, o, us, ex, hx, hp⟩ => by
    have e1 : (valV us k).isSome = (look kvs k).isSome := by
      cases z : look kvs k with
      | none => rw [(look_paired hp).2 z]; rfl
      | some R =>
        obtain ⟨v, h1, _⟩ := (look_paired hp).1 R z
        rw [h1]; rfl
    obtain ⟨b, eb, hb'⟩ := hk _ _ hy
    exact ⟨a, _, ex, .inr ⟨us, k, b, .inr ⟨o, g2.sub _ _ hx⟩, eb, g2.sub _ _ (g2.s0 _ _ hb'), rfl⟩, by rw [e1]; exact q _ H2 H2' (g1.trans g2) rfl⟩
theorem cd_lenD {kvs : List (Key × Den)} : CD (fun xs H Q => ∃ a kvs, xs = [V.ref a] ∧ Rd H a (.dK kvs) ∧ Q (.int kvs.length) H) [dkD kvs] (intD (kvs.length : Nat)) := fun H0 H xs s hf Q q => by
  cases hf with
  | cons r1 t1 =>
    cases t1
    obtain ⟨a, o, us, e, h, hp⟩ := r1
    subst e
    exact ⟨a, us, rfl, .inr ⟨o, s _ _ h⟩, q _ H0 H (.refl s .nil) (by rw [Paired.length hp]; rfl)⟩
/-- dict(d), locked -/
theorem ed_dictD {tA : TA} {kvs : List (Key × Den)} (h : EA Os tA Γ [dkD kvs]) : ED Os (tFrz (tCB (fun xs H Q => ∃ (a : Addr) (kvs : List (Key × V)), xs = [.ref a] ∧ Rd H a (.dK kvs) ∧ ∀ p, H p = none → Q (.ref p) (upd H p (.dK kvs))) tA)) Γ (dkD kvs) := fun σ H0 H e s w Q q =>
  h σ H0 H e s w _ fun vs H1 H1' g1 hf => by
    cases hf with
    | cons r1 t1 =>
      cases t1
      obtain ⟨a, o, us, e, h, hp⟩ := r1
      subst e
      refine ⟨a, us, rfl, .inr ⟨o, g1.sub _ _ h⟩, fun p hpn => ⟨p, _, rfl, upd_same, True.intro, fun od => ?_⟩⟩
      have e2 : upd (upd H1' p (.dK us)) p (.frz od (.dK us)) = upd H1' p (.frz od (.dK us)) := by
        funext b
        by_cases z : b = p
        · subst z; rw [upd_same, upd_same]
        · rw [upd_ne z, upd_ne z, upd_ne z]
      rw [e2]
      exact q _ _ _ (g1.trans (.new g1.sub g1.ow hpn)) ⟨p, od, us, rfl, upd_same, Paired.mono' (fun p' _ h => ⟨h.1, p'.2.mono (same_upd (g1.sub.free hpn)) h.2⟩) hp⟩
/-- {'a': x, 'b': y}, locked -/
theorem ed_disp2 {t1 u1 t2 u2 : TE} {k1 k2 : Key} {R1 R2 : Den} (h1 : ED Os t1 Γ (valD (kV k1))) (g1 : ED Os u1 Γ R1) (h2 : ED Os t2 Γ (valD (kV k2))) (g2 : ED Os u2 Γ R2) (ne : k1 ≠ k2) : ED Os (tFrz (tDisp [(t1, u1), (t2, u2)])) Γ (dkD [(k1, R1), (k2, R2)]) := fun σ H0 H e s w Q q => fun p hp => by
  have n0 : H0 p = none := s.free hp
  have nO : p ∉ ads Os := w.out hp
  have s1 : Same H0 (upd H p (.dK [])) := s.trans (same_upd hp)
  have w1 : Hold Os H0 (upd H p (.dK [])) := ⟨w.nd, fun q hq => by
    obtain ⟨n, o, eo, po⟩ := w.at_ q hq
    exact ⟨n, o, same_upd hp _ _ eo, po⟩⟩
  refine h1 σ H0 _ e s1 w1 _ fun x1 Ha Ha' ga hx1 => g1 σ Ha Ha' (e.mono ga.s0) ga.sub ga.ow _ fun y1 Hb Hb' gb hy1 => h2 σ Hb Hb' (e.mono (ga.s0.trans gb.s0)) gb.sub gb.ow _ fun x2 Hc Hc' gc hx2 => g2 σ Hc Hc' (e.mono ((ga.s0.trans gb.s0).trans gc.s0)) gc.sub gc.ow _ fun y2 Hd Hd' gd hy2 => ?_
  have gg := ((ga.trans gb).trans gc).trans gd
  have lp : Hd' p = some (.dK []) := gg.s1 _ _ nO upd_same
  have np : Hd p = none := gg.fr p _ nO upd_same n0
  refine ⟨lp, [(k1, y1), (k2, y2)], ?_, by show 2 ≤ 15; omega, p, _, rfl, upd_same, True.intro, fun od => ?_⟩
  · show [(x1, y1), (x2, y2)] = _
    rw [show x1 = kV k1 from hx1, show x2 = kV k2 from hx2] <;> rfl
  · have em : mergeK [] [(k1, y1), (k2, y2)] = [(k1, y1), (k2, y2)] := by
      show putK (putK [] k1 y1) k2 y2 = _
      have z1 : putK ([] : List (Key × V)) k1 y1 = [(k1, y1)] := by unfold putK; rfl
      rw [z1]
      unfold putK
      rw [if_neg (by simp [ne])] <;> rfl
    rw [em]
    have e2 : upd (upd Hd' p (.dK [(k1, y1), (k2, y2)])) p (.frz od (.dK [(k1, y1), (k2, y2)])) = upd Hd' p (.frz od (.dK [(k1, y1), (k2, y2)])) := by
      funext b
      by_cases z : b = p
      · subst z; rw [upd_same, upd_same]
      · rw [upd_ne z, upd_ne z, upd_ne z]
    rw [e2]
    refine q _ (upd Hd p (.frz od (.dK [(k1, y1), (k2, y2)]))) _ ⟨gg.s0.trans (same_upd np), fun b o hb eb => ?_, same_upd2 gg.sub, fun b o hb eb n => ?_, ⟨gg.ow.nd, fun q hq => ?_⟩, fun b hb => .inl hb⟩ ⟨p, od, _, rfl, upd_same, .cons ⟨rfl, ?_⟩ (.cons ⟨rfl, ?_⟩ .nil)⟩
    · have nb := ne_of_none eb hp
      rw [upd_ne nb]
      exact gg.s1 b o hb (by rw [upd_ne nb]; exact eb)
    · have nb := ne_of_none eb hp
      rw [upd_ne nb]
      exact gg.fr b o hb (by rw [upd_ne nb]; exact eb) n
    · obtain ⟨n, o, eo, po⟩ := gg.ow.at_ q hq
      have nq : q.1 ≠ p := fun z => nO (by rw [← z]; exact ads_mem hq)
      exact ⟨by rw [upd_ne nq]; exact n, o, by rw [upd_ne nq]; exact eo, q.2.mono (same_upd np) po⟩
    · exact R1.mono ((gc.s0.trans gd.s0).trans (same_upd np)) hy1
    · exact R2.mono (same_upd np) hy2
/-! ### sorted -/
theorem cd_sortedS {xs : List Str} (hl : xs.length < 64) : CD (rSortedS K) [lstD (xs.map fun x => strD x)] (lstD ((Srt.srt xs).map fun x => strD x)) := fun H0 H vs s hf Q q => by
  cases hf with
  | cons r1 t1 =>
    cases t1
    obtain ⟨a, us, e, h, hf⟩ := r1
    subst e
    rw [fits_map hf] at h
    refine ⟨a, xs, rfl, .of (s _ _ h), hl, fun ys p hp hs hn => ?_⟩
    rw [Srt.srt_eq hp hs]
    refine q _ _ _ (.new0 s hn) ⟨p, _, rfl, upd_same, ?_⟩
    have e : ((Srt.srt xs).map fun x => strD x) = ((Srt.srt xs).map V.str).map valD := by rw [List.map_map]; rfl
    rw [e]
    exact Fits.of_vals _
theorem cd_sortedD {kvs : List (Key × Den)} {ks : List Str} (hk : kvs.map (·.1) = ks.map Sum.inr) (hl : ks.length < 64) : CD (fun xs H Q => ∃ (a : Addr) (kvs : List (Key × V)) (ks : List Str), xs = [.ref a] ∧ Rd H a (.dK kvs) ∧ kvs.map (·.1) = ks.map Sum.inr ∧ ks.length < 64 ∧
    ∀ ys p, ys.Perm ks → sortedS ys = true → H p = none → Q (.ref p) (upd H p (.lst (ys.map V.str)))) [dkD kvs] (lstD ((Srt.srt ks).map fun x => strD x)) := fun H0 H vs s hf Q q => by
  cases hf with
  | cons r1 t1 =>
    cases t1
    obtain ⟨a, o, us, e, h, hp⟩ := r1
    subst e
    have e1 : us.map (·.1) = ks.map Sum.inr := by
      rw [← hk]
      clear hk h q
      induction hp with
      | nil => rfl
      | cons r t ih => rw [List.map_cons, List.map_cons, r.1, ih]
    refine ⟨a, us, ks, rfl, .inr ⟨o, s _ _ h⟩, e1, hl, fun ys p hp hs hn => ?_⟩
    rw [Srt.srt_eq hp hs]
    refine q _ _ _ (.new0 s hn) ⟨p, _, rfl, upd_same, ?_⟩
    have e : ((Srt.srt ks).map fun x => strD x) = ((Srt.srt ks).map V.str).map valD := by rw [List.map_map]; rfl
    rw [e]
    exact Fits.of_vals _
/-! ### slices -/
theorem eo_no : EO Os tNoPart Γ none := fun σ H0 H e s w Q q => q H0 H (.refl s w)
theorem eo_some {i : Int} (h : ED Os te Γ (intD i)) : EO Os (tPart te) Γ (some i) := fun σ H0 H e s w Q q => h σ H0 H e s w _ fun v H1 H1' g1 hv => ⟨i, hv, q H1 H1' g1⟩
theorem fits_take {H : Hp} {n : Nat} : ∀ {Rs : List Den} {vs : List V}, Fits H Rs vs → Fits H (Rs.take n) (vs.take n) := fun {Rs vs} h => by
  induction n generalizing Rs vs with
  | zero => rw [List.take_zero, List.take_zero]; exact .nil
  | succ n ih => cases h with
    | nil => exact .nil
    | cons r t => exact .cons r (ih t)
/-- xs[:n] -/
theorem ed_slL {tl th : TO} {Rs : List Den} {n : Nat} (h : ED Os te Γ (lstD Rs)) (hl : EO Os tl Γ none) (hh : EO Os th Γ (some (n : Int))) : ED Os (L2.tSl (rSlL K) te tl th) Γ (lstD (Rs.take n)) := fun σ H0 H e s w Q q =>
  h σ H0 H e s w _ fun x H1 H1' g1 ⟨a, vs, ex, hx, hf⟩ => hl σ H1 H1' (e.mono g1.s0) g1.sub g1.ow _ fun H2 H2' g2 => hh σ H2 H2' (e.mono (g1.s0.trans g2.s0)) g2.sub g2.ow _ fun H3 H3' g3 => by
    refine ⟨a, vs, ex, .of (g3.sub _ _ (g3.s0 _ _ (g2.s0 _ _ hx))), fun p hp => ?_⟩
    have e1 : cutV vs none (some (n : Int)) = vs.take n := by
      unfold cutV
      rw [show HT.sIx vs.length 0 none = 0 from rfl, HT.sIx_nat, List.drop_zero, Nat.sub_zero]
      by_cases q : n ≤ vs.length
      · rw [Nat.min_eq_left q]
      · rw [Nat.min_eq_right (by omega), List.take_length, List.take_of_length_le (by omega)]
    rw [e1]
    exact q _ _ _ (((g1.trans g2).trans g3).trans (.new g3.sub g3.ow hp)) ⟨p, _, rfl, upd_same, (fits_take hf).mono ((g2.s0.trans g3.s0).trans (same_upd (g3.sub.free hp)))⟩
theorem ed_slS {tl th : TO} {z : Str} {n : Nat} (h : ED Os te Γ (strD z)) (hl : EO Os tl Γ none) (hh : EO Os th Γ (some (n : Int))) (hz : z.length ≤ sizeLine) : ED Os (L2.tSl rSlS te tl th) Γ (strD ⟨(z.cps.toList.take n).toArray⟩) := fun σ H0 H e s w Q q =>
  h σ H0 H e s w _ fun x H1 H1' g1 hx => hl σ H1 H1' (e.mono g1.s0) g1.sub g1.ow _ fun H2 H2' g2 => hh σ H2 H2' (e.mono (g1.s0.trans g2.s0)) g2.sub g2.ow _ fun H3 H3' g3 => by
    refine ⟨z, hx, hz, ?_⟩
    have e1 : cutS z none (some (n : Int)) = ⟨(z.cps.toList.take n).toArray⟩ := by
      have hl : z.length = z.cps.toList.length := by show z.cps.size = _; rw [Array.length_toList]
      unfold cutS
      rw [show HT.sIx z.length 0 none = 0 from rfl, HT.sIx_nat, List.drop_zero, Nat.sub_zero, hl]
      by_cases q : n ≤ z.cps.toList.length
      · rw [Nat.min_eq_left q]
      · rw [Nat.min_eq_right (by omega), List.take_length, List.take_of_length_le (by omega)]
    rw [e1]
    exact q _ H3 H3' ((g1.trans g2).trans g3) rfl
/-! ### class constants, slotted instances -/
theorem ed_cval {C : Addr} {mc : Value} {f : Str} {v : V} (h : ED Os te Γ (valD (.ref C))) (r : ClX.CRead K C mc) (c : ∃ u, ClX.CVal K C mc f v u) : ED Os (ClX.tCVal K te f) Γ (valD v) := fun σ H0 H e s w Q q =>
  h σ H0 H e s w _ fun x H1 H1' g1 hx => by
    obtain ⟨u, hc⟩ := c
    exact ⟨C, mc, v, u, hx, r, hc, q v H1 H1' g1 rfl⟩
def optV : Option Int → V
  | none => .non
  | some i => .int i
theorem optD_eq (o : Option Int) : optD o = valD (optV o) := by cases o <;> rfl
/-- an instance of the class at C, whose slots 0 and 1 hold an int, an int or None -/
def slD (C : Addr) (m : Int × Option Int) : Den := ⟨fun H x => ∃ a dx vs, x = .ref a ∧ H a = some (SlX.SlO a C dx vs) ∧ H dx = some (.xd []) ∧ vs[0]? = some (some (.int m.1)) ∧ vs[1]? = some (some (optV m.2)),
  fun s ⟨a, dx, vs, h1, h2, h3, h4, h5⟩ => ⟨a, dx, vs, h1, s _ _ h2, s _ _ h3, h4, h5⟩⟩
theorem ed_slot0 {C p : Addr} {m : Int × Option Int} {f : Str} (h : ED Os te Γ (slD C m)) (c : SlX.SCls K C) (t : SlX.Slot1 K C f p 0) : ED Os (SlX.tSl K te f) Γ (intD m.1) := fun σ H0 H e s w Q q =>
  h σ H0 H e s w _ fun x H1 H1' g1 ⟨a, dx, vs, ex, h2, h3, h4, h5⟩ => ⟨a, C, dx, p, vs, 0, _, ex, .inr ⟨g1.sub _ _ h2, g1.sub _ _ h3⟩, c, t, h4, q _ H1 H1' g1 rfl⟩
theorem ed_slot1 {C p : Addr} {m : Int × Option Int} {f : Str} (h : ED Os te Γ (slD C m)) (c : SlX.SCls K C) (t : SlX.Slot1 K C f p 1) : ED Os (SlX.tSl K te f) Γ (optD m.2) := fun σ H0 H e s w Q q =>
  h σ H0 H e s w _ fun x H1 H1' g1 ⟨a, dx, vs, ex, h2, h3, h4, h5⟩ => ⟨a, C, dx, p, vs, 1, _, ex, .inr ⟨g1.sub _ _ h2, g1.sub _ _ h3⟩, c, t, h5, q _ H1 H1' g1 (by rw [optD_eq]; rfl)⟩
theorem ed_propSl {C : Addr} {m : Int × Option Int} {α : Type} {Pr : α → Prop} {args : α → List Den} {res : α → Den} (a : α) (h : ED Os te Γ (slD C m)) (hp : Pr a) (e : [slD C m] = args a := by rfl) : ED Os (SlX.tPropSl C (fun vs H Q E => DefSp (pu Pr args res) (vs ++ []) H Q E) E0 te) Γ (res a) := fun σ H0 H e' s w Q q =>
  h σ H0 H e' s w _ fun x H1 H1' g1 hx => by
    obtain ⟨b, dx, vs, ex, h2, h3, h4, h5⟩ := id hx
    subst ex
    exact ⟨b, dx, vs, rfl, .inr ⟨g1.sub _ _ h2, g1.sub _ _ h3⟩, def_sp (Os := []) (Os' := []) g1.sub .nil (.cons hx .nil) ⟨a, hp, e, rfl, rfl, rfl⟩ fun v H2 H2' g2 h2 => q v H2 H2' (g1.trans (g2.up g1.ow)) h2⟩
theorem cd_isiSl {C : Addr} {m : Int × Option Int} {b : Bool} (c : SlX.SCls K C) (i : SlX.SIsi K C) (k : PySem.W.kitOne K (.ref C) (.ref C) = some b) : CD (SlX.rIsiSl K (.ref C)) [slD C m, valD (.ref C)] (blD b) := fun H0 H xs s hf Q q => by
  cases hf with
  | cons r1 t1 => cases t1 with
    | cons r2 t2 =>
      cases t2
      obtain ⟨a, dx, vs, ex, h2, h3, h4, h5⟩ := r1
      subst ex
      exact ⟨a, C, dx, vs, .ref C, b, by rw [show _ = V.ref C from r2], rfl, fun w h => h, .inr ⟨s _ _ h2, s _ _ h3⟩, c, i, k, q _ H0 H (.refl s .nil) rfl⟩
end
end Dn
/-! DF -/
/-! A slotted instance made. -/
namespace Dn
open PySem PySem.Spec PyProof.Rows L2
theorem rm1 {k : Nat} {A : Around} (r : Room k A) : A.units + 1 < cLine := by have := r.un; omega
theorem rm0 {k : Nat} {A : Around} (r : Room k A) : A.units < cLine := by have := r.un; omega
theorem rm64 {k : Nat} {A : Around} (r : Room k A) : A.units + 64 < cLine := by have := r.un; omega
theorem rm65 {k : Nat} {A : Around} (r : Room k A) : A.units + 65 < cLine := by have := r.un; omega
section
variable {K : PySem.W.Frag} {Os : Own} {Γ : Ctx} {ta tb te : TE} {A B R : Den} {N : Own → Ctx → Prop} {O : Own → Den → Prop}
theorem ed_tt {b : Bool} (h : ED Os te Γ (blD b)) (e : b = true) : ED Os te Γ (blD true) := e ▸ h
theorem ed_ff {b : Bool} (h : ED Os te Γ (blD b)) (e : b = false) : ED Os te Γ (blD false) := e ▸ h
def slI (a C dx : Addr) (f : Nat → Option V) : Ow := ⟨fun _ o => ∃ vs, o = SlX.SlO a C dx vs ∧ ∀ i v, f i = some v → vs[i]? = some (some v), fun _ h => h⟩
theorem slot_grow {x dx : Addr} {A0 D0 A1 D1 : Ow} {H0 H : Hp} {o o' : HO} (s : Same H0 H) (w : Hold ((x, A0) :: (dx, D0) :: Os) H0 H) (p1 : A1.p H0 o) (p2 : D1.p H0 o') : Grow ((x, A0) :: (dx, D0) :: Os) H0 H ((x, A1) :: (dx, D1) :: Os) H0 (upd (upd H dx o') x o) := by
  have nd : (x :: dx :: ads Os).Nodup := w.nd
  obtain ⟨n1, n2⟩ := List.nodup_cons.mp nd
  obtain ⟨n3, n4⟩ := List.nodup_cons.mp n2
  have nx := (w.at_ (x, A0) List.mem_cons_self).1
  have ndx := (w.at_ (dx, D0) (List.mem_cons_of_mem _ List.mem_cons_self)).1
  have xd : dx ≠ x := fun z => n1 (by rw [← z]; exact List.mem_cons_self)
  refine ⟨Same.refl _, fun b u hb eb => ?_, fun b u hb => ?_, fun b u _ _ n => n, ⟨nd, fun q hq => ?_⟩, fun b hb => .inl hb⟩
  · rw [upd_ne fun z => hb (by rw [z]; exact List.mem_cons_self), upd_ne fun z => hb (by rw [z]; exact List.mem_cons_of_mem _ List.mem_cons_self)]; exact eb
  · rw [upd_ne (ne_of_none hb nx), upd_ne (ne_of_none hb ndx)]; exact s b u hb
  · rcases List.mem_cons.mp hq with z | z
    · subst z; exact ⟨nx, o, upd_same, p1⟩
    · rcases List.mem_cons.mp z with z | z
      · subst z; exact ⟨ndx, o', by rw [upd_ne xd, upd_same], p2⟩
      · obtain ⟨n, u, eu, pu⟩ := w.at_ q (List.mem_cons_of_mem _ (List.mem_cons_of_mem _ z))
        have e1 : q.1 ≠ x := fun z' => n1 (by rw [← z']; exact List.mem_cons_of_mem _ (ads_mem z))
        have e2 : q.1 ≠ dx := fun z' => n3 (by rw [← z']; exact ads_mem z)
        exact ⟨n, u, by rw [upd_ne e1, upd_ne e2]; exact eu, pu⟩
theorem put_at {f : Nat → Option V} {vs : List (Option V)} {i : Nat} {y : V} (h : ∀ j v, f j = some v → vs[j]? = some (some v)) : ∀ j v, (if j = i then some y else f j) = some v → (SlX.putS i y vs)[j]? = some (some v) := fun j v e => by
  by_cases z : j = i
  · subst z
    rw [if_pos rfl] at e
    cases e
    exact SlX.putS_get _ _ _
  · rw [if_neg z] at e
    exact (SlX.putS_ne z).mpr (h j v e)
/-- the first slot stored -/
theorem sb_sl0 {x C dx p : Addr} {f : Str} {i : Nat} {y : V} (hv : ED ((x, eqO (.ins C dx [])) :: (dx, eqO (.own x)) :: Os) tb Γ (valD y)) (ho : ED ((x, eqO (.ins C dx [])) :: (dx, eqO (.own x)) :: Os) ta Γ (valD (.ref x))) (c : SlX.SCls K C) (t : SlX.Slot1 K C f p i)
    (hn : N ((x, slI x C dx (fun j => if j = i then some y else none)) :: (dx, eqO (.xd [])) :: Os) Γ := by exact ⟨rfl, rfl⟩) : SB ((x, eqO (.ins C dx [])) :: (dx, eqO (.own x)) :: Os) (SlX.sSl K ta tb f) Γ N O := fun σ H0 H D e s w q _ =>
  hv σ H0 H e s w _ fun y' H1 H1' g1 hy => ho σ H1 H1' (e.mono g1.s0) g1.sub g1.ow _ fun x' H2 H2' g2 hx => by
    obtain ⟨_, o, eo, po⟩ := g2.ow.at_ _ List.mem_cons_self
    have po' : o = .ins C dx [] := po
    subst po'
    have ey : y' = y := hy
    subst ey
    exact ⟨x, C, dx, p, [], i, hx, .inl ⟨eo, rfl⟩, c, t, q _ _ hn σ H2 _ ((g1.trans g2).trans (slot_grow g2.sub g2.ow ⟨_, rfl, put_at fun j v z => nomatch z⟩ rfl)) ((e.mono g1.s0).mono g2.s0)⟩
theorem sb_sl1 {x C dx p : Addr} {f : Str} {i : Nat} {y : V} {fz : Nat → Option V} (hv : ED ((x, slI x C dx fz) :: (dx, eqO (.xd [])) :: Os) tb Γ (valD y)) (ho : ED ((x, slI x C dx fz) :: (dx, eqO (.xd [])) :: Os) ta Γ (valD (.ref x))) (c : SlX.SCls K C) (t : SlX.Slot1 K C f p i)
    (hn : N ((x, slI x C dx (fun j => if j = i then some y else fz j)) :: (dx, eqO (.xd [])) :: Os) Γ := by exact ⟨rfl, rfl⟩) : SB ((x, slI x C dx fz) :: (dx, eqO (.xd [])) :: Os) (SlX.sSl K ta tb f) Γ N O := fun σ H0 H D e s w q _ =>
  hv σ H0 H e s w _ fun y' H1 H1' g1 hy => ho σ H1 H1' (e.mono g1.s0) g1.sub g1.ow _ fun x' H2 H2' g2 hx => by
    obtain ⟨_, o, eo, vs, po, pv⟩ := g2.ow.at_ _ List.mem_cons_self
    subst po
    obtain ⟨_, o2, eo2, po2⟩ := g2.ow.at_ _ (List.mem_cons_of_mem _ List.mem_cons_self)
    have po2' : o2 = .xd [] := po2
    subst po2'
    have ey : y' = y := hy
    subst ey
    exact ⟨x, C, dx, p, vs, i, hx, .inr ⟨eo, eo2⟩, c, t, q _ _ hn σ H2 _ ((g1.trans g2).trans (slot_grow g2.sub g2.ow ⟨_, rfl, put_at pv⟩ rfl)) ((e.mono g1.s0).mono g2.s0)⟩
theorem sb_sl2 {x C dx p : Addr} {f : Str} {i : Nat} {fz : Nat → Option V} (hv : ED ((x, slI x C dx fz) :: (dx, eqO (.xd [])) :: Os) tb Γ B) (ho : ED ((x, slI x C dx fz) :: (dx, eqO (.xd [])) :: Os) ta Γ (valD (.ref x))) (c : SlX.SCls K C) (t : SlX.Slot1 K C f p i) (hf : fz i = none)
    (hn : N ((x, slI x C dx fz) :: (dx, eqO (.xd [])) :: Os) Γ) : SB ((x, slI x C dx fz) :: (dx, eqO (.xd [])) :: Os) (SlX.sSl K ta tb f) Γ N O := fun σ H0 H D e s w q _ =>
  hv σ H0 H e s w _ fun y' H1 H1' g1 hy => ho σ H1 H1' (e.mono g1.s0) g1.sub g1.ow _ fun x' H2 H2' g2 hx => by
    obtain ⟨_, o, eo, vs, po, pv⟩ := g2.ow.at_ _ List.mem_cons_self
    subst po
    obtain ⟨_, o2, eo2, po2⟩ := g2.ow.at_ _ (List.mem_cons_of_mem _ List.mem_cons_self)
    have po2' : o2 = .xd [] := po2
    subst po2'
    refine ⟨x, C, dx, p, vs, i, hx, .inr ⟨eo, eo2⟩, c, t, q _ _ hn σ H2 _ ((g1.trans g2).trans (slot_grow g2.sub g2.ow ⟨_, rfl, fun j v z => put_at (y := y') pv j v ?_⟩ rfl)) ((e.mono g1.s0).mono g2.s0)⟩
    have ne : j ≠ i := fun e => by rw [e, hf] at z; cases z
    rw [if_neg ne]
    exact z
/-- C(..), C slotted -/
theorem ed_makeSl {C : Addr} {m : Int × Option Int} {rel : List Den → Own → Own → Den → Prop} {tA : TA} {Rs Ds : List Den} {ds : List V} {f : Nat → Option V} (ha : EA Os tA Γ Rs) (hd : ∀ H, Fits H Ds ds) (f0 : f 0 = some (.int m.1)) (f1 : f 1 = some (optV m.2))
    (hr : ∀ x dx, rel (valD (.ref x) :: (Rs ++ Ds)) [(x, eqO (.ins C dx [])), (dx, eqO (.own x))] [(x, slI x C dx f), (dx, eqO (.xd []))] nonD) : ED Os (tMake C (DefSp rel) ds E0 tA) Γ (slD C m) := fun σ H0 H e s w Q q =>
  ha σ H0 H e s w _ fun vs H1 H1' g1 h1 x dx nx ndx ne => by
    have n0x := g1.sub.free nx
    have n0d := g1.sub.free ndx
    have nd2 : (ads [(x, eqO (.ins C dx [])), (dx, eqO (.own x))]).Nodup := by
      show [x, dx].Nodup
      exact List.nodup_cons.mpr ⟨fun z => ne (List.mem_singleton.mp z).symm, List.nodup_cons.mpr ⟨(fun z => nomatch z), List.nodup_nil⟩⟩
    have sub2 : Same H1 (upd (upd H1' dx (.own x)) x (.ins C dx [])) := fun b o hb => by
      rw [upd_ne (ne_of_none hb n0x), upd_ne (ne_of_none hb n0d)]
      exact g1.sub b o hb
    refine def_sp sub2 ⟨nd2, fun q hq => ?_⟩ (.cons rfl (fits_app h1 (hd _))) (hr x dx) fun v H2 H2' g2 hv => ⟨hv, ?_⟩
    · rcases List.mem_cons.mp hq with z | z
      · subst z; exact ⟨n0x, _, upd_same, rfl⟩
      · rw [List.mem_singleton.mp z]; exact ⟨n0d, _, by show upd (upd H1' dx (.own x)) x (.ins C dx []) dx = _; rw [upd_ne ne, upd_same], rfl⟩
    · obtain ⟨n2x, o, ex, us, eo, pu⟩ := g2.ow.at_ _ List.mem_cons_self
      subst eo
      obtain ⟨n2d, o2, ed, po2⟩ := g2.ow.at_ _ (List.mem_cons_of_mem _ List.mem_cons_self)
      have po2' : o2 = .xd [] := po2
      subst po2'
      have xo : ∀ b, b ≠ x → b ≠ dx → b ∉ ads [(x, eqO (.ins C dx [])), (dx, eqO (.own x))] := fun b n n' z => by
        rcases List.mem_cons.mp z with z | z
        · exact n z
        · exact n' (List.mem_singleton.mp z)
      refine q (.ref x) (upd (upd H2 dx (.xd [])) x (SlX.SlO x C dx us)) H2' (g1.trans (Grow.up ⟨fun b o hb => ?_, fun b o _ hb => ?_, fun b o hb => ?_, fun b o _ hb n => ?_, .nil, fun _ z => nomatch z⟩ g1.ow)) ⟨x, dx, us, rfl, upd_same, by rw [upd_ne ne, upd_same], pu 0 _ f0, pu 1 _ f1⟩
      · rw [upd_ne (ne_of_none hb n0x), upd_ne (ne_of_none hb n0d)]; exact g2.s0 b o hb
      · have hb1 := ne_of_none hb nx
        have hb2 := ne_of_none hb ndx
        exact g2.s1 b o (xo b hb1 hb2) (by rw [upd_ne hb1, upd_ne hb2]; exact hb)
      · by_cases z : b = x
        · subst z; rw [upd_same] at hb; cases hb; exact ex
        · rw [upd_ne z] at hb
          by_cases z' : b = dx
          · subst z'; rw [upd_same] at hb; cases hb; exact ed
          · rw [upd_ne z'] at hb; exact g2.sub b o hb
      · have hb1 := ne_of_none hb nx
        have hb2 := ne_of_none hb ndx
        rw [upd_ne hb1, upd_ne hb2]
        exact g2.fr b o (xo b hb1 hb2) (by rw [upd_ne hb1, upd_ne hb2]; exact hb) n
end
end Dn
/-! VA -/
namespace Pr
open PySem PySem.Spec PyProof.Rows L2 Dn Rb
def letters : List Nat := ("abcdefghijklmnopqrstuvwxyz" : Str).cps.toList
def nameB (z : Str) : Bool := decide (1 ≤ z.length ∧ z.length ≤ 8) && z.cps.toList.all fun c => decide (c ∈ letters)
def endS : Bool → Str
  | false => "near"
  | true => "far"
section
variable {P : Program} {w : World} {K : PySem.W.Frag} {mg : Str → Option Value} {base : Heap}
abbrev r_is_integer (K : PySem.W.Frag) : List Den → Own → Own → Den → Prop := pu (fun _ : Int => True) (fun i => [intD i]) (fun _ => blD true)
theorem ok_is_integer (T : Txt K mg) : FnOk P w K mg base CX0 1 (a_is_integer K) (fdOf K (a_is_integer K)) ["value"] (DefSp (r_is_integer K)) := by
  refine ow_ok (F_is_integer T) sc_is_integer (fun _ => rfl) fun cdv A outer s H E hr => ⟨_, PSs.nox (pss_one (ps_ret (pe_and (pe_callB (call_isiK' (K := K)) (by rfl) (z_isinstance T) boot_isinstance (pa_cons (pv 0) (pa_cons (pe_bltn (by rfl) (z_int T) boot_int (rty _)) pa_nil))) (pe_one (pe_not (pe_callB (call_isiK' (K := K)) (by rfl) (z_isinstance T) boot_isinstance (pa_cons (pv 0) (pa_cons (pe_bltn (by rfl) (z_bool T) boot_bool (rty _)) pa_nil)))))))), ?_⟩
  intro i _
  exact sb_ret (ed_andV (a := true) (b := true) (ed_cb (ea_cons (ed_var rfl) (ea_cons ed_c ea_nil)) (cd_isiB (b := true) ty_int)) fun _ => ed_notV (a := false) (ed_cb (ea_cons (ed_var rfl) (ea_cons ed_c ea_nil)) (cd_isiB (b := false) ty_int)))
abbrev r_is_count (K : PySem.W.Frag) : List Den → Own → Own → Den → Prop := pu (fun i : Int => True) (fun i => [intD i]) (fun i => blD (decide (0 ≤ i)))
theorem ok_is_count (T : Txt K mg) : FnOk P w K mg base CX0 2 (a_is_count K) (fdOf K (a_is_count K)) ["value"] (DefSp (r_is_count K)) := by
  refine ow_ok (F_is_count T) sc_is_count (fun _ => rfl) fun cdv A outer s H E hr => ⟨_, PSs.nox (pss_one (ps_ret (pe_and (pe_call (ok_is_integer T) (hr.mono (by decide)) rfl (g_is_integer T) (F_is_integer T).kp (b_is_integer T) .nil pass0 (pa_cons (pv 0) pa_nil)) (pe_one (pe_cmpR op_ge (pv 0) pe_int (nomark _)))))), ?_⟩
  intro i _
  exact sb_ret (ed_andV (a := true) (b := decide (0 ≤ i)) (ed_callP (α := Int) i (ea_cons (ed_var rfl) ea_nil) trivial) fun _ => ed_op (ed_var rfl) ed_c od_I0)
/-- a text, or what is none -/
def NoStr (K : PySem.W.Frag) (R : Den) : Prop := ∃ t, Ty K R (.type t) ∧ kitB t "str" = some false
def argN : Str ⊕ Den → Den
  | .inl z => strD z
  | .inr R => R
def resN : Str ⊕ Den → Bool
  | .inl z => nameB z
  | .inr _ => false
def preN (K : PySem.W.Frag) : Str ⊕ Den → Prop
  | .inl z => z.length ≤ 100
  | .inr R => NoStr K R
abbrev r_is_name (K : PySem.W.Frag) : List Den → Own → Own → Den → Prop := pu (preN K) (fun z => [argN z]) (fun z => blD (resN z))
theorem ok_is_name (T : Txt K mg) : FnOk P w K mg base CX0 1 (a_is_name K) (fdOf K (a_is_name K)) ["value"] (DefSp (r_is_name K)) := by
  refine ow_ok (F_is_name T) sc_is_name (fun _ => rfl) fun cdv A outer s H E hr => ⟨_, PSs.nox (pss_cons (ps_if (PW.pt (pw_or (pt_not (pt_val (pe_callB (call_isiK' (K := K)) (by rfl) (z_isinstance T) boot_isinstance (pa_cons (pv 0) (pa_cons (pe_bltn (by rfl) (z_str T) boot_str (rty _)) pa_nil))))) (pw_or1 (pt_not (pt_chain op_le op_le pe_int (pe_callB (call_lenK (K := K)) (by rfl) (z_len T) boot_len (pa_cons (pv 0) pa_nil)) (pe_glob rfl (gt_MOST_LETTERS T) (rx_MOST_LETTERS T))))))) (pss_one (ps_ret pe_bl)) pss_nil)
  (pss_one (ps_ret (pe_callB (cr_allK (K := K) rfl) (by rfl) (z_all T) boot_all (pa_cons (pe_lc (own := [("letter", 1)]) (by rfl) sc_is_name.nd (pi_str (pv 0)) (blkOk_by (N := n_is_name) (sc := defScope s_is_name) (by decide +kernel)) (fun _ _ _ _ _ => (pg_name (i := 1) sc_is_name.nd rfl (Or.inl rfl))) (fun _ _ _ _ _ => pts_nil) (fun _ _ _ _ _ => (pe_cmpR op_in_sign (pv 1) (pe_glob rfl (gt_LETTERS T) (rx_LETTERS T)) (by rfl)))) pa_nil))))), ?_⟩
  intro z hz
  cases z with
  | inr R =>
    obtain ⟨t, h1, h2⟩ := hz
    exact sb_ifs (b := true) (et_or (a := true) (b := false) (et_not (a := false) (et_B (ed_cb (ea_cons (ed_var rfl) (ea_cons ed_c ea_nil)) (cd_isi (b := false) h1 (.ty _) (kit_ty h2))))) fun z => nomatch z) (fun _ => sb_stop (sb_ret ed_c)) fun z => nomatch z
  | inl z =>
    have hl : z.length ≤ sizeLine := Nat.le_trans hz (by decide)
    have c1 : ∀ Γ : Dn.Ctx, Γ[0]? = some (some (strD z)) → ∀ Os, ED Os (tChain (rI0 fun i j => .bl (decide (i ≤ j))) (rI0 fun i j => .bl (decide (i ≤ j))) (tC (.int 1)) (tCB (rLen K) (tCons (tVar 0) tNil)) (tC (.int 8))) Γ (blD (decide (1 ≤ z.length) && decide (z.length ≤ 8))) := fun Γ h Os => by
      have e := ed_chain (Os := Os) (a := decide ((1 : Int) ≤ (z.length : Nat))) (b := decide (((z.length : Nat) : Int) ≤ 8)) (ed_c (Γ := Γ) (v := .int 1)) (ed_cb (ea_cons (ed_var h) ea_nil) (cd_lenS (K := K) hl)) (fun _ => ed_c (v := .int 8)) od_le od_le
      refine e.cast ?_
      have e1 : decide ((1 : Int) ≤ (z.length : Nat)) = decide (1 ≤ z.length) := decide_eq_decide.mpr (by omega)
      have e2 : decide (((z.length : Nat) : Int) ≤ 8) = decide (z.length ≤ 8) := decide_eq_decide.mpr (by omega)
      rw [e1, e2]
    cases hc : (decide (1 ≤ z.length) && decide (z.length ≤ 8)) with
    | false =>
      have hn : nameB z = false := by unfold nameB; rw [Bool.decide_and, hc]; rfl
      refine sb_ifs (b := true) (et_or (a := false) (b := true) (et_not (a := true) (et_B (ed_cb (ea_cons (ed_var rfl) (ea_cons ed_c ea_nil)) (cd_isiB (b := true) ty_str)))) fun _ => et_not (a := false) (et_test (hc ▸ c1 _ rfl _))) (fun _ => sb_stop (sb_ret ed_c ?_)) fun z => nomatch z
      exact ⟨rfl, by show Sub (blD false) (blD (nameB z)); rw [hn]; exact .refl⟩
    | true =>
      have hn : nameB z = z.cps.toList.all fun c => decide (c ∈ letters) := by unfold nameB; rw [Bool.decide_and, hc]; rfl
      refine sb_ifs (b := false) (et_or (a := false) (b := false) (et_not (a := true) (et_B (ed_cb (ea_cons (ed_var rfl) (ea_cons ed_c ea_nil)) (cd_isiB (b := true) ty_str)))) fun _ => et_not (a := true) (et_test (hc ▸ c1 _ rfl _))) (fun z => nomatch z) fun _ => sb_skip (sb_ret (R := blD (z.cps.toList.all fun c => decide (c ∈ letters))) ?_ ?_)
      · exact ed_cb (ea_cons (ed_lc0 (ei_strC (ed_var rfl)) (fun c _ => gd_name) (fun c _ => ed_op (ed_var rfl) ed_c od_inSign) (by decide) (by rw [Array.length_toList]; exact Nat.le_trans hz (by decide))) ea_nil) cd_allM
      · exact ⟨rfl, by show Sub _ (blD (nameB z)); rw [hn]; exact .refl⟩
abbrev r_is_end (K : PySem.W.Frag) : List Den → Own → Own → Den → Prop := pu (fun _ : Str => True) (fun z => [strD z]) (fun z => blD (decide (z ∈ [endS false, endS true])))
theorem ok_is_end (T : Txt K mg) : FnOk P w K mg base CX0 1 (a_is_end K) (fdOf K (a_is_end K)) ["value"] (DefSp (r_is_end K)) := by
  refine ow_ok (F_is_end T) sc_is_end (fun _ => rfl) fun cdv A outer s H E hr => ⟨_, PSs.nox (pss_one (ps_ret (pe_and (pe_callB (call_isiK' (K := K)) (by rfl) (z_isinstance T) boot_isinstance (pa_cons (pv 0) (pa_cons (pe_bltn (by rfl) (z_str T) boot_str (rty _)) pa_nil))) (pe_one (pe_cmpR (op_in_seqK (K := K)) (pv 0) (pe_tup (pa_cons (pe_glob rfl (gt_NEAR_values T) (rx_NEAR_values T)) (pa_cons (pe_glob rfl (gt_FAR T) (rx_FAR T)) pa_nil))) (by rfl)))))), ?_⟩
  intro z _
  exact sb_ret (ed_andV (a := true) (ed_cb (ea_cons (ed_var rfl) (ea_cons ed_c ea_nil)) (cd_isiB (b := true) ty_str)) fun _ => ed_op (ed_var rfl) (ed_tup (ea_cons ed_c (ea_cons ed_c ea_nil))) (od_inT (xs := [endS false, endS true])))
theorem end_in (e : Bool) : decide (endS e ∈ [endS false, endS true]) = true := by cases e <;> rfl
theorem end_eq (e : Bool) : decide (endS e = "near") = !e := by cases e <;> rfl
abbrev r_other_end (K : PySem.W.Frag) : List Den → Own → Own → Den → Prop := pu (fun _ : Bool => True) (fun e => [strD (endS e)]) (fun e => strD (endS !e))
theorem ok_other_end (T : Txt K mg) : FnOk P w K mg base CX0 2 (a_other_end K) (fdOf K (a_other_end K)) ["end"] (DefSp (r_other_end K)) := by
  refine ow_ok (F_other_end T) sc_other_end (fun _ => rfl) fun cdv A outer s H E hr => ⟨_, PSs.nox (pss_cons (ps_if (pt_not (pt_val (pe_call (ok_is_end T) (hr.mono (by decide)) rfl (g_is_end T) (F_is_end T).kp (b_is_end T) .nil pass0 (pa_cons (pv 0) pa_nil)))) (pss_one ps_never) pss_nil)
  (pss_one (ps_ret (pe_ifExp (pt_cmpR op_eq (pv 0) (pe_glob rfl (gt_NEAR_values T) (rx_NEAR_values T)) (nomark _)) (pe_glob rfl (gt_FAR T) (rx_FAR T)) (pe_glob rfl (gt_NEAR_values T) (rx_NEAR_values T)))))), ?_⟩
  intro e _
  refine sb_ifs (b := false) (et_not (a := true) (et_B (ed_tt (ed_callP (endS e) (ea_cons (ed_var rfl) ea_nil) trivial) (end_in e)))) (fun z => nomatch z) fun _ => sb_skip ?_
  refine sb_ret (ed_if (b := !e) ((et_test (ed_op (ed_var rfl) ed_c od_eqS)).cast (end_eq e)) (fun h => ?_) fun h => ?_)
  · cases e with
    | false => exact ed_c
    | true => cases h
  · cases e with
    | false => cases h
    | true => exact ed_c
abbrev r_want_count (K : PySem.W.Frag) : List Den → Own → Own → Den → Prop := pu (fun i : Int => 0 ≤ i) (fun i => [intD i]) (fun _ => nonD)
theorem ok_want_count (T : Txt K mg) : FnOk P w K mg base CX0 3 (a_want_count K) (fdOf K (a_want_count K)) ["value"] (DefSp (r_want_count K)) := by
  refine ow_ok (F_want_count T) sc_want_count (fun _ => rfl) fun cdv A outer s H E hr => ⟨_, PSs.nox (pss_one (ps_if (pt_not (pt_val (pe_call (ok_is_count T) (hr.mono (by decide)) rfl (g_is_count T) (F_is_count T).kp (b_is_count T) .nil pass0 (pa_cons (pv 0) pa_nil)))) (pss_one ps_never) pss_nil)), ?_⟩
  intro i hi
  exact sb_if (b := false) (et_not (a := true) (et_B (ed_tt (ed_callP (α := Int) i (ea_cons (ed_var rfl) ea_nil) trivial) (decide_eq_true hi)))) (fun z => nomatch z) fun _ => sb_next
abbrev Mny := Int × Option Int
def okM (m : Mny) : Prop := 0 ≤ m.1 ∧ ∀ k, m.2 = some k → 0 ≤ k ∧ m.1 ≤ k
abbrev manyD (K : PySem.W.Frag) (m : Mny) : Den := slD (C_Many K) m
def slF (m : Mny) : Nat → Option V := fun j => if j = 1 then some (optV m.2) else if j = 0 then some (.int m.1) else none
abbrev r_Many_init (K : PySem.W.Frag) : List Den → Own → Own → Den → Prop := ow (fun p : Addr × Addr × Mny => okM p.2.2) (fun p => [valD (.ref p.1), intD p.2.2.1, optD p.2.2.2]) (fun p => [(p.1, eqO (.ins (C_Many K) p.2.1 [])), (p.2.1, eqO (.own p.1))]) (fun p => [(p.1, slI p.1 (C_Many K) p.2.1 (slF p.2.2)), (p.2.1, eqO (.xd []))]) (fun _ => nonD)
theorem ok_Many_init (T : Txt K mg) : FnOk P w K mg base CX0 4 (a_Many_init K) (fdOf K (a_Many_init K)) ["self", "least", "most"] (DefSp (r_Many_init K)) := by
  refine ow_ok (F_Many_init T) sc_Many_init (fun _ => rfl) fun cdv A outer s H E hr => ⟨_, PSs.nox (pss_cons (ps_expr (pe_call (ok_want_count T) (hr.mono (by decide)) rfl (g_want_count T) (F_want_count T).kp (b_want_count T) .nil pass0 (pa_cons (pv 1) pa_nil)))
  (pss_cons (ps_if (pt_cmpR op_notN (pv 2) pe_non (nomark _)) (pss_cons (ps_expr (pe_call (ok_want_count T) (hr.mono (by decide)) rfl (g_want_count T) (F_want_count T).kp (b_want_count T) .nil pass0 (pa_cons (pv 2) pa_nil)))
  (pss_one (ps_if (pt_cmpR op_lt (pv 2) (pv 1) (nomark _)) (pss_one ps_never) pss_nil))) pss_nil)
  (pss_cons (SlX.ps_sl (pv 0) (pv 1))
  (pss_cons (SlX.ps_sl (pv 0) (pv 2))
  (pss_one (SlX.ps_sl (pv 0) (pe_tup (pa_cons (pv 1) (pa_cons (pe_callTy call_int1 (by rfl) (z_int T) boot_int (pa_cons (pe_cmpR op_isN (pv 2) pe_non (nomark _)) pa_nil)) (pa_cons (pe_ifExp (pt_cmpR op_isN (pv 2) pe_non (nomark _)) pe_int (pv 2)) pa_nil)))))))))), ?_⟩
  rintro ⟨x, dx, m, o⟩ ⟨h1, h2⟩
  dsimp only at h1 h2 ⊢
  refine sb_seq (sb_drop (ed_callP (α := Int) m (ea_cons (ed_var rfl) ea_nil) h1)) ?_
  refine sb_seq (Os1 := [(x, eqO (.ins (C_Many K) dx [])), (dx, eqO (.own x))]) (Γ1 := ctx 3 [valD (.ref x), intD m, optD o]) (sb_if (b := !decide (o = none)) (et_test (ed_op (ed_var rfl) ed_c od_notO)) (fun h => ?_) fun _ => sb_next) ?_
  · cases o with
    | none => cases h
    | some k =>
      obtain ⟨h3, h4⟩ := h2 k rfl
      exact sb_seq (sb_drop (ed_callP (α := Int) k (ea_cons (ed_var (R := intD k) rfl) ea_nil) h3)) (sb_if (b := false) ((et_test (ed_op (ed_var (R := intD k) rfl) (ed_var rfl) od_I0)).cast (decide_eq_false (by omega))) (fun z => nomatch z) fun _ => sb_next)
  · refine sb_seq (sb_sl0 (y := .int m) (ed_var rfl) (ed_var rfl) (scls T) (slot_own_least T)) ?_
    refine sb_seq (sb_sl1 (y := optV o) (ed_var (by rw [← optD_eq]; rfl)) (ed_var rfl) (scls T) (slot_own_most T)) ?_
    refine sb_sl2 (ed_tup (Rs := [intD m, intD (if decide (o = none) then 1 else 0), anyD]) (ea_cons (ed_var rfl) (ea_cons (ed_cb (ea_cons (ed_op (ed_var rfl) ed_c od_isO) ea_nil) cd_intB) (ea_cons ((ed_if (R := anyD) (b := decide (o = none)) (et_test (ed_op (ed_var rfl) ed_c od_isO)) (fun _ => ED.to ed_c fun _ _ _ => trivial) fun _ => ED.to (ed_var rfl) fun _ _ _ => trivial)) ea_nil)))) (ed_var rfl) (scls T) (slot_own_place T) rfl ?_
    exact ⟨rfl, .refl⟩
abbrev r_Many_least (K : PySem.W.Frag) : List Den → Own → Own → Den → Prop := pu (fun _ : Mny => True) (fun m => [manyD K m]) (fun m => intD m.1)
theorem ok_Many_least (T : Txt K mg) : FnOk P w K mg base CX0 1 (a_Many_least K) (fdOf K (a_Many_least K)) ["self"] (DefSp (r_Many_least K)) := by
  refine ow_ok (F_Many_least T) sc_Many_least (fun _ => rfl) fun cdv A outer s H E hr => ⟨_, PSs.nox (pss_one (ps_ret (pe_slK (K := K) (pv 0)))), ?_⟩
  intro m _
  exact sb_ret (ed_slot0 (ed_var rfl) (scls T) (slot_own_least T))
abbrev r_Many_most (K : PySem.W.Frag) : List Den → Own → Own → Den → Prop := pu (fun _ : Mny => True) (fun m => [manyD K m]) (fun m => optD m.2)
theorem ok_Many_most (T : Txt K mg) : FnOk P w K mg base CX0 1 (a_Many_most K) (fdOf K (a_Many_most K)) ["self"] (DefSp (r_Many_most K)) := by
  refine ow_ok (F_Many_most T) sc_Many_most (fun _ => rfl) fun cdv A outer s H E hr => ⟨_, PSs.nox (pss_one (ps_ret (pe_slK (K := K) (pv 0)))), ?_⟩
  intro m _
  exact sb_ret (ed_slot1 (ed_var rfl) (scls T) (slot_own_most T))
def smallM (m : Mny) : Prop := m.1 ≤ 6 ∧ ∀ k, m.2 = some k → k ≤ 6
theorem sisi (T : Txt K mg) : SlX.SIsi K (C_Many K) := ⟨(isi_Many T).ca, (isi_Many T).cn, (isi_Many T).ct, (isi_Many T).cm⟩
abbrev r_is_end_many (K : PySem.W.Frag) : List Den → Own → Own → Den → Prop := pu (fun m : Mny => smallM m) (fun m => [manyD K m]) (fun m => blD true)
theorem ok_is_end_many (T : Txt K mg) : FnOk P w K mg base CX0 3 (a_is_end_many K) (fdOf K (a_is_end_many K)) ["value"] (DefSp (r_is_end_many K)) := by
  refine ow_ok (F_is_end_many T) sc_is_end_many (fun _ => rfl) fun cdv A outer s H E hr => ⟨_, PSs.nox (pss_cons (ps_if (pt_not (pt_val (pe_callB (call_isiSlK (K := K) (.ref (C_Many K))) (by rfl) (z_isinstance T) boot_isinstance (pa_cons (pv 0) (pa_cons (pe_glob rfl (g_Many T) (rref _)) pa_nil))))) (pss_one (ps_ret pe_bl)) pss_nil)
  (pss_one (ps_ret (pe_and (pe_cmpR op_le (SlX.pe_propSl (E := E0) (pv 0) (scls T) (po_Many_least T).at_ (po_Many_least T).get (po_Many_least T).tak (po_Many_least T).rec_ ((ok_Many_least T).raw (b_Many_least T) .nil) (hr.mono (by decide)) (fun _ _ _ _ z => z)) (pe_cvalK (K := K) (pe_glob rfl (g_Many T) (rref _))) (nomark _)) (pe_one (pe_or (pe_cmpR op_isN (SlX.pe_propSl (E := E0) (pv 0) (scls T) (po_Many_most T).at_ (po_Many_most T).get (po_Many_most T).tak (po_Many_most T).rec_ ((ok_Many_most T).raw (b_Many_most T) .nil) (hr.mono (by decide)) (fun _ _ _ _ z => z)) pe_non (nomark _)) (pe_one (pe_cmpR op_le (SlX.pe_propSl (E := E0) (pv 0) (scls T) (po_Many_most T).at_ (po_Many_most T).get (po_Many_most T).tak (po_Many_most T).rec_ ((ok_Many_most T).raw (b_Many_most T) .nil) (hr.mono (by decide)) (fun _ _ _ _ z => z)) (pe_cvalK (K := K) (pe_glob rfl (g_Many T) (rref _))) (nomark _))))))))), ?_⟩
  rintro ⟨m, o⟩ ⟨h1, h2⟩
  dsimp only at h1 h2 ⊢
  refine sb_ifs (b := false) (et_not (a := true) (et_B (ed_cb (ea_cons (ed_var rfl) (ea_cons ed_c ea_nil)) (cd_isiSl (scls T) (sisi T) (isi_Many T).kit)))) (fun z => nomatch z) fun _ => sb_skip ?_
  refine sb_ret (ed_andV (a := true) (b := true) (ed_tt (ed_op (ed_propSl (α := Mny) (m, o) (ed_var rfl) trivial) (ed_cval ed_c (crd_Many T) (cv_Many_TOP T)) od_I0) (decide_eq_true h1)) fun _ => ?_)
  cases o with
  | none => exact ed_orV (a := true) (b := true) (ed_op (ed_propSl (α := Mny) (m, none) (ed_var rfl) trivial) ed_c od_isN) fun z => nomatch z
  | some k => exact ed_orV (a := false) (b := true) ((ed_op (ed_propSl (α := Mny) (m, some k) (ed_var rfl) trivial) ed_c (od_isO (o := some k)))) fun _ => ed_tt (ed_op (ed_propSl (α := Mny) (m, some k) (ed_var rfl) trivial) (ed_cval ed_c (crd_Many T) (cv_Many_TOP T)) (od_I0 (i := k))) (decide_eq_true (h2 k rfl))
end
end Pr
/-! DG -/
/-! Contexts compared; enumerate, keys of texts; dicts by texts. -/
namespace Dn
open PySem PySem.Spec PyProof.Rows L2
theorem Less.nil : Less [] [] := ⟨rfl, fun _ _ h => h⟩
theorem Less.keep {r : Option Den} {Γ Γ' : Ctx} (h : Less Γ' Γ) : Less (r :: Γ') (r :: Γ) := ⟨congrArg Nat.succ h.1, fun i R e => by
  cases i with
  | zero => exact e
  | succ i => exact h.2 i R e⟩
theorem Less.drop {r : Option Den} {Γ Γ' : Ctx} (h : Less Γ' Γ) : Less (none :: Γ') (r :: Γ) := ⟨congrArg Nat.succ h.1, fun i R e => by
  cases i with
  | zero => cases e
  | succ i => exact h.2 i R e⟩
section
variable {K : PySem.W.Frag} {Os : Own} {Γ : Ctx} {ta tb te : TE} {A B R : Den}
theorem ei_enumM {α : Type} {ks : List α} {f : α → Den} {tA : TA} (h : EA Os tA Γ [lstD (ks.map f)]) : EI Os (iEnum K tA) Γ (· = ks.zipIdx.map fun p => tupD [intD (p.2 : Nat), f p.1]) := by
  have z := ei_enum (K := K) h
  have e : (ks.map f).zipIdx.map (fun p => tupD [intD (p.2 : Nat), p.1]) = ks.zipIdx.map fun p => tupD [intD (p.2 : Nat), f p.1] := by
    rw [List.zipIdx_map, List.map_map]
    rfl
  rw [e] at z
  exact z
theorem mem_enum {α : Type} {ks : List α} {p : α × Nat} (h : p ∈ ks.zipIdx) : ks[p.2]? = some p.1 := by
  have := List.mem_zipIdx_iff_getElem?.mp h
  exact this
/-- a dict whose keys are texts -/
abbrev sdD {β : Type} (ls : List (Str × β)) (f : β → Den) : Den := dkD (ls.map fun p => (Sum.inr p.1, f p.2))
theorem ei_keysS {β : Type} {ls : List (Str × β)} {f : β → Den} (h : ED Os te Γ (sdD ls f)) : EI Os (iKeys te) Γ (· = ls.map fun p => strD p.1) := by
  have z := ei_keys h
  have e : ((ls.map fun p => ((Sum.inr p.1 : Key), f p.2)).map fun p => valD (kV p.1)) = ls.map fun p => strD p.1 := by
    rw [List.map_map]
    rfl
  rw [e] at z
  exact z
/-- what stands at a name -/
def lk {β : Type} [Inhabited β] (ls : List (Str × β)) (k : Str) : β := ((ls.find? fun p => decide (p.1 = k)).map (·.2)).getD default
theorem look_map {β : Type} {f : β → Den} {k : Str} : ∀ ls : List (Str × β), look (ls.map fun p => ((Sum.inr p.1 : Key), f p.2)) (.inr k) = (ls.find? fun p => decide (p.1 = k)).map fun p => f p.2
  | [] => rfl
  | p :: ls => by
    have ih := look_map (f := f) (k := k) ls
    unfold look at *
    rw [List.map_cons, List.find?_cons, List.find?_cons]
    by_cases h : p.1 = k
    · have e1 : decide ((Sum.inr p.1 : Key) = .inr k) = true := decide_eq_true (by rw [h])
      simp only [e1, decide_eq_true h, Option.map_some]
    · have e1 : decide ((Sum.inr p.1 : Key) = .inr k) = false := decide_eq_false fun z => h (by injection z)
      simp only [e1, decide_eq_false h]
      exact ih
theorem find_mem {β : Type} {ls : List (Str × β)} {k : Str} (h : k ∈ ls.map (·.1)) : ∃ p, ls.find? (fun p => decide (p.1 = k)) = some p ∧ p ∈ ls ∧ p.1 = k := by
  obtain ⟨p, hp, e⟩ := List.mem_map.mp h
  cases z : ls.find? (fun p => decide (p.1 = k)) with
  | none =>
    have := List.find?_eq_none.mp z p hp
    simp [e] at this
  | some q => exact ⟨q, rfl, List.mem_of_find?_eq_some z, by simpa using List.find?_some z⟩
theorem look_lk {β : Type} [Inhabited β] {f : β → Den} {ls : List (Str × β)} {k : Str} (h : k ∈ ls.map (·.1)) : look (ls.map fun p => ((Sum.inr p.1 : Key), f p.2)) (.inr k) = some (f (lk ls k)) := by
  obtain ⟨p, e, _, _⟩ := find_mem h
  rw [look_map, e]
  unfold lk
  rw [e]
  rfl
theorem look_some {β : Type} {f : β → Den} {ls : List (Str × β)} {k : Str} : (look (ls.map fun p => ((Sum.inr p.1 : Key), f p.2)) (.inr k)).isSome = decide (k ∈ ls.map (·.1)) := by
  rw [look_map, Option.isSome_map]
  by_cases h : k ∈ ls.map (·.1)
  · obtain ⟨p, e, _, _⟩ := find_mem h
    rw [e, decide_eq_true h]
    rfl
  · rw [decide_eq_false h]
    cases z : ls.find? (fun p => decide (p.1 = k)) with
    | none => rfl
    | some q => exact absurd (List.mem_map.mpr ⟨q, List.mem_of_find?_eq_some z, by simpa using List.find?_some z⟩) h
theorem lk_mem {β : Type} [Inhabited β] {ls : List (Str × β)} {k : Str} (h : k ∈ ls.map (·.1)) : (k, lk ls k) ∈ ls := by
  obtain ⟨p, e, m, hk⟩ := find_mem h
  unfold lk
  rw [e, ← hk]
  exact m
theorem lk_of {β : Type} [Inhabited β] {ls : List (Str × β)} {k : Str} {v : β} (nd : (ls.map (·.1)).Nodup) (h : (k, v) ∈ ls) : lk ls k = v := by
  have h1 : k ∈ ls.map (·.1) := List.mem_map.mpr ⟨_, h, rfl⟩
  have h2 := lk_mem h1
  have z : ∀ {l : List (Str × β)} {a b : β}, (l.map (·.1)).Nodup → (k, a) ∈ l → (k, b) ∈ l → a = b := by
    intro l
    induction l with
    | nil => intro a b _ h; cases h
    | cons p l ih =>
      intro a b nd ha hb
      rw [List.map_cons, List.nodup_cons] at nd
      rcases List.mem_cons.mp ha with e | ma
      · rcases List.mem_cons.mp hb with e' | mb
        · rw [← e'] at e; injection e
        · subst e; exact absurd (List.mem_map.mpr ⟨_, mb, rfl⟩) nd.1
      · rcases List.mem_cons.mp hb with e' | mb
        · subst e'; exact absurd (List.mem_map.mpr ⟨_, ma, rfl⟩) nd.1
        · exact ih nd.2 ma mb
  exact z nd h2 h
/-- the dict by its keys in another order -/
theorem keys_map {β : Type} (ls : List (Str × β)) (f : β → Den) : (ls.map fun p => ((Sum.inr p.1 : Key), f p.2)).map (·.1) = (ls.map (·.1)).map Sum.inr := by rw [List.map_map, List.map_map]; rfl
theorem dget_s {β : Type} [Inhabited β] {ls : List (Str × β)} {f : β → Den} {k : Str} (h : k ∈ ls.map (·.1)) (ha : ED Os ta Γ (sdD ls f)) (hb : ED Os tb Γ (strD k)) : ED Os (tDGet ta tb) Γ (f (lk ls k)) := dget_k (k := .inr k) (look_lk h) ha hb
theorem din_s {β : Type} {ls : List (Str × β)} {f : β → Den} {k : Str} (hb : ED Os tb Γ (strD k)) (ha : ED Os ta Γ (sdD ls f)) : ED Os (tDIn tb ta) Γ (blD (decide (k ∈ ls.map (·.1)))) := (ed_dinK (k := .inr k) hb ha).cast (by rw [look_some])
theorem dnin_s {β : Type} {ls : List (Str × β)} {f : β → Den} {k : Str} (hb : ED Os tb Γ (strD k)) (ha : ED Os ta Γ (sdD ls f)) : ED Os (tDNotIn tb ta) Γ (blD (!decide (k ∈ ls.map (·.1)))) := (ed_dninK (k := .inr k) hb ha).cast (by rw [look_some])
theorem notN_dk {kvs : List (Key × Den)} : notN (dkD kvs) := fun H v ⟨a, o, us, e, _⟩ z => by rw [e] at z; cases z
theorem notN_lst {Rs : List Den} : notN (lstD Rs) := fun H v ⟨a, us, e, _⟩ z => by rw [e] at z; cases z
theorem notN_tup {Rs : List Den} : notN (tupD Rs) := fun H v ⟨a, us, e, _⟩ z => by rw [e] at z; cases z
theorem notN_ins {C : Addr} {fs : List (Str × Den)} : notN (insD C fs) := fun H v ⟨a, dx, us, e, _⟩ z => by rw [e] at z; cases z
theorem notN_int {i : Int} : notN (intD i) := fun H v e z => by rw [show v = V.int i from e] at z; cases z
theorem od_ownIn {C : Addr} {fs : List (Str × Den)} {α : Type} {Pr : α → Prop} {args : α → List Den} {res : α → Den} {b : Bool} (a : α) (hp : Pr a) (eb : res a = blD b := by rfl) (e : [insD C fs, A] = args a := by rfl) : OD (rOwnIn C (DefSp (pu Pr args res))) A (insD C fs) (blD b) := fun H0 H x y s hx hy Q q => by
  obtain ⟨p, dx, us, ey, hp', hf⟩ := id hy
  subst ey
  refine ⟨p, dx, us, rfl, s _ _ hp', def_sp (Os := []) (Os' := []) s .nil (.cons hy (.cons hx .nil)) ⟨a, hp, e, rfl, rfl, rfl⟩ fun v H0' H' gr hv => ?_⟩
  rw [eb] at hv
  exact ⟨b, hv, q _ H0' H' gr rfl⟩
theorem od_ownNi {C : Addr} {fs : List (Str × Den)} {α : Type} {Pr : α → Prop} {args : α → List Den} {res : α → Den} {b : Bool} (a : α) (hp : Pr a) (eb : res a = blD b := by rfl) (e : [insD C fs, A] = args a := by rfl) : OD (rOwnNi C (DefSp (pu Pr args res))) A (insD C fs) (blD (!b)) := fun H0 H x y s hx hy Q q => by
  obtain ⟨p, dx, us, ey, hp', hf⟩ := id hy
  subst ey
  refine ⟨p, dx, us, rfl, s _ _ hp', def_sp (Os := []) (Os' := []) s .nil (.cons hy (.cons hx .nil)) ⟨a, hp, e, rfl, rfl, rfl⟩ fun v H0' H' gr hv => ?_⟩
  rw [eb] at hv
  exact ⟨b, hv, q _ H0' H' gr rfl⟩
theorem od_ownGet {C : Addr} {fs : List (Str × Den)} {α : Type} {Pr : α → Prop} {args : α → List Den} {res : α → Den} (a : α) (hp : Pr a) (e : [insD C fs, B] = args a := by rfl) : OD (rOwnGet C (DefSp (pu Pr args res))) (insD C fs) B (res a) := fun H0 H x y s hx hy Q q => by
  obtain ⟨p, dx, us, ex, hp', hf⟩ := id hx
  subst ex
  exact ⟨p, dx, us, rfl, s _ _ hp', def_sp (Os := []) (Os' := []) s .nil (.cons hx (.cons hy .nil)) ⟨a, hp, e, rfl, rfl, rfl⟩ fun v H0' H' gr hv => q v H0' H' gr hv⟩
end
end Dn
/-! VB -/
namespace Pr
open PySem PySem.Spec PyProof.Rows L2 Dn Rb
abbrev Ends4 := Str × Mny × Str × Mny
abbrev endsD (K : PySem.W.Frag) (e : Ends4) : Den := tupD [strD e.1, manyD K e.2.1, strD e.2.2.1, manyD K e.2.2.2]
def okN (z : Str) : Prop := nameB z = true
theorem okN.len {z : Str} (h : okN z) : 1 ≤ z.length ∧ z.length ≤ 8 := by
  unfold okN nameB at h
  rw [Bool.and_eq_true] at h
  exact of_decide_eq_true h.1
theorem okN.pre {K : PySem.W.Frag} {z : Str} (h : okN z) : preN K (.inl z) := Nat.le_trans h.len.2 (by decide)
def okE (kinds : List Str) (e : Ends4) : Prop := (okN e.1 ∧ e.1 ∈ kinds) ∧ (okM e.2.1 ∧ smallM e.2.1) ∧ (okN e.2.2.1 ∧ e.2.2.1 ∈ kinds) ∧ (okM e.2.2.2 ∧ smallM e.2.2.2)
abbrev linksD (K : PySem.W.Frag) (ls : List (Str × Ends4)) : Den := sdD ls (endsD K)
structure okMo (kinds : List Str) (ls : List (Str × Ends4)) : Prop where
  ne : kinds ≠ []
  le : kinds.length ≤ 5
  nd : kinds.Nodup
  nm : ∀ k, k ∈ kinds → okN k
  lle : ls.length ≤ 8
  lnd : (ls.map (·.1)).Nodup
  lnm : ∀ p, p ∈ ls → okN p.1
  le4 : ∀ p, p ∈ ls → okE kinds p.2
theorem nodup_inr {l : List Str} (h : l.Nodup) : (l.map fun k => (Sum.inr k : Key)).Nodup := List.Pairwise.map _ (fun a b n e => n (by injection e)) h
/-- the links in the order of their names -/
def srtL (ls : List (Str × Ends4)) : List (Str × Ends4) := (Srt.srt (ls.map (·.1))).map fun k => (k, lk ls k)
theorem srtL_keys (ls : List (Str × Ends4)) : (srtL ls).map (·.1) = Srt.srt (ls.map (·.1)) := by
  unfold srtL
  rw [List.map_map]
  exact List.map_id _
theorem srtL_lk {ls : List (Str × Ends4)} (nd : (ls.map (·.1)).Nodup) {k : Str} (h : k ∈ ls.map (·.1)) : lk (srtL ls) k = lk ls k := by
  refine lk_of (by rw [srtL_keys]; exact (Srt.srt_perm _).nodup_iff.mpr nd) ?_
  exact List.mem_map.mpr ⟨k, Srt.mem_srt.mpr h, rfl⟩
abbrev modelD (K : PySem.W.Frag) (kinds : List Str) (ls : List (Str × Ends4)) : Den := insD (C_Model K) [("own_kinds", tupD ((Srt.srt kinds).map fun x => strD x)), ("own_links", sdD (srtL ls) (endsD K))]
section
variable {P : Program} {w : World} {K : PySem.W.Frag} {mg : Str → Option Value} {base : Heap}
abbrev r_are_ends (K : PySem.W.Frag) : List Den → Own → Own → Den → Prop := pu (fun e : Ends4 => ∃ kinds, okE kinds e) (fun e => [endsD K e]) (fun _ => blD true)
theorem ok_are_ends (T : Txt K mg) : FnOk P w K mg base CX0 4 (a_are_ends K) (fdOf K (a_are_ends K)) ["value"] (DefSp (r_are_ends K)) := by
  refine ow_ok (F_are_ends T) sc_are_ends (fun _ => rfl) fun cdv A outer s H E hr => ⟨_, PSs.nox (pss_cons (ps_if (PW.pt (pw_or (pt_not (pt_val (pe_callB (call_isiK' (K := K)) (by rfl) (z_isinstance T) boot_isinstance (pa_cons (pv 0) (pa_cons (pe_bltn (by rfl) (z_tuple T) boot_tuple (rty _)) pa_nil))))) (pw_or1 (pt_cmpR op_ne (pe_callB (call_lenK (K := K)) (by rfl) (z_len T) boot_len (pa_cons (pv 0) pa_nil)) pe_int (nomark _))))) (pss_one (ps_ret pe_bl)) pss_nil)
  (pss_one (ps_ret (pe_and (pe_call (ok_is_name T) (hr.mono (by decide)) rfl (g_is_name T) (F_is_name T).kp (b_is_name T) .nil pass0 (pa_cons (pe_ix (ix_tupK (K := K)) (pv 0) pe_int (fun _ _ => rfl)) pa_nil)) (pe_and (pe_call (ok_is_end_many T) (hr.mono (by decide)) rfl (g_is_end_many T) (F_is_end_many T).kp (b_is_end_many T) .nil pass0 (pa_cons (pe_ix (ix_tupK (K := K)) (pv 0) pe_int (fun _ _ => rfl)) pa_nil)) (pe_and (pe_call (ok_is_name T) (hr.mono (by decide)) rfl (g_is_name T) (F_is_name T).kp (b_is_name T) .nil pass0 (pa_cons (pe_ix (ix_tupK (K := K)) (pv 0) pe_int (fun _ _ => rfl)) pa_nil)) (pe_one (pe_call (ok_is_end_many T) (hr.mono (by decide)) rfl (g_is_end_many T) (F_is_end_many T).kp (b_is_end_many T) .nil pass0 (pa_cons (pe_ix (ix_tupK (K := K)) (pv 0) pe_int (fun _ _ => rfl)) pa_nil))))))))), ?_⟩
  rintro e ⟨kinds, ⟨h1, _⟩, ⟨_, h2⟩, ⟨h3, _⟩, ⟨_, h4⟩⟩
  refine sb_ifs (b := false) (et_or (a := false) (b := false) (et_not (a := true) (et_B (ed_cb (ea_cons (ed_var rfl) (ea_cons ed_c ea_nil)) (cd_isiB (b := true) ty_tup)))) fun _ => et_test ((ed_op (ed_cb (ea_cons (ed_var rfl) ea_nil) cd_lenT) ed_c od_neI))) (fun z => nomatch z) fun _ => sb_skip ?_
  refine sb_ret (ed_andV (a := true) (b := true) (ed_tt (ed_callP (α := Str ⊕ Den) (.inl e.1) (ea_cons (ed_op (ed_var rfl) ed_c (od_ixT (i := 0) rfl)) ea_nil) h1.pre) h1) fun _ => ?_)
  refine ed_andV (a := true) (b := true) (ed_callP (α := Mny) e.2.1 (ea_cons (ed_op (ed_var rfl) ed_c (od_ixT (i := 1) rfl)) ea_nil) h2) fun _ => ?_
  refine ed_andV (a := true) (b := true) (ed_tt (ed_callP (α := Str ⊕ Den) (.inl e.2.2.1) (ea_cons (ed_op (ed_var rfl) ed_c (od_ixT (i := 2) rfl)) ea_nil) h3.pre) h3) fun _ => ?_
  exact ed_callP (α := Mny) e.2.2.2 (ea_cons (ed_op (ed_var rfl) ed_c (od_ixT (i := 3) rfl)) ea_nil) h4
abbrev r_want_kinds (K : PySem.W.Frag) : List Den → Own → Own → Den → Prop := pu (fun ks : List Str => ks ≠ [] ∧ ks.length ≤ 100 ∧ ks.Nodup ∧ ∀ k, k ∈ ks → okN k) (fun ks => [lstD (ks.map fun x => strD x)]) (fun _ => nonD)
theorem ok_want_kinds (T : Txt K mg) : FnOk P w K mg base CX0 2 (a_want_kinds K) (fdOf K (a_want_kinds K)) ["value"] (DefSp (r_want_kinds K)) := by
  refine ow_ok (F_want_kinds T) sc_want_kinds (fun _ => rfl) fun cdv A outer s H E hr => ⟨_, PSs.nox (pss_cons (ps_if (PW.pt (pw_or (pt_not (pt_val (pe_callB (call_isiTK (K := K)) (by rfl) (z_isinstance T) boot_isinstance (pa_cons (pv 0) (pa_cons (pe_tup (pa_cons (pe_bltn (by rfl) (z_list T) boot_list (rty _)) (pa_cons (pe_bltn (by rfl) (z_tuple T) boot_tuple (rty _)) pa_nil))) pa_nil))))) (pw_or1 (pt_cmpR op_eq (pe_callB (call_lenK (K := K)) (by rfl) (z_len T) boot_len (pa_cons (pv 0) pa_nil)) pe_int (nomark _))))) (pss_one ps_never) pss_nil)
  (pss_one (ps_for PassesOwn.never rfl (pi_enumK (K := K) (by rfl) (z_enumerate T) (pa_cons (pv 0) pa_nil)) (pg_tupK (K := K) (n := 2) rfl (pgs_cons (pg_name (i := 1) sc_want_kinds.nd rfl (Or.inl rfl)) (pgs_cons (pg_name (i := 2) sc_want_kinds.nd rfl (Or.inl rfl)) pgs_nil)))
  (pss_one (ps_if (PW.pt (pw_or (pt_not (pt_val (pe_call (ok_is_name T) (hr.mono (by decide)) rfl (g_is_name T) (F_is_name T).kp (b_is_name T) .nil pass0 (pa_cons (pv 2) pa_nil)))) (pw_or1 (pt_cmpR (op_in_seqK (K := K)) (pv 2) (pe_slice (sl_listK (K := K)) (pv 0) po_none (po_some (pv 1))) (by rfl))))) (pss_one ps_never) pss_nil))))), ?_⟩
  rintro ks ⟨h1, h2, h3, h4⟩
  have hl : ((ks.map fun x => strD x).length : Int) ≠ 0 := by
    rw [List.length_map]
    intro z
    have : ks.length = 0 := by omega
    exact h1 (List.length_eq_zero_iff.mp this)
  refine sb_ifs (b := false) (et_or (a := false) (b := false) (et_not (a := true) (et_B (ed_cb (ea_cons (ed_var rfl) (ea_cons (ed_tup (ea_cons ed_c (ea_cons ed_c ea_nil))) ea_nil)) (cd_isiT2 (b := true) (b' := false) ty_lst)))) fun _ => et_test ((ed_ff (ed_op (ed_cb (ea_cons (ed_var rfl) ea_nil) (cd_len (by rw [List.length_map]; omega))) ed_c od_eqI) (decide_eq_false hl)))) (fun z => nomatch z) fun _ => sb_skip ?_
  refine sb_forS (Γ' := [some (lstD (ks.map fun x => strD x)), none, none]) (ei_enumM (ea_cons (ed_var rfl) ea_nil)) .refl (fun p hp => ?_) ⟨rfl, .refl⟩
  have hg := mem_enum hp
  have hm := List.mem_of_getElem? hg
  refine ⟨_, _, gd_tup2 gd_name gd_name, ?_⟩
  refine SB.less (Γ1 := [some (lstD (ks.map fun x => strD x)), some (intD (p.2 : Nat)), some (strD p.1)]) (sb_if (b := false) (et_or (a := false) (b := false) (et_not (a := true) (et_B (ed_tt (ed_callP (α := Str ⊕ Den) (.inl p.1) (ea_cons (ed_var rfl) ea_nil) (h4 _ hm).pre) (h4 _ hm)))) fun _ => et_test (ed_ff (ed_op (ed_var rfl) (ed_slL (ed_var rfl) eo_no (eo_some (ed_var rfl))) (od_inL (xs := ks.take p.2) |> fun z => by rw [← List.map_take]; exact z)) (decide_eq_false ?_))) (fun z => nomatch z) fun _ => sb_next) ?_
  · intro m
    obtain ⟨j, hj⟩ := List.mem_iff_getElem?.mp m
    have hlt : j < p.2 := by
      have := (List.getElem?_eq_some_iff.mp hj).1
      rw [List.length_take] at this
      omega
    rw [List.getElem?_take_of_lt hlt] at hj
    have := (List.getElem?_inj (List.getElem?_eq_some_iff.mp hj).1 h3).mp (hj.trans hg.symm)
    omega
  · exact .keep (.drop (.drop .nil))
abbrev r_want_links (K : PySem.W.Frag) : List Den → Own → Own → Den → Prop := pu (fun p : List (Str × Ends4) × List Str => p.1.length ≤ 60 ∧ (p.1.map (·.1)).Nodup ∧ (∀ q, q ∈ p.1 → okN q.1) ∧ (∀ q, q ∈ p.1 → okE p.2 q.2)) (fun p => [linksD K p.1, lstD (p.2.map fun x => strD x)]) (fun _ => nonD)
theorem ok_want_links (T : Txt K mg) : FnOk P w K mg base CX0 5 (a_want_links K) (fdOf K (a_want_links K)) ["value", "kinds"] (DefSp (r_want_links K)) := by
  refine ow_ok (F_want_links T) sc_want_links (fun _ => rfl) fun cdv A outer s H E hr => ⟨_, PSs.nox (pss_cons (ps_if (pt_cmpR op_isN (pv 0) pe_non (nomark _)) (pss_one ps_retN) pss_nil)
  (pss_cons (ps_if (PW.pt (pw_or (pt_not (pt_val (pe_callB (call_isiK' (K := K)) (by rfl) (z_isinstance T) boot_isinstance (pa_cons (pv 0) (pa_cons (pe_bltn (by rfl) (z_dict T) boot_dict (rty _)) pa_nil))))) (pw_or1 (pt_not (pt_val (pe_callB (cr_allK (K := K) rfl) (by rfl) (z_all T) boot_all (pa_cons (pe_lc (own := [("link", 2)]) (by rfl) sc_want_links.nd (pi_keys (pv 0)) (blkOk_by (N := n_want_links) (sc := defScope s_want_links) (by decide +kernel)) (fun _ _ _ _ _ => (pg_name (i := 2) sc_want_links.nd rfl (Or.inl rfl))) (fun _ _ _ _ _ => pts_nil) (fun _ _ _ _ _ => (pe_call (ok_is_name T) (hr.mono (by decide)) rfl (g_is_name T) (F_is_name T).kp (b_is_name T) .nil pass0 (pa_cons (pv 2) pa_nil)))) pa_nil))))))) (pss_one ps_never) pss_nil)
  (pss_one (ps_for PassesOwn.never rfl (pi_listK (K := K) (pe_callB (call_sortedD rfl) (by rfl) (z_sorted T) boot_sorted (pa_cons (pv 0) pa_nil))) (pg_name (i := 2) sc_want_links.nd rfl (Or.inl rfl))
  (pss_cons (ps_set (i := 3) sc_want_links.nd rfl (Or.inl rfl) (pe_dget (rm1 hr) (pv 0) (pv 2) (fun _ _ => rfl)))
  (pss_one (ps_if (PW.pt (pw_or (pt_not (pt_val (pe_call (ok_are_ends T) (hr.mono (by decide)) rfl (g_are_ends T) (F_are_ends T).kp (b_are_ends T) .nil pass0 (pa_cons (pv 3) pa_nil)))) (pw_or (pt_cmpR (op_notIn_seqK (K := K)) (pe_ix (ix_tupK (K := K)) (pv 3) pe_int (fun _ _ => rfl)) (pv 1) (by rfl)) (pw_or1 (pt_cmpR (op_notIn_seqK (K := K)) (pe_ix (ix_tupK (K := K)) (pv 3) pe_int (fun _ _ => rfl)) (pv 1) (by rfl)))))) (pss_one ps_never) pss_nil))))))), ?_⟩
  rintro ⟨ls, ks⟩ ⟨h1, h2, h3, h4⟩
  dsimp only at h1 h2 h3 h4 ⊢
  have hall : (ls.all fun p => resN (.inl p.1)) = true := List.all_eq_true.mpr fun p hp => h3 p hp
  refine sb_ifs (b := false) (et_test (ed_op (ed_var rfl) ed_c (od_isN' notN_dk))) (fun z => nomatch z) fun _ => sb_skip ?_
  refine sb_ifs (b := false) (et_or (a := false) (b := false) (et_not (a := true) (et_B (ed_cb (ea_cons (ed_var rfl) (ea_cons ed_c ea_nil)) (cd_isiB (b := true) ty_dk)))) fun _ => et_not (a := true) (et_B (ed_tt (ed_cb (ea_cons (ed_lc0 (f := fun p : Str × Ends4 => blD (resN (.inl p.1))) (ei_keysS (ed_var rfl)) (fun p _ => gd_name) (fun p hp => ed_callP (α := Str ⊕ Den) (.inl p.1) (ea_cons (ed_var rfl) ea_nil) (h3 p hp).pre) (by decide) (by omega)) ea_nil) cd_allM) hall))) (fun z => nomatch z) fun _ => sb_skip ?_
  refine sb_forS (xs := Srt.srt (ls.map (·.1))) (Γ' := [some (linksD K ls), some (lstD (ks.map fun x => strD x)), none, none]) (ei_list (ed_cb (ea_cons (ed_var rfl) ea_nil) (cd_sortedD (keys_map _ _) (by rw [List.length_map]; omega)))) .refl (fun k hk => ?_) ⟨rfl, .refl⟩
  have hm := Srt.mem_srt.mp hk
  have hl := lk_mem hm
  obtain ⟨⟨e1, e2⟩, ⟨e3, e4⟩, ⟨e5, e6⟩, e7⟩ := h4 _ hl
  refine ⟨_, _, gd_name, ?_⟩
  refine SB.less (Γ1 := [some (linksD K ls), some (lstD (ks.map fun x => strD x)), some (strD k), some (endsD K (lk ls k))]) (sb_seq (sb_asg (dget_s hm (ed_var rfl) (ed_var rfl))) ?_) (.keep (.keep (.drop (.drop .nil))))
  refine sb_if (b := false) (et_or (a := false) (b := false) (et_not (a := true) (et_B (ed_callP (α := Ends4) (lk ls k) (ea_cons (ed_var rfl) ea_nil) ⟨ks, h4 _ hl⟩))) fun _ => et_or (a := false) (b := false) (et_test (ed_ff (ed_op (ed_op (ed_var rfl) ed_c (od_ixT (i := 0) rfl)) (ed_var rfl) od_notInL) ?_)) fun _ => et_test (ed_ff (ed_op (ed_op (ed_var rfl) ed_c (od_ixT (i := 2) rfl)) (ed_var rfl) od_notInL) ?_)) (fun z => nomatch z) fun _ => sb_next
  · rw [decide_eq_true e2]; rfl
  · rw [decide_eq_true e6]; rfl
abbrev r_want_few (K : PySem.W.Frag) : List Den → Own → Own → Den → Prop := pu (fun p : Nat × Nat => p.1 ≤ 5 ∧ p.2 ≤ 8) (fun p => [intD (p.1 : Nat), intD (p.2 : Nat)]) (fun _ => nonD)
theorem ok_want_few (T : Txt K mg) : FnOk P w K mg base CX0 1 (a_want_few K) (fdOf K (a_want_few K)) ["kind_count", "link_count"] (DefSp (r_want_few K)) := by
  refine ow_ok (F_want_few T) sc_want_few (fun _ => rfl) fun cdv A outer s H E hr => ⟨_, PSs.nox (pss_cons (ps_if (pt_cmpR op_gt (pv 0) (pe_cvalK (K := K) (pe_glob rfl (g_Model T) (rref _))) (nomark _)) (pss_one ps_never) pss_nil)
  (pss_one (ps_if (pt_cmpR op_gt (pv 1) (pe_cvalK (K := K) (pe_glob rfl (g_Model T) (rref _))) (nomark _)) (pss_one ps_never) pss_nil))), ?_⟩
  rintro ⟨a, b⟩ ⟨h1, h2⟩
  dsimp only at h1 h2 ⊢
  refine sb_ifs (b := false) (et_test (ed_ff (ed_op (ed_var rfl) (ed_cval ed_c (crd_Model T) (cv_Model_MOST_KINDS T)) od_gt) (decide_eq_false (by omega)))) (fun z => nomatch z) fun _ => sb_skip ?_
  exact sb_if (b := false) (et_test (ed_ff (ed_op (ed_var rfl) (ed_cval ed_c (crd_Model T) (cv_Model_MOST_LINKS T)) od_gt) (decide_eq_false (by omega)))) (fun z => nomatch z) fun _ => sb_next
theorem ty_ins {C : Addr} {fs : List (Str × Den)} (c : Cls K C) (i : IsiC K C) : Ty K (insD C fs) (.ref C) := fun H v ⟨a, dx, us, e, h, _⟩ => by subst e; exact .base (.ins h c i.ca i.cn i.ct i.cm)
abbrev MoA := List Str × List (Str × Ends4)
abbrev r_want_model (K : PySem.W.Frag) : List Den → Own → Own → Den → Prop := pu (fun m : MoA => True) (fun m => [modelD K m.1 m.2]) (fun _ => nonD)
theorem ok_want_model (T : Txt K mg) : FnOk P w K mg base CX0 1 (a_want_model K) (fdOf K (a_want_model K)) ["value"] (DefSp (r_want_model K)) := by
  refine ow_ok (F_want_model T) sc_want_model (fun _ => rfl) fun cdv A outer s H E hr => ⟨_, PSs.nox (pss_one (ps_if (pt_not (pt_val (pe_callB (call_isiK' (K := K)) (by rfl) (z_isinstance T) boot_isinstance (pa_cons (pv 0) (pa_cons (pe_glob rfl (g_Model T) (rref _)) pa_nil))))) (pss_one ps_never) pss_nil)), ?_⟩
  intro m _
  exact sb_if (b := false) (et_not (a := true) (et_B (ed_cb (ea_cons (ed_var rfl) (ea_cons ed_c ea_nil)) (cd_isi (ty_ins (c_Model T) (isi_Model T)) (.own _) (isi_Model T).kit)))) (fun z => nomatch z) fun _ => sb_next
abbrev r_Model_contains (K : PySem.W.Frag) : List Den → Own → Own → Den → Prop := pu (fun p : MoA × Str => p.2.length ≤ 100 ∧ ∀ k, k ∈ p.1.1 → okN k) (fun p => [modelD K p.1.1 p.1.2, strD p.2]) (fun p => blD (decide (p.2 ∈ p.1.1)))
theorem ok_Model_contains (T : Txt K mg) : FnOk P w K mg base CX0 2 (a_Model_contains K) (fdOf K (a_Model_contains K)) ["self", "value"] (DefSp (r_Model_contains K)) := by
  refine ow_ok (F_Model_contains T) sc_Model_contains (fun _ => rfl) fun cdv A outer s H E hr => ⟨_, PSs.nox (pss_one (ps_ret (pe_and (pe_call (ok_is_name T) (hr.mono (by decide)) rfl (g_is_name T) (F_is_name T).kp (b_is_name T) .nil pass0 (pa_cons (pv 1) pa_nil)) (pe_one (pe_cmpR (op_in_seqK (K := K)) (pv 1) (pe_fldK (K := K) (pv 0)) (by rfl)))))), ?_⟩
  rintro ⟨⟨ks, ls⟩, z⟩ ⟨h1, h2⟩
  dsimp only at h1 h2 ⊢
  cases hz : nameB z with
  | true =>
    refine sb_ret (ed_andV (a := true) (b := decide (z ∈ Srt.srt ks)) (ed_tt (ed_callP (α := Str ⊕ Den) (.inl z) (ea_cons (ed_var rfl) ea_nil) h1) hz) fun _ => ed_op (ed_var rfl) (ed_fld (ed_var rfl) (c_Model T) (na_Model_own_kinds T) rfl) od_inT) ⟨rfl, ?_⟩
    have e : decide (z ∈ Srt.srt ks) = decide (z ∈ ks) := decide_eq_decide.mpr Srt.mem_srt
    rw [e]
    exact .refl
  | false =>
    refine sb_ret (ed_andV (a := false) (b := false) (ed_ff (ed_callP (α := Str ⊕ Den) (.inl z) (ea_cons (ed_var rfl) ea_nil) h1) hz) fun q => nomatch q) ⟨rfl, ?_⟩
    have e : decide (z ∈ ks) = false := decide_eq_false fun m => by
      have := h2 z m
      rw [okN, hz] at this
      cases this
    rw [e]
    exact .refl
abbrev r_want_kind (K : PySem.W.Frag) : List Den → Own → Own → Den → Prop := pu (fun p : MoA × Str => p.2 ∈ p.1.1 ∧ ∀ k, k ∈ p.1.1 → okN k) (fun p => [modelD K p.1.1 p.1.2, strD p.2]) (fun p => nonD)
theorem ok_want_kind (T : Txt K mg) : FnOk P w K mg base CX0 3 (a_want_kind K) (fdOf K (a_want_kind K)) ["model", "value"] (DefSp (r_want_kind K)) := by
  refine ow_ok (F_want_kind T) sc_want_kind (fun _ => rfl) fun cdv A outer s H E hr => ⟨_, PSs.nox (pss_one (ps_if (pt_cmpR (op_ownNi (oo_Model_contains T) (ok_Model_contains T) (hr.mono (by decide)) (b_Model_contains T)) (pv 1) (pv 0) (by rfl)) (pss_one ps_never) pss_nil)), ?_⟩
  rintro ⟨⟨ks, ls⟩, z⟩ ⟨h1, h2⟩
  dsimp only at h1 h2 ⊢
  exact sb_if (b := false) (et_test (ed_ff (ed_op (ed_var rfl) (ed_var rfl) (od_ownNi (α := MoA × Str) ((ks, ls), z) ⟨Nat.le_trans (h2 z h1).len.2 (by decide), h2⟩)) (by rw [decide_eq_true h1]; rfl))) (fun z => nomatch z) fun _ => sb_next
theorem mem_srtL {ls : List (Str × Ends4)} {z : Str} : z ∈ (srtL ls).map (·.1) ↔ z ∈ ls.map (·.1) := by rw [srtL_keys, Srt.mem_srt]
abbrev r_want_link (K : PySem.W.Frag) : List Den → Own → Own → Den → Prop := pu (fun p : MoA × Str => p.2 ∈ p.1.2.map (·.1) ∧ ∀ q, q ∈ p.1.2 → okN q.1) (fun p => [modelD K p.1.1 p.1.2, strD p.2]) (fun p => nonD)
theorem ok_want_link (T : Txt K mg) : FnOk P w K mg base CX0 2 (a_want_link K) (fdOf K (a_want_link K)) ["model", "value"] (DefSp (r_want_link K)) := by
  refine ow_ok (F_want_link T) sc_want_link (fun _ => rfl) fun cdv A outer s H E hr => ⟨_, PSs.nox (pss_one (ps_if (PW.pt (pw_or (pt_not (pt_val (pe_call (ok_is_name T) (hr.mono (by decide)) rfl (g_is_name T) (F_is_name T).kp (b_is_name T) .nil pass0 (pa_cons (pv 1) pa_nil)))) (pw_or1 (pt_cmp (pc_dnotin (rm1 hr) (pv 1) (pe_fldK (K := K) (pv 0))))))) (pss_one ps_never) pss_nil)), ?_⟩
  rintro ⟨⟨ks, ls⟩, z⟩ ⟨h1, h2⟩
  dsimp only at h1 h2 ⊢
  have hn : okN z := by
    obtain ⟨q, hq, e⟩ := List.mem_map.mp h1
    rw [← e]
    exact h2 q hq
  exact sb_if (b := false) (et_or (a := false) (b := false) (et_not (a := true) (et_B (ed_tt (ed_callP (α := Str ⊕ Den) (.inl z) (ea_cons (ed_var rfl) ea_nil) hn.pre) hn))) fun _ => et_B (ed_ff (dnin_s (ed_var rfl) (ed_fld (ed_var rfl) (c_Model T) (na_Model_own_links T) rfl)) (by rw [decide_eq_true (mem_srtL.mpr h1)]; rfl))) (fun z => nomatch z) fun _ => sb_next
abbrev r_want_end (K : PySem.W.Frag) : List Den → Own → Own → Den → Prop := pu (fun _ : Bool => True) (fun e => [strD (endS e)]) (fun _ => nonD)
theorem ok_want_end (T : Txt K mg) : FnOk P w K mg base CX0 2 (a_want_end K) (fdOf K (a_want_end K)) ["value"] (DefSp (r_want_end K)) := by
  refine ow_ok (F_want_end T) sc_want_end (fun _ => rfl) fun cdv A outer s H E hr => ⟨_, PSs.nox (pss_one (ps_if (pt_not (pt_val (pe_call (ok_is_end T) (hr.mono (by decide)) rfl (g_is_end T) (F_is_end T).kp (b_is_end T) .nil pass0 (pa_cons (pv 0) pa_nil)))) (pss_one ps_never) pss_nil)), ?_⟩
  intro e _
  exact sb_if (b := false) (et_not (a := true) (et_B (ed_tt (ed_callP (endS e) (ea_cons (ed_var rfl) ea_nil) trivial) (end_in e)))) (fun z => nomatch z) fun _ => sb_next
abbrev r_Model_init (K : PySem.W.Frag) : List Den → Own → Own → Den → Prop := ow (fun p : Addr × MoA => okMo p.2.1 p.2.2) (fun p => [valD (.ref p.1), lstD (p.2.1.map fun x => strD x), linksD K p.2.2]) (fun p => [(p.1, insO (C_Model K) [])]) (fun p => [(p.1, insO (C_Model K) [("own_kinds", tupD ((Srt.srt p.2.1).map fun x => strD x)), ("own_links", sdD (srtL p.2.2) (endsD K))])]) (fun _ => nonD)
theorem ok_Model_init (T : Txt K mg) : FnOk P w K mg base CX0 6 (a_Model_init K) (fdOf K (a_Model_init K)) ["self", "kinds", "links"] (DefSp (r_Model_init K)) := by
  refine ow_ok (F_Model_init T) sc_Model_init (fun _ => rfl) fun cdv A outer s H E hr => ⟨_, PSs.nox (pss_cons (ps_expr (pe_call (ok_want_kinds T) (hr.mono (by decide)) rfl (g_want_kinds T) (F_want_kinds T).kp (b_want_kinds T) .nil pass0 (pa_cons (pv 1) pa_nil)))
  (pss_cons (ps_expr (pe_call (ok_want_links T) (hr.mono (by decide)) rfl (g_want_links T) (F_want_links T).kp (b_want_links T) .nil pass0 (pa_cons (pv 2) (pa_cons (pv 1) pa_nil))))
  (pss_cons (ps_set (i := 3) sc_Model_init.nd rfl (Or.inr rfl) (pe_ifExp (pt_cmpR op_isN (pv 2) pe_non (nomark _)) pe_dnewK (pv 2)))
  (pss_cons (ps_expr (pe_call (ok_want_few T) (hr.mono (by decide)) rfl (g_want_few T) (F_want_few T).kp (b_want_few T) .nil pass0 (pa_cons (pe_callB (call_lenK (K := K)) (by rfl) (z_len T) boot_len (pa_cons (pv 1) pa_nil)) (pa_cons (pe_callB Rb.call_lenDR (by rfl) (z_len T) boot_len (pa_cons (pv 3) pa_nil)) pa_nil))))
  (pss_cons (ps_fld (pv 0) (pe_callTy (call_tuple_ofK (K := K)) (by rfl) (z_tuple T) boot_tuple (pa_cons (pe_callB (cr_sortedSK (K := K)) (by rfl) (z_sorted T) boot_sorted (pa_cons (pv 1) pa_nil)) pa_nil)) rfl)
  (pss_one (ps_fld (pv 0) (pe_frz (pe_dc (own := [("link", 4)]) (by rfl) sc_Model_init.nd (pi_listK (K := K) (pe_callB (call_sortedD rfl) (by rfl) (z_sorted T) boot_sorted (pa_cons (pv 3) pa_nil))) (blkOk_by (N := n_Model_init) (sc := defScope s_Model_init) (by decide +kernel)) (fun _ _ _ _ _ => (pg_name (i := 4) sc_Model_init.nd rfl (Or.inl rfl))) (fun _ _ _ _ _ => pts_nil) (fun _ _ _ _ _ => (pv 4)) (fun _ _ _ _ _ => (pe_dget (rm1 hr) (pv 3) (pv 4) (fun _ _ => rfl))))) rfl))))))), ?_⟩
  rintro ⟨x, ks, ls⟩ h
  dsimp only at h ⊢
  refine sb_seq (sb_drop (ed_callP (α := List Str) ks (ea_cons (ed_var rfl) ea_nil) ⟨h.ne, by have := h.le; omega, h.nd, h.nm⟩)) ?_
  refine sb_seq (sb_drop (ed_callP (α := List (Str × Ends4) × List Str) (ls, ks) (ea_cons (ed_var rfl) (ea_cons (ed_var rfl) ea_nil)) ⟨by have := h.lle; show ls.length ≤ 60; omega, h.lnd, h.lnm, h.le4⟩)) ?_
  refine sb_seq (sb_asg (A := linksD K ls) (ed_if (b := false) (et_test (ed_op (ed_var rfl) ed_c (od_isN' notN_dk))) (fun z => nomatch z) fun _ => ed_var rfl)) ?_
  refine sb_seq (sb_drop (A := nonD) ?_) ?_
  · have e1 : ks.length = (ks.map fun x => strD x).length := by rw [List.length_map]
    have e2 : ls.length = (ls.map fun p => ((Sum.inr p.1 : Key), endsD K p.2)).length := by rw [List.length_map]
    exact ed_callP (α := Nat × Nat) (_, _) (ea_cons (ed_cb (ea_cons (ed_var rfl) ea_nil) (cd_len (by rw [← e1]; have := h.le; omega))) (ea_cons (ed_cb (ea_cons (ed_var rfl) ea_nil) cd_lenD) ea_nil)) ⟨by dsimp only; rw [← e1]; exact h.le, by dsimp only; rw [← e2]; exact h.lle⟩
  refine sb_seq (sb_fld (ed_cb (ea_cons (ed_cb (ea_cons (ed_var rfl) ea_nil) (cd_sortedS (by have := h.le; omega))) ea_nil) cd_tuple) (ed_var rfl) (c_Model T) (na_Model_own_kinds T) (by decide)) ?_
  have e3 : (srtL ls).map (fun p => ((Sum.inr p.1 : Key), endsD K p.2)) = (Srt.srt (ls.map (·.1))).map fun k => ((Sum.inr k : Key), endsD K (lk ls k)) := by
    unfold srtL
    rw [List.map_map]
    rfl
  refine sb_fld (B := sdD (srtL ls) (endsD K)) ?_ (ed_var rfl) (c_Model T) (na_Model_own_links T) (by show 1 < 1000; omega) ⟨rfl, .refl⟩
  refine ED.cast (ed_dc (xs := Srt.srt (ls.map (·.1))) (key := fun k => .inr k) (f := fun k => endsD K (lk ls k)) (ei_list (ed_cb (ea_cons (ed_var rfl) ea_nil) (cd_sortedD (keys_map _ _) (by rw [List.length_map]; have := h.lle; omega)))) (fun k _ => gd_name) (fun k _ => ed_var rfl) (fun k hk => dget_s (Srt.mem_srt.mp hk) (ed_var rfl) (ed_var rfl)) ?_ (by decide) (by rw [Srt.length_srt, List.length_map]; have := h.lle; omega)) (congrArg dkD e3.symm)
  exact nodup_inr ((Srt.srt_perm _).nodup_iff.mpr h.lnd)
abbrev r_Model_kinds (K : PySem.W.Frag) : List Den → Own → Own → Den → Prop := pu (fun m : MoA => True) (fun m => [modelD K m.1 m.2]) (fun m => lstD ((Srt.srt m.1).map fun x => strD x))
theorem ok_Model_kinds (T : Txt K mg) : FnOk P w K mg base CX0 1 (a_Model_kinds K) (fdOf K (a_Model_kinds K)) ["self"] (DefSp (r_Model_kinds K)) := by
  refine ow_ok (F_Model_kinds T) sc_Model_kinds (fun _ => rfl) fun cdv A outer s H E hr => ⟨_, PSs.nox (pss_one (ps_ret (pe_callTy (call_list_ofK (K := K)) (by rfl) (z_list T) boot_list (pa_cons (pe_fldK (K := K) (pv 0)) pa_nil)))), ?_⟩
  intro m _
  exact sb_ret (ed_cb (ea_cons (ed_fld (ed_var rfl) (c_Model T) (na_Model_own_kinds T) rfl) ea_nil) cd_listT)
abbrev r_Model_links (K : PySem.W.Frag) : List Den → Own → Own → Den → Prop := pu (fun m : MoA => okMo m.1 m.2) (fun m => [modelD K m.1 m.2]) (fun m => sdD (srtL m.2) (endsD K))
theorem ok_Model_links (T : Txt K mg) : FnOk P w K mg base CX0 1 (a_Model_links K) (fdOf K (a_Model_links K)) ["self"] (DefSp (r_Model_links K)) := by
  refine ow_ok (F_Model_links T) sc_Model_links (fun _ => rfl) fun cdv A outer s H E hr => ⟨_, PSs.nox (pss_one (ps_ret (pe_frz (pe_dc (own := [("link", 1)]) (by rfl) sc_Model_links.nd (pi_keys (pe_fldK (K := K) (pv 0))) (blkOk_by (N := n_Model_links) (sc := defScope s_Model_links) (by decide +kernel)) (fun _ _ _ _ _ => (pg_name (i := 1) sc_Model_links.nd rfl (Or.inl rfl))) (fun _ _ _ _ _ => pts_nil) (fun _ _ _ _ _ => (pv 1)) (fun _ _ _ _ _ => (pe_dget (rm1 hr) (pe_fldK (K := K) (pv 0)) (pv 1) (fun _ _ => rfl))))))), ?_⟩
  rintro ⟨ks, ls⟩ h
  dsimp only at h ⊢
  have hn : ((srtL ls).map (·.1)).Nodup := by rw [srtL_keys]; exact (Srt.srt_perm _).nodup_iff.mpr h.lnd
  refine sb_ret (R := dkD ((srtL ls).map fun p => (.inr p.1, endsD K p.2))) (ed_dc (xs := srtL ls) (key := fun p => .inr p.1) (f := fun p => endsD K p.2) (ei_keysS (ed_fld (ed_var rfl) (c_Model T) (na_Model_own_links T) rfl)) (fun k _ => gd_name) (fun k _ => ed_var rfl) (fun p hp => ?_) ?_ (by decide) (by unfold srtL; rw [List.length_map, Srt.length_srt, List.length_map]; have := h.lle; omega))
  · have e := lk_of hn (k := p.1) (v := p.2) hp
    have z := dget_s (Os := []) (f := endsD K) (ls := srtL ls) (k := p.1) (List.mem_map.mpr ⟨p, hp, rfl⟩) (ed_fld (Γ := [some (modelD K ks ls), some (strD p.1)]) (ed_var (i := 0) rfl) (c_Model T) (na_Model_own_links T) rfl) (ed_var (i := 1) rfl)
    rw [e] at z
    exact z
  · have e : (srtL ls).map (fun p => (Sum.inr p.1 : Key)) = ((srtL ls).map (·.1)).map Sum.inr := by rw [List.map_map]; rfl
    rw [e]
    exact nodup_inr hn
def kindAt (ls : List (Str × Ends4)) (k : Str) (e : Bool) : Str := if e then (lk ls k).2.2.1 else (lk ls k).1
def manyAt (ls : List (Str × Ends4)) (k : Str) (e : Bool) : Mny := if e then (lk ls k).2.2.2 else (lk ls k).2.1
structure AtA where
  mo : MoA
  k : Str
  e : Bool
def okAt (a : AtA) : Prop := okMo a.mo.1 a.mo.2 ∧ a.k ∈ a.mo.2.map (·.1)
abbrev r_Model_kind_at (K : PySem.W.Frag) : List Den → Own → Own → Den → Prop := pu okAt (fun a => [modelD K a.mo.1 a.mo.2, strD a.k, strD (endS a.e)]) (fun a => strD (kindAt a.mo.2 a.k a.e))
theorem ok_Model_kind_at (T : Txt K mg) : FnOk P w K mg base CX0 3 (a_Model_kind_at K) (fdOf K (a_Model_kind_at K)) ["self", "link", "end"] (DefSp (r_Model_kind_at K)) := by
  refine ow_ok (F_Model_kind_at T) sc_Model_kind_at (fun _ => rfl) fun cdv A outer s H E hr => ⟨_, PSs.nox (pss_cons (ps_expr (pe_call (ok_want_link T) (hr.mono (by decide)) rfl (g_want_link T) (F_want_link T).kp (b_want_link T) .nil pass0 (pa_cons (pv 0) (pa_cons (pv 1) pa_nil))))
  (pss_cons (ps_expr (pe_call (ok_want_end T) (hr.mono (by decide)) rfl (g_want_end T) (F_want_end T).kp (b_want_end T) .nil pass0 (pa_cons (pv 2) pa_nil)))
  (pss_one (ps_ret (pe_ix (ix_tupK (K := K)) (pe_dget (rm1 hr) (pe_fldK (K := K) (pv 0)) (pv 1) (fun _ _ => rfl)) (pe_ifExp (pt_cmpR op_eq (pv 2) (pe_glob rfl (gt_NEAR_models T) (rx_NEAR_models T)) (nomark _)) pe_int pe_int) (fun _ _ => rfl)))))), ?_⟩
  rintro ⟨⟨ks, ls⟩, k, e⟩ ⟨h1, h2⟩
  dsimp only at h1 h2 ⊢
  refine sb_seq (sb_drop (ed_callP (α := MoA × Str) ((ks, ls), k) (ea_cons (ed_var rfl) (ea_cons (ed_var rfl) ea_nil)) ⟨h2, h1.lnm⟩)) ?_
  refine sb_seq (sb_drop (ed_callP (α := Bool) e (ea_cons (ed_var rfl) ea_nil) trivial)) ?_
  have z := dget_s (Os := []) (f := endsD K) (ls := srtL ls) (k := k) (mem_srtL.mpr h2) (ed_fld (Γ := [some (modelD K ks ls), some (strD k), some (strD (endS e))]) (ed_var (i := 0) rfl) (c_Model T) (na_Model_own_links T) rfl) (ed_var (i := 1) rfl)
  rw [srtL_lk h1.lnd h2] at z
  cases e with
  | false => exact sb_ret (ed_op z (ed_if (b := true) (et_test (ed_op (ed_var rfl) ed_c od_eqS)) (fun _ => ed_c) fun z => nomatch z) (od_ixT (i := 0) rfl))
  | true => exact sb_ret (ed_op z (ed_if (b := false) (et_test (ed_op (ed_var rfl) ed_c od_eqS)) (fun z => nomatch z) fun _ => ed_c) (od_ixT (i := 2) rfl))
abbrev r_Model_many_at (K : PySem.W.Frag) : List Den → Own → Own → Den → Prop := pu okAt (fun a => [modelD K a.mo.1 a.mo.2, strD a.k, strD (endS a.e)]) (fun a => manyD K (manyAt a.mo.2 a.k a.e))
theorem ok_Model_many_at (T : Txt K mg) : FnOk P w K mg base CX0 3 (a_Model_many_at K) (fdOf K (a_Model_many_at K)) ["self", "link", "end"] (DefSp (r_Model_many_at K)) := by
  refine ow_ok (F_Model_many_at T) sc_Model_many_at (fun _ => rfl) fun cdv A outer s H E hr => ⟨_, PSs.nox (pss_cons (ps_expr (pe_call (ok_want_link T) (hr.mono (by decide)) rfl (g_want_link T) (F_want_link T).kp (b_want_link T) .nil pass0 (pa_cons (pv 0) (pa_cons (pv 1) pa_nil))))
  (pss_cons (ps_expr (pe_call (ok_want_end T) (hr.mono (by decide)) rfl (g_want_end T) (F_want_end T).kp (b_want_end T) .nil pass0 (pa_cons (pv 2) pa_nil)))
  (pss_one (ps_ret (pe_ix (ix_tupK (K := K)) (pe_dget (rm1 hr) (pe_fldK (K := K) (pv 0)) (pv 1) (fun _ _ => rfl)) (pe_ifExp (pt_cmpR op_eq (pv 2) (pe_glob rfl (gt_NEAR_models T) (rx_NEAR_models T)) (nomark _)) pe_int pe_int) (fun _ _ => rfl)))))), ?_⟩
  rintro ⟨⟨ks, ls⟩, k, e⟩ ⟨h1, h2⟩
  dsimp only at h1 h2 ⊢
  refine sb_seq (sb_drop (ed_callP (α := MoA × Str) ((ks, ls), k) (ea_cons (ed_var rfl) (ea_cons (ed_var rfl) ea_nil)) ⟨h2, h1.lnm⟩)) ?_
  refine sb_seq (sb_drop (ed_callP (α := Bool) e (ea_cons (ed_var rfl) ea_nil) trivial)) ?_
  have z := dget_s (Os := []) (f := endsD K) (ls := srtL ls) (k := k) (mem_srtL.mpr h2) (ed_fld (Γ := [some (modelD K ks ls), some (strD k), some (strD (endS e))]) (ed_var (i := 0) rfl) (c_Model T) (na_Model_own_links T) rfl) (ed_var (i := 1) rfl)
  rw [srtL_lk h1.lnd h2] at z
  cases e with
  | false => exact sb_ret (ed_op z (ed_if (b := true) (et_test (ed_op (ed_var rfl) ed_c od_eqS)) (fun _ => ed_c) fun z => nomatch z) (od_ixT (i := 1) rfl))
  | true => exact sb_ret (ed_op z (ed_if (b := false) (et_test (ed_op (ed_var rfl) ed_c od_eqS)) (fun z => nomatch z) fun _ => ed_c) (od_ixT (i := 3) rfl))
end
end Pr
/-! Dat -/
/-! Nested data: its shape, its equality. -/
namespace Dn
open PySem PySem.Spec PyProof.Rows L2
theorem eqvAll_nil : PyData.eqvAll [] [] = true := by simp only [PyData.eqvAll]
theorem eqvAll_cons {a b : PyData} {xs ys : List PyData} : PyData.eqvAll (a :: xs) (b :: ys) = (PyData.eqv a b && PyData.eqvAll xs ys) := by simp only [PyData.eqvAll]
theorem eqvAll_l {b : PyData} {ys : List PyData} : PyData.eqvAll [] (b :: ys) = false := by simp only [PyData.eqvAll]
theorem eqvAll_r {b : PyData} {ys : List PyData} : PyData.eqvAll (b :: ys) [] = false := by simp only [PyData.eqvAll]
theorem eqv_list {xs ys : List PyData} : PyData.eqv (.list xs) (.list ys) = PyData.eqvAll xs ys := by simp only [PyData.eqv]
theorem eqv_tup {xs ys : List PyData} : PyData.eqv (.tuple xs) (.tuple ys) = PyData.eqvAll xs ys := by simp only [PyData.eqv]
theorem eqv_str {x y : Str} : PyData.eqv (.str x) (.str y) = decide (x = y) := by
  have e : PyData.eqv (.str x) (.str y) = (x == y) := by simp only [PyData.eqv]
  rw [e]
  by_cases h : x = y
  · subst h; simp
  · rw [decide_eq_false h, beq_eq_false_iff_ne.mpr h]
theorem eqv_bl {x y : Bool} : PyData.eqv (.bool x) (.bool y) = decide (x = y) := by
  have e : PyData.eqv (.bool x) (.bool y) = (x == y) := by simp only [PyData.eqv]
  rw [e]
  cases x <;> cases y <;> rfl
/-- told apart by == -/
def Inj {α : Type} [DecidableEq α] (f : α → PyData) : Prop := ∀ a b, PyData.eqv (f a) (f b) = decide (a = b)
theorem inj_str : Inj PyData.str := fun _ _ => eqv_str
theorem inj_bl : Inj PyData.bool := fun _ _ => eqv_bl
theorem inj_all {α : Type} [DecidableEq α] {f : α → PyData} (h : Inj f) : ∀ xs ys : List α, PyData.eqvAll (xs.map f) (ys.map f) = decide (xs = ys)
  | [], [] => eqvAll_nil
  | [], _ :: _ => by rw [List.map_nil, List.map_cons, eqvAll_l]; rfl
  | _ :: _, [] => by rw [List.map_nil, List.map_cons, eqvAll_r]; rfl
  | x :: xs, y :: ys => by
    rw [List.map_cons, List.map_cons, eqvAll_cons, h x y, inj_all h xs ys]
    by_cases e : x = y
    · subst e; simp
    · simp [e]
theorem inj_list {α : Type} [DecidableEq α] {f : α → PyData} (h : Inj f) : Inj fun xs : List α => PyData.list (xs.map f) := fun xs ys => by rw [eqv_list, inj_all h]
theorem inj_tup {α : Type} [DecidableEq α] {f : α → PyData} (h : Inj f) : Inj fun xs : List α => PyData.tuple (xs.map f) := fun xs ys => by rw [eqv_tup, inj_all h]
theorem inj_pair {α β : Type} [DecidableEq α] [DecidableEq β] {f : α → PyData} {g : β → PyData} (hf : Inj f) (hg : Inj g) : Inj fun p : α × β => PyData.tuple [f p.1, g p.2] := fun p q => by
  rw [eqv_tup, eqvAll_cons, eqvAll_cons, eqvAll_nil, hf, hg]
  obtain ⟨a, b⟩ := p
  obtain ⟨c, d⟩ := q
  by_cases e : a = c
  · by_cases e' : b = d
    · subst e e'; simp
    · simp [e']
  · simp [e]
theorem any_inj {α : Type} [DecidableEq α] {f : α → PyData} (h : Inj f) (x : α) : ∀ xs : List α, (xs.map f).any (fun z => PyData.eqv z (f x)) = decide (x ∈ xs)
  | [] => rfl
  | y :: ys => by
    rw [List.map_cons, List.any_cons, any_inj h x ys, h y x]
    by_cases e : y = x
    · subst e; simp
    · have e' : x ≠ y := fun z => e z.symm
      simp [e, e']
theorem any_injD {α : Type} [DecidableEq α] {f : α → PyData} (h : Inj f) (x : α) (xs : List α) [Decidable (x ∈ xs)] : (xs.map f).any (fun z => PyData.eqv z (f x)) = decide (x ∈ xs) := (any_inj h x xs).trans (decide_eq_decide.mpr Iff.rfl)
/-! ### shape -/
def Sh (n : Nat) (d : PyData) : Prop := d.canLay0 = true ∧ d.depth ≤ n
theorem Sh.ok {n : Nat} {d : PyData} (h : Sh n d) (hn : n ≤ 64 := by decide) : SeqAt.shaped d = true := by
  unfold SeqAt.shaped
  rw [h.1, decide_eq_true (Nat.le_trans h.2 hn)]
  rfl
theorem sh_all {n : Nat} : ∀ {xs : List PyData}, (∀ x, x ∈ xs → Sh n x) → PyData.canLayAll0 xs = true ∧ PyData.depthAll xs ≤ n
  | [], _ => ⟨by simp only [PyData.canLayAll0], by simp only [PyData.depthAll]; omega⟩
  | x :: xs, h => by
    obtain ⟨h1, h2⟩ := h x List.mem_cons_self
    obtain ⟨h3, h4⟩ := sh_all (xs := xs) fun y hy => h y (List.mem_cons_of_mem _ hy)
    refine ⟨by simp only [PyData.canLayAll0]; rw [h1, h3]; rfl, by simp only [PyData.depthAll]; omega⟩
theorem sh_list {n : Nat} {xs : List PyData} (h : ∀ x, x ∈ xs → Sh n x) : Sh (n + 1) (.list xs) := by
  obtain ⟨h1, h2⟩ := sh_all h
  exact ⟨by simp only [PyData.canLay0]; exact h1, by simp only [PyData.depth]; omega⟩
theorem sh_tup {n : Nat} {xs : List PyData} (h : ∀ x, x ∈ xs → Sh n x) : Sh (n + 1) (.tuple xs) := by
  obtain ⟨h1, h2⟩ := sh_all h
  exact ⟨by simp only [PyData.canLay0]; exact h1, by simp only [PyData.depth]; omega⟩
theorem sh_str {n : Nat} {z : Str} (h : PyData.strOk z = true) : Sh n (.str z) := ⟨by simp only [PyData.canLay0]; exact h, by simp only [PyData.depth]; omega⟩
theorem sh_bl {n : Nat} {z : Bool} : Sh n (.bool z) := ⟨by simp only [PyData.canLay0], by simp only [PyData.depth]; omega⟩
theorem sh_map {n : Nat} {α : Type} {f : α → PyData} {l : List α} (h : ∀ x, x ∈ l → Sh n (f x)) : ∀ y, y ∈ l.map f → Sh n y := fun y hy => by
  obtain ⟨x, hx, e⟩ := List.mem_map.mp hy
  rw [← e]
  exact h x hx
end Dn
/-! VC -/
namespace Pr
open PySem PySem.Spec PyProof.Rows L2 Dn Rb
theorem okN.ok {z : Str} (h : okN z) : PyData.strOk z = true := by
  unfold okN nameB at h
  rw [Bool.and_eq_true] at h
  unfold PyData.strOk
  rw [← Array.all_toList, List.all_eq_true]
  intro c hc
  have h1 := of_decide_eq_true (List.all_eq_true.mp h.2 c hc)
  have h2 : ∀ c ∈ letters, c < 0x110000 := by decide
  exact decide_eq_true (h2 c h1)
def srtG {β : Type} [Inhabited β] (ls : List (Str × β)) : List (Str × β) := (Srt.srt (ls.map (·.1))).map fun k => (k, lk ls k)
section
variable {β : Type} [Inhabited β]
theorem srtG_keys (ls : List (Str × β)) : (srtG ls).map (·.1) = Srt.srt (ls.map (·.1)) := by
  unfold srtG
  rw [List.map_map]
  exact List.map_id _
theorem srtG_nd {ls : List (Str × β)} (nd : (ls.map (·.1)).Nodup) : ((srtG ls).map (·.1)).Nodup := by
  rw [srtG_keys]
  exact (Srt.srt_perm _).nodup_iff.mpr nd
theorem srtG_lk {ls : List (Str × β)} (nd : (ls.map (·.1)).Nodup) {k : Str} (h : k ∈ ls.map (·.1)) : lk (srtG ls) k = lk ls k :=
  lk_of (srtG_nd nd) (List.mem_map.mpr ⟨k, Srt.mem_srt.mpr h, rfl⟩)
theorem mem_srtG {ls : List (Str × β)} {z : Str} : z ∈ (srtG ls).map (·.1) ↔ z ∈ ls.map (·.1) := by rw [srtG_keys, Srt.mem_srt]
theorem srtG_len (ls : List (Str × β)) : (srtG ls).length = ls.length := by
  unfold srtG
  rw [List.length_map, Srt.length_srt, List.length_map]
theorem srtG_mem {ls : List (Str × β)} {p : Str × β} (h : p ∈ srtG ls) : p ∈ ls := by
  obtain ⟨k, hk, e⟩ := List.mem_map.mp h
  rw [← e]
  exact lk_mem (Srt.mem_srt.mp hk)
theorem srtG_srtG {ls : List (Str × β)} (nd : (ls.map (·.1)).Nodup) : srtG (srtG ls) = srtG ls := by
  have e : srtG (srtG ls) = (Srt.srt ((srtG ls).map (·.1))).map fun k => (k, lk (srtG ls) k) := rfl
  rw [e, srtG_keys, Srt.srt_srt]
  refine List.map_congr_left fun k hk => ?_
  rw [srtG_lk nd (Srt.mem_srt.mp hk)]
/-- the dict made by the names in order -/
theorem srtG_dk (ls : List (Str × β)) (f : β → Den) : dkD ((Srt.srt (ls.map (·.1))).map fun k => ((Sum.inr k : Key), f (lk ls k))) = sdD (srtG ls) f := by
  refine congrArg dkD ?_
  unfold srtG
  rw [List.map_map]
  rfl
end
abbrev Cs := List (Str × Int)
structure okCs (cs : Cs) : Prop where
  ne : cs ≠ []
  le : cs.length ≤ 60
  nd : (cs.map (·.1)).Nodup
  nm : ∀ p, p ∈ cs → okN p.1
  nn : ∀ p, p ∈ cs → 0 ≤ p.2
theorem okCs.srt {cs : Cs} (h : okCs cs) : okCs (srtG cs) where
  ne := fun z => h.ne (List.length_eq_zero_iff.mp (by rw [← srtG_len, z]; rfl))
  le := by rw [srtG_len]; exact h.le
  nd := srtG_nd h.nd
  nm := fun p hp => h.nm p (srtG_mem hp)
  nn := fun p hp => h.nn p (srtG_mem hp)
abbrev csD (cs : Cs) : Den := sdD cs fun i => intD i
abbrev sizesD (K : PySem.W.Frag) (cs : Cs) : Den := insD (C_Sizes K) [("own_counts", csD (srtG cs))]
section
variable {P : Program} {w : World} {K : PySem.W.Frag} {mg : Str → Option Value} {base : Heap}
abbrev r_are_counts (K : PySem.W.Frag) : List Den → Own → Own → Den → Prop := pu okCs (fun cs => [csD cs]) (fun _ => blD true)
theorem ok_are_counts (T : Txt K mg) : FnOk P w K mg base CX0 3 (a_are_counts K) (fdOf K (a_are_counts K)) ["value"] (DefSp (r_are_counts K)) := by
  refine ow_ok (F_are_counts T) sc_are_counts (fun _ => rfl) fun cdv A outer s H E hr => ⟨_, PSs.nox (pss_cons (ps_if (PW.pt (pw_or (pt_not (pt_val (pe_callB (call_isiK' (K := K)) (by rfl) (z_isinstance T) boot_isinstance (pa_cons (pv 0) (pa_cons (pe_bltn (by rfl) (z_dict T) boot_dict (rty _)) pa_nil))))) (pw_or1 (pt_cmpR op_eq (pe_callB Rb.call_lenDR (by rfl) (z_len T) boot_len (pa_cons (pv 0) pa_nil)) pe_int (nomark _))))) (pss_one (ps_ret pe_bl)) pss_nil)
  (pss_one (ps_ret (pe_callB (cr_allK (K := K) rfl) (by rfl) (z_all T) boot_all (pa_cons (pe_lc (own := [("kind", 1)]) (by rfl) sc_are_counts.nd (pi_keys (pv 0)) (blkOk_by (N := n_are_counts) (sc := defScope s_are_counts) (by decide +kernel)) (fun _ _ _ _ _ => (pg_name (i := 1) sc_are_counts.nd rfl (Or.inl rfl))) (fun _ _ _ _ _ => pts_nil) (fun _ _ _ _ _ => (pe_and (pe_call (ok_is_name T) (hr.mono (by decide)) rfl (g_is_name T) (F_is_name T).kp (b_is_name T) .nil pass0 (pa_cons (pv 1) pa_nil)) (pe_one (pe_call (ok_is_count T) (hr.mono (by decide)) rfl (g_is_count T) (F_is_count T).kp (b_is_count T) .nil pass0 (pa_cons (pe_dget (rm1 hr) (pv 0) (pv 1) (fun _ _ => rfl)) pa_nil)))))) pa_nil))))), ?_⟩
  intro cs h
  have hl : (((cs.map fun p : Str × Int => ((Sum.inr p.1 : Key), Dn.intD p.2)).length : Nat) : Int) ≠ 0 := by
    rw [List.length_map]
    intro z
    have : cs.length = 0 := by omega
    exact h.ne (List.length_eq_zero_iff.mp this)
  refine sb_ifs (b := false) (et_or (a := false) (b := false) (et_not (a := true) (et_B (ed_cb (ea_cons (ed_var rfl) (ea_cons ed_c ea_nil)) (cd_isiB (b := true) ty_dk)))) fun _ => et_test (ed_ff (ed_op (ed_cb (ea_cons (ed_var rfl) ea_nil) cd_lenD) ed_c od_eqI) (decide_eq_false hl))) (fun z => nomatch z) fun _ => sb_skip ?_
  have hall : (cs.all fun _ => true) = true := List.all_eq_true.mpr fun _ _ => rfl
  refine sb_ret (ed_tt (ed_cb (ea_cons (ed_lc0 (f := fun p : Str × Int => blD true) (ei_keysS (ed_var rfl)) (fun p _ => gd_name) (fun p hp => ?_) (by decide) (by have := h.le; omega)) ea_nil) cd_allM) hall)
  have e := lk_of h.nd (k := p.1) (v := p.2) hp
  have z := dget_s (Os := []) (f := fun i => intD i) (ls := cs) (k := p.1) (List.mem_map.mpr ⟨p, hp, rfl⟩) (ed_var (Γ := [some (csD cs), some (strD p.1)]) (i := 0) rfl) (ed_var (i := 1) rfl)
  rw [e] at z
  exact ed_andV (a := true) (b := true) (ed_tt (ed_callP (α := Str ⊕ Den) (.inl p.1) (ea_cons (ed_var rfl) ea_nil) (h.nm p hp).pre) (h.nm p hp)) fun _ => ed_tt (ed_callP (α := Int) p.2 (ea_cons z ea_nil) trivial) (decide_eq_true (h.nn p hp))
theorem ed_srt {Γ : Dn.Ctx} {Os : Own} {cs : Cs} (h : okCs cs) {i j : Nat} (hi : Γ[i]? = some (some (csD cs))) (hj : (Γ.set j none)[i]? = some (some (csD cs))) (hjl : j < Γ.length) (ij : i ≠ j) : ED Os (tFrz (tDc (iList K (tCB (fun xs H Q => ∃ (a : Addr) (kvs : List (Key × V)) (ks : List Str), xs = [.ref a] ∧ Rd H a (.dK kvs) ∧ kvs.map (·.1) = ks.map Sum.inr ∧ ks.length < 64 ∧
    ∀ ys p, ys.Perm ks → sortedS ys = true → H p = none → Q (.ref p) (upd H p (.lst (ys.map V.str)))) (tCons (tVar i) tNil))) (gName j) tYes (tVar j) (tDGet (tVar i) (tVar j)) [j])) Γ (csD (srtG cs)) := by
  refine ED.cast (ed_dc (xs := Srt.srt (cs.map (·.1))) (key := fun k => .inr k) (f := fun k => intD (lk cs k)) (ei_list (ed_cb (ea_cons (ed_var hi) ea_nil) (cd_sortedD (keys_map _ _) (by rw [List.length_map]; have := h.le; omega)))) (fun k _ => gd_name) (fun k _ => ed_var ?_) (fun k hk => dget_s (f := fun i => intD i) (Srt.mem_srt.mp hk) (ed_var ?_) (ed_var ?_)) (nodup_inr ((Srt.srt_perm _).nodup_iff.mpr h.nd)) (by simp) (by rw [Srt.length_srt, List.length_map]; have := h.le; omega)) (srtG_dk cs fun i => intD i)
  · show ((Γ.set j none).set j (some (strD k)))[j]? = _
    rw [List.set_set, List.getElem?_set_self hjl]
    rfl
  · show ((Γ.set j none).set j (some (strD k)))[i]? = _
    rw [List.getElem?_set_ne (Ne.symm ij)]
    exact hj
  · show ((Γ.set j none).set j (some (strD k)))[j]? = _
    rw [List.set_set, List.getElem?_set_self hjl]
abbrev r_Sizes_init (K : PySem.W.Frag) : List Den → Own → Own → Den → Prop := ow (fun p : Addr × Cs => okCs p.2) (fun p => [valD (.ref p.1), csD p.2]) (fun p => [(p.1, insO (C_Sizes K) [])]) (fun p => [(p.1, insO (C_Sizes K) [("own_counts", csD (srtG p.2))])]) (fun _ => nonD)
theorem ok_Sizes_init (T : Txt K mg) : FnOk P w K mg base CX0 4 (a_Sizes_init K) (fdOf K (a_Sizes_init K)) ["self", "counts"] (DefSp (r_Sizes_init K)) := by
  refine ow_ok (F_Sizes_init T) sc_Sizes_init (fun _ => rfl) fun cdv A outer s H E hr => ⟨_, PSs.nox (pss_cons (ps_if (pt_not (pt_val (pe_call (ok_are_counts T) (hr.mono (by decide)) rfl (g_are_counts T) (F_are_counts T).kp (b_are_counts T) .nil pass0 (pa_cons (pv 1) pa_nil)))) (pss_one ps_never) pss_nil)
  (pss_one (ps_fld (pv 0) (pe_frz (pe_dc (own := [("kind", 2)]) (by rfl) sc_Sizes_init.nd (pi_listK (K := K) (pe_callB (call_sortedD rfl) (by rfl) (z_sorted T) boot_sorted (pa_cons (pv 1) pa_nil))) (blkOk_by (N := n_Sizes_init) (sc := defScope s_Sizes_init) (by decide +kernel)) (fun _ _ _ _ _ => (pg_name (i := 2) sc_Sizes_init.nd rfl (Or.inl rfl))) (fun _ _ _ _ _ => pts_nil) (fun _ _ _ _ _ => (pv 2)) (fun _ _ _ _ _ => (pe_dget (rm1 hr) (pv 1) (pv 2) (fun _ _ => rfl))))) rfl))), ?_⟩
  rintro ⟨x, cs⟩ h
  dsimp only at h ⊢
  refine sb_ifs (b := false) (et_not (a := true) (et_B (ed_callP (α := Cs) cs (ea_cons (ed_var rfl) ea_nil) h))) (fun z => nomatch z) fun _ => sb_skip ?_
  exact sb_fld (ed_srt (i := 1) (j := 2) h rfl rfl (by show 2 < 3; omega) (by decide)) (ed_var rfl) (c_Sizes T) (na_Sizes_own_counts T) (by decide) ⟨rfl, .refl⟩
abbrev r_Sizes_counts (K : PySem.W.Frag) : List Den → Own → Own → Den → Prop := pu (fun _ : Cs => True) (fun cs => [sizesD K cs]) (fun cs => csD (srtG cs))
theorem ok_Sizes_counts (T : Txt K mg) : FnOk P w K mg base CX0 1 (a_Sizes_counts K) (fdOf K (a_Sizes_counts K)) ["self"] (DefSp (r_Sizes_counts K)) := by
  refine ow_ok (F_Sizes_counts T) sc_Sizes_counts (fun _ => rfl) fun cdv A outer s H E hr => ⟨_, PSs.nox (pss_one (ps_ret (pe_frz (pe_callTy call_dictD (by rfl) (z_dict T) boot_dict (pa_cons (pe_fldK (K := K) (pv 0)) pa_nil))))), ?_⟩
  intro cs _
  exact sb_ret (ed_dictD (ea_cons (ed_fld (ed_var rfl) (c_Sizes T) (na_Sizes_own_counts T) rfl) ea_nil))
abbrev r_Sizes_contains (K : PySem.W.Frag) : List Den → Own → Own → Den → Prop := pu (fun _ : Cs × Str => True) (fun p => [sizesD K p.1, strD p.2]) (fun p => blD (decide (p.2 ∈ p.1.map (·.1))))
theorem ok_Sizes_contains (T : Txt K mg) : FnOk P w K mg base CX0 1 (a_Sizes_contains K) (fdOf K (a_Sizes_contains K)) ["self", "value"] (DefSp (r_Sizes_contains K)) := by
  refine ow_ok (F_Sizes_contains T) sc_Sizes_contains (fun _ => rfl) fun cdv A outer s H E hr => ⟨_, PSs.nox (pss_one (ps_ret (pe_and (pe_callB (call_isiK' (K := K)) (by rfl) (z_isinstance T) boot_isinstance (pa_cons (pv 1) (pa_cons (pe_bltn (by rfl) (z_str T) boot_str (rty _)) pa_nil))) (pe_one (pe_cmp (pc_din (rm1 hr) (pv 1) (pe_fldK (K := K) (pv 0)))))))), ?_⟩
  rintro ⟨cs, z⟩ _
  refine sb_ret (ed_andV (a := true) (b := decide (z ∈ (srtG cs).map (·.1))) (ed_cb (ea_cons (ed_var rfl) (ea_cons ed_c ea_nil)) (cd_isiB (b := true) ty_str)) fun _ => din_s (ed_var rfl) (ed_fld (ed_var rfl) (c_Sizes T) (na_Sizes_own_counts T) rfl)) ⟨rfl, ?_⟩
  have e : decide (z ∈ (srtG cs).map (·.1)) = decide (z ∈ cs.map (·.1)) := decide_eq_decide.mpr mem_srtG
  rw [e]
  exact .refl
abbrev r_Sizes_getitem (K : PySem.W.Frag) : List Den → Own → Own → Den → Prop := pu (fun p : Cs × Str => (p.1.map (·.1)).Nodup ∧ p.2 ∈ p.1.map (·.1)) (fun p => [sizesD K p.1, strD p.2]) (fun p => intD (lk p.1 p.2))
theorem ok_Sizes_getitem (T : Txt K mg) : FnOk P w K mg base CX0 2 (a_Sizes_getitem K) (fdOf K (a_Sizes_getitem K)) ["self", "kind"] (DefSp (r_Sizes_getitem K)) := by
  refine ow_ok (F_Sizes_getitem T) sc_Sizes_getitem (fun _ => rfl) fun cdv A outer s H E hr => ⟨_, PSs.nox (pss_cons (ps_if (pt_cmpR (op_ownNi (oo_Sizes_contains T) (ok_Sizes_contains T) (hr.mono (by decide)) (b_Sizes_contains T)) (pv 1) (pv 0) (by rfl)) (pss_one ps_never) pss_nil)
  (pss_one (ps_ret (pe_dget (rm1 hr) (pe_fldK (K := K) (pv 0)) (pv 1) (fun _ _ => rfl))))), ?_⟩
  rintro ⟨cs, z⟩ ⟨h0, h⟩
  dsimp only at h0 h ⊢
  refine sb_ifs (b := false) (et_test (ed_ff (ed_op (ed_var rfl) (ed_var rfl) (od_ownNi (α := Cs × Str) (cs, z) trivial)) (by rw [decide_eq_true h]; rfl))) (fun z => nomatch z) fun _ => sb_skip ?_
  have e := dget_s (Os := []) (f := fun i => intD i) (ls := srtG cs) (k := z) (mem_srtG.mpr h) (ed_fld (Γ := [some (sizesD K cs), some (strD z)]) (ed_var (i := 0) rfl) (c_Sizes T) (na_Sizes_own_counts T) rfl) (ed_var (i := 1) rfl)
  rw [srtG_lk h0 h] at e
  exact sb_ret e
/-- counts as a dict, or as Sizes -/
def csA (K : PySem.W.Frag) (cs : Cs) : Bool → Den
  | false => csD cs
  | true => sizesD K cs
theorem strs_eqD {xs ys : List Str} (hx : ∀ z, z ∈ xs → okN z) (hy : ∀ z, z ∈ ys → okN z) : OD (rNeD K) (lstD (xs.map fun x => strD x)) (lstD (ys.map fun x => strD x)) (blD (!decide (xs = ys))) := by
  have z := od_neD (K := K) (dat_lst (dat_map (fun _ => dat_str) xs)) (dat_lst (dat_map (fun _ => dat_str) ys)) (Sh.ok (n := 1) (sh_list (sh_map fun x h => sh_str (hx x h).ok))) (Sh.ok (n := 1) (sh_list (sh_map fun x h => sh_str (hy x h).ok)))
  rw [inj_list inj_str] at z
  exact z
structure CcA where
  mo : MoA
  cs : Cs
  b : Bool
def okCc (a : CcA) : Prop := okMo a.mo.1 a.mo.2 ∧ okCs a.cs ∧ Srt.srt (a.cs.map (·.1)) = Srt.srt a.mo.1
abbrev r_checked_counts (K : PySem.W.Frag) : List Den → Own → Own → Den → Prop := pu okCc (fun a => [modelD K a.mo.1 a.mo.2, csA K a.cs a.b]) (fun a => csD (srtG a.cs))
theorem ok_checked_counts (T : Txt K mg) : FnOk P w K mg base CX0 4 (a_checked_counts K) (fdOf K (a_checked_counts K)) ["model", "value"] (DefSp (r_checked_counts K)) := by
  refine ow_ok (F_checked_counts T) sc_checked_counts (fun _ => rfl) fun cdv A outer s H E hr => ⟨_, PSs.nox (pss_cons (ps_set (i := 2) sc_checked_counts.nd rfl (Or.inr rfl) (pe_ifExp (pt_val (pe_callB (call_isiK' (K := K)) (by rfl) (z_isinstance T) boot_isinstance (pa_cons (pv 1) (pa_cons (pe_glob rfl (g_Sizes T) (rref _)) pa_nil)))) (pe_meth0 (pv 1) (c_Sizes T) (m_Sizes_counts T) (ok_Sizes_counts T) (hr.mono (by decide)) (b_Sizes_counts T) .nil pass0) (pv 1)))
  (pss_cons (ps_if (PW.pt (pw_or (pt_not (pt_val (pe_call (ok_are_counts T) (hr.mono (by decide)) rfl (g_are_counts T) (F_are_counts T).kp (b_are_counts T) .nil pass0 (pa_cons (pv 2) pa_nil)))) (pw_or1 (pt_cmpR (op_neDK (K := K) (rm64 hr)) (pe_callB (call_sortedD rfl) (by rfl) (z_sorted T) boot_sorted (pa_cons (pv 2) pa_nil)) (pe_meth0 (pv 0) (c_Model T) (m_Model_kinds T) (ok_Model_kinds T) (hr.mono (by decide)) (b_Model_kinds T) .nil pass0) (nomark _))))) (pss_one ps_never) pss_nil)
  (pss_one (ps_ret (pe_frz (pe_dc (own := [("kind", 3)]) (by rfl) sc_checked_counts.nd (pi_listK (K := K) (pe_callB (call_sortedD rfl) (by rfl) (z_sorted T) boot_sorted (pa_cons (pv 2) pa_nil))) (blkOk_by (N := n_checked_counts) (sc := defScope s_checked_counts) (by decide +kernel)) (fun _ _ _ _ _ => (pg_name (i := 3) sc_checked_counts.nd rfl (Or.inl rfl))) (fun _ _ _ _ _ => pts_nil) (fun _ _ _ _ _ => (pv 3)) (fun _ _ _ _ _ => (pe_dget (rm1 hr) (pv 2) (pv 3) (fun _ _ => rfl))))))))), ?_⟩
  rintro ⟨⟨ks, ls⟩, cs, b⟩ ⟨h1, h2, h3⟩
  dsimp only at h1 h2 h3 ⊢
  obtain ⟨cs', ec, h4, h5⟩ : ∃ cs', (cs' = match b with | false => cs | true => srtG cs) ∧ okCs cs' ∧ srtG cs' = srtG cs := by
    cases b with
    | false => exact ⟨cs, rfl, h2, rfl⟩
    | true => exact ⟨srtG cs, rfl, h2.srt, srtG_srtG h2.nd⟩
  have ek : Srt.srt (cs'.map (·.1)) = Srt.srt ks := by rw [← srtG_keys, h5, srtG_keys, h3]
  refine sb_seq (Os1 := []) (Γ1 := [some (modelD K ks ls), some (csA K cs b), some (csD cs'), none]) ?_ ?_
  · cases b with
    | false =>
      have ec' : cs' = cs := ec
      subst ec'
      exact sb_asg (ed_if (b := false) (et_B (ed_cb (ea_cons (ed_var (R := csD cs') rfl) (ea_cons ed_c ea_nil)) (cd_isi ty_dk (.own _) (kit_dict T)))) (fun z => nomatch z) fun _ => ed_var rfl)
    | true =>
      have ec' : cs' = srtG cs := ec
      subst ec'
      exact sb_asg (ed_if (b := true) (et_B (ed_cb (ea_cons (ed_var (R := sizesD K cs) rfl) (ea_cons ed_c ea_nil)) (cd_isi (ty_ins (c_Sizes T) (isi_Sizes T)) (.own _) (isi_Sizes T).kit))) (fun _ => ed_methP (α := Cs) cs (ed_var rfl) ea_nil trivial) fun z => nomatch z)
  refine sb_ifs (b := false) (et_or (a := false) (b := false) (et_not (a := true) (et_B (ed_callP (α := Cs) cs' (ea_cons (ed_var rfl) ea_nil) h4))) fun _ => et_test (ed_ff (ed_op (ed_cb (ea_cons (ed_var rfl) ea_nil) (cd_sortedD (keys_map cs' _) (by rw [List.length_map]; have := h4.le; omega))) (ed_methP (α := MoA) (ks, ls) (ed_var rfl) ea_nil trivial) (strs_eqD (fun z hz => ?_) (fun z hz => h1.nm z (Srt.mem_srt.mp hz)))) (by rw [ek, decide_eq_true rfl]; rfl))) (fun z => nomatch z) fun _ => sb_skip ?_
  · obtain ⟨p, hp, e⟩ := List.mem_map.mp (Srt.mem_srt.mp hz)
    rw [← e]
    exact h4.nm p hp
  · have z := ed_srt (K := K) (Os := []) (Γ := [some (modelD K ks ls), some (csA K cs b), some (csD cs'), none]) h4 (i := 2) (j := 3) rfl rfl (by show 3 < 4; omega) (by decide)
    rw [h5] at z
    exact sb_ret z
abbrev r_sizes_for (K : PySem.W.Frag) : List Den → Own → Own → Den → Prop := pu okCc (fun a => [modelD K a.mo.1 a.mo.2, csA K a.cs a.b]) (fun a => sizesD K a.cs)
theorem ok_sizes_for (T : Txt K mg) : FnOk P w K mg base CX0 6 (a_sizes_for K) (fdOf K (a_sizes_for K)) ["model", "value"] (DefSp (r_sizes_for K)) := by
  refine ow_ok (F_sizes_for T) sc_sizes_for (fun _ => rfl) fun cdv A outer s H E hr => ⟨_, PSs.nox (pss_one (ps_ret (pe_make (mk_Sizes T) (ok_Sizes_init T) (hr.mono (by decide)) rfl (g_Sizes T) (b_Sizes_init T) .nil pass0 (pa_cons (pe_call (ok_checked_counts T) (hr.mono (by decide)) rfl (g_checked_counts T) (F_checked_counts T).kp (b_checked_counts T) .nil pass0 (pa_cons (pv 0) (pa_cons (pv 1) pa_nil))) pa_nil)))), ?_⟩
  rintro ⟨⟨ks, ls⟩, cs, b⟩ h
  refine sb_ret (R := sizesD K cs) ?_
  have e : sizesD K cs = insD (C_Sizes K) [("own_counts", csD (srtG (srtG cs)))] := by
    unfold sizesD
    rw [srtG_srtG h.2.1.nd]
  rw [e]
  exact ed_make (ea_cons (ed_callP (α := CcA) ⟨(ks, ls), cs, b⟩ (ea_cons (ed_var rfl) (ea_cons (ed_var rfl) ea_nil)) h) ea_nil) fun x => ⟨(x, srtG cs), h.2.1.srt, rfl, rfl, rfl, rfl⟩
end
end Pr
/-! VD -/
namespace Pr
open PySem PySem.Spec PyProof.Rows L2 Dn Rb
abbrev Pr2 := Str × Str
abbrev prD (p : Pr2) : Den := tupD [strD p.1, strD p.2]
abbrev prsD (l : List Pr2) : Den := lstD (l.map fun p => prD p)
def prP (p : Pr2) : PyData := .tuple [.str p.1, .str p.2]
theorem prP_inj : Inj prP := inj_pair (f := PyData.str) (g := PyData.str) inj_str inj_str
theorem dat_pr {K : PySem.W.Frag} (p : Pr2) : Dat K (prD p) (prP p) := dat_tup (.cons dat_str (.cons dat_str .nil))
theorem sh_pr {p : Pr2} (h1 : okN p.1) (h2 : okN p.2) : Sh 1 (prP p) := sh_tup fun x hx => by
  rcases List.mem_cons.mp hx with e | e
  · rw [e]; exact sh_str h1.ok
  · rw [List.mem_singleton.mp e]; exact sh_str h2.ok
theorem od_inPr {K : PySem.W.Frag} {p : Pr2} {l : List Pr2} (h1 : okN p.1 ∧ okN p.2) (h2 : ∀ q, q ∈ l → okN q.1 ∧ okN q.2) : OD (rInD K) (prD p) (prsD l) (blD (decide (p ∈ l))) := by
  have z := od_inD (K := K) (dat_pr p) (dat_lst (dat_map dat_pr l)) (Sh.ok (n := 1) (sh_pr h1.1 h1.2)) (Sh.ok (n := 2) (sh_list (sh_map fun x h => sh_pr (h2 x h).1 (h2 x h).2)))
  rw [any_injD prP_inj] at z
  exact z
theorem od_notInPr {K : PySem.W.Frag} {p : Pr2} {l : List Pr2} (h1 : okN p.1 ∧ okN p.2) (h2 : ∀ q, q ∈ l → okN q.1 ∧ okN q.2) : OD (rNotInD K) (prD p) (prsD l) (blD (!decide (p ∈ l))) := by
  have z := od_notInD (K := K) (dat_pr p) (dat_lst (dat_map dat_pr l)) (Sh.ok (n := 1) (sh_pr h1.1 h1.2)) (Sh.ok (n := 2) (sh_list (sh_map fun x h => sh_pr (h2 x h).1 (h2 x h).2)))
  rw [any_injD prP_inj] at z
  exact z
def namesOf (rows : List Pr2) (k : Str) : List Str := (rows.filter fun p => decide (p.1 = k)).map (·.2)
theorem mem_namesOf {rows : List Pr2} {k n : Str} : n ∈ namesOf rows k ↔ (k, n) ∈ rows := by
  unfold namesOf
  rw [List.mem_map]
  constructor
  · rintro ⟨p, hp, e⟩
    obtain ⟨h1, h2⟩ := List.mem_filter.mp hp
    have := of_decide_eq_true h2
    obtain ⟨a, b⟩ := p
    dsimp at e this
    subst e this
    exact h1
  · intro h
    exact ⟨(k, n), List.mem_filter.mpr ⟨h, by simp⟩, rfl⟩
structure ToA where
  mo : MoA
  rows : List Pr2
  prs : List (Str × List Pr2)
  ws : Cs
structure okTo (t : ToA) : Prop where
  mo : okMo t.mo.1 t.mo.2
  rnd : t.rows.Nodup
  rle : t.rows.length ≤ 60
  rnm : ∀ p, p ∈ t.rows → p.1 ∈ t.mo.1 ∧ okN p.2
  keys : t.prs.map (·.1) = Srt.srt (t.mo.2.map (·.1))
  pnd : ∀ q, q ∈ t.prs → q.2.Nodup ∧ q.2.length ≤ 40
  pin : ∀ q, q ∈ t.prs → ∀ p, p ∈ q.2 → p.1 ∈ namesOf t.rows (kindAt t.mo.2 q.1 false) ∧ p.2 ∈ namesOf t.rows (kindAt t.mo.2 q.1 true)
theorem okTo.kn {t : ToA} (h : okTo t) (p : Pr2) (hp : p ∈ t.rows) : okN p.1 ∧ okN p.2 := ⟨h.mo.nm _ (h.rnm p hp).1, (h.rnm p hp).2⟩
theorem okTo.name {t : ToA} (h : okTo t) {k n : Str} (hn : n ∈ namesOf t.rows k) : okN n := (h.kn _ (mem_namesOf.mp hn)).2
theorem okTo.pn {t : ToA} (h : okTo t) {q : Str × List Pr2} (hq : q ∈ t.prs) {p : Pr2} (hp : p ∈ q.2) : okN p.1 ∧ okN p.2 := ⟨h.name (h.pin q hq p hp).1, h.name (h.pin q hq p hp).2⟩
abbrev toldF (K : PySem.W.Frag) (t : ToA) : List (Str × Den) := [("own_model", modelD K t.mo.1 t.mo.2), ("own_rows", prsD t.rows), ("own_pairs", sdD t.prs fun l => prsD l), ("own_wishes", sizesD K t.ws)]
abbrev toldD (K : PySem.W.Frag) (t : ToA) : Den := insD (C_Told K) (toldF K t)
abbrev toldO (K : PySem.W.Frag) (t : ToA) : Ow := insO (C_Told K) (toldF K t)
theorem free_lst {a C : Addr} {fs : List (Str × Den)} {vs : List V} : Free a (insO C fs) (lstD (vs.map fun v => valD v)) := fun H o v e ⟨_, dx, us, eo, _⟩ ⟨l, ws, ev, hl, hf⟩ => by
  subst eo
  refine ⟨l, ws, ev, ?_, ?_⟩
  · rw [er_ne fun z => by rw [z, e] at hl; cases hl]; exact hl
  · rw [fits_map hf]
    exact Paired.mono' (fun _ _ h => h) (Fits.of_vals (H := er a H) (vs.map fun v => v)) |> fun z => by rw [List.map_map] at z; exact z
theorem free_strs {a C : Addr} {fs : List (Str × Den)} {xs : List Str} : Free a (insO C fs) (lstD (xs.map fun x => strD x)) := by
  have z := free_lst (a := a) (C := C) (fs := fs) (vs := xs.map V.str)
  rw [List.map_map] at z
  exact z
section
variable {P : Program} {w : World} {K : PySem.W.Frag} {mg : Str → Option Value} {base : Heap}
structure RowA where
  mo : MoA
  k : Str
  z : Str ⊕ Den
def okRow (K : PySem.W.Frag) (a : RowA) : Prop := okMo a.mo.1 a.mo.2 ∧ a.k.length ≤ 100 ∧ preN K a.z
abbrev r_is_row_of (K : PySem.W.Frag) : List Den → Own → Own → Den → Prop := pu (okRow K) (fun a => [modelD K a.mo.1 a.mo.2, tupD [strD a.k, argN a.z]]) (fun a => blD (decide (a.k ∈ a.mo.1) && resN a.z))
theorem ok_is_row_of (T : Txt K mg) : FnOk P w K mg base CX0 3 (a_is_row_of K) (fdOf K (a_is_row_of K)) ["model", "value"] (DefSp (r_is_row_of K)) := by
  refine ow_ok (F_is_row_of T) sc_is_row_of (fun _ => rfl) fun cdv A outer s H E hr => ⟨_, PSs.nox (pss_cons (ps_if (PW.pt (pw_or (pt_not (pt_val (pe_callB (call_isiK' (K := K)) (by rfl) (z_isinstance T) boot_isinstance (pa_cons (pv 1) (pa_cons (pe_bltn (by rfl) (z_tuple T) boot_tuple (rty _)) pa_nil))))) (pw_or (pt_cmpR op_ne (pe_callB (call_lenK (K := K)) (by rfl) (z_len T) boot_len (pa_cons (pv 1) pa_nil)) pe_int (nomark _)) (pw_or1 (pt_not (pt_val (pe_callB (call_isiK' (K := K)) (by rfl) (z_isinstance T) boot_isinstance (pa_cons (pe_ix (ix_tupK (K := K)) (pv 1) pe_int (fun _ _ => rfl)) (pa_cons (pe_bltn (by rfl) (z_str T) boot_str (rty _)) pa_nil))))))))) (pss_one (ps_ret pe_bl)) pss_nil)
  (pss_one (ps_ret (pe_and (pe_cmpR (op_ownIn (oo_Model_contains T) (ok_Model_contains T) (hr.mono (by decide)) (b_Model_contains T)) (pe_ix (ix_tupK (K := K)) (pv 1) pe_int (fun _ _ => rfl)) (pv 0) (by rfl)) (pe_one (pe_call (ok_is_name T) (hr.mono (by decide)) rfl (g_is_name T) (F_is_name T).kp (b_is_name T) .nil pass0 (pa_cons (pe_ix (ix_tupK (K := K)) (pv 1) pe_int (fun _ _ => rfl)) pa_nil))))))), ?_⟩
  rintro ⟨⟨ks, ls⟩, k, z⟩ ⟨h1, h2, h3⟩
  dsimp only at h1 h2 h3 ⊢
  refine sb_ifs (b := false) (et_or (a := false) (b := false) (et_not (a := true) (et_B (ed_cb (ea_cons (ed_var rfl) (ea_cons ed_c ea_nil)) (cd_isiB (b := true) ty_tup)))) fun _ => et_or (a := false) (b := false) (et_test (ed_op (ed_cb (ea_cons (ed_var rfl) ea_nil) cd_lenT) ed_c od_neI)) fun _ => et_not (a := true) (et_B (ed_cb (ea_cons (ed_op (ed_var rfl) ed_c (od_ixT (i := 0) rfl)) (ea_cons ed_c ea_nil)) (cd_isiB (b := true) ty_str)))) (fun z => nomatch z) fun _ => sb_skip ?_
  exact sb_ret (ed_andV (ed_op (ed_op (ed_var rfl) ed_c (od_ixT (i := 0) rfl)) (ed_var rfl) (od_ownIn (α := MoA × Str) ((ks, ls), k) ⟨h2, h1.nm⟩)) fun _ => ed_callP (α := Str ⊕ Den) z (ea_cons (ed_op (ed_var rfl) ed_c (od_ixT (i := 1) rfl)) ea_nil) h3)
abbrev r_Told_rows (K : PySem.W.Frag) : List Den → Own → Own → Den → Prop := pu (fun p : ToA × Str => okTo p.1 ∧ p.2 ∈ p.1.mo.1) (fun p => [toldD K p.1, strD p.2]) (fun p => lstD ((namesOf p.1.rows p.2).map fun x => strD x))
theorem ok_Told_rows (T : Txt K mg) : FnOk P w K mg base CX0 4 (a_Told_rows K) (fdOf K (a_Told_rows K)) ["self", "kind"] (DefSp (r_Told_rows K)) := by
  refine ow_ok (F_Told_rows T) sc_Told_rows (fun _ => rfl) fun cdv A outer s H E hr => ⟨_, PSs.nox (pss_cons (ps_expr (pe_call (ok_want_kind T) (hr.mono (by decide)) rfl (g_want_kind T) (F_want_kind T).kp (b_want_kind T) .nil pass0 (pa_cons (pe_fldK (K := K) (pv 0)) (pa_cons (pv 1) pa_nil))))
  (pss_one (ps_ret (pe_lc (own := [("other", 2), ("name", 3)]) (by rfl) sc_Told_rows.nd (pi_listK (K := K) (pe_fldK (K := K) (pv 0))) (blkOk_by (N := n_Told_rows) (sc := defScope s_Told_rows) (by decide +kernel)) (fun _ _ _ _ _ => (pg_tupK (K := K) (n := 2) rfl (pgs_cons (pg_name (i := 2) sc_Told_rows.nd rfl (Or.inl rfl)) (pgs_cons (pg_name (i := 3) sc_Told_rows.nd rfl (Or.inl rfl)) pgs_nil)))) (fun _ _ _ _ _ => (pts_one (pt_cmpR op_eq (pv 2) (pv 1) (nomark _)))) (fun _ _ _ _ _ => (pv 3)))))), ?_⟩
  rintro ⟨t, k⟩ ⟨h1, h2⟩
  dsimp only at h1 h2 ⊢
  refine sb_seq (sb_drop (ed_callP (α := MoA × Str) (t.mo, k) (ea_cons (ed_fld (ed_var rfl) (c_Told T) (na_Told_own_model T) rfl) (ea_cons (ed_var rfl) ea_nil)) ⟨h2, h1.mo.nm⟩)) ?_
  have e : (namesOf t.rows k).map (fun x => strD x) = (t.rows.filter fun p => decide (p.1 = k)).map fun p => strD p.2 := by unfold namesOf; rw [List.map_map]; rfl
  rw [e]
  exact sb_ret (ed_lc (ei_list (ed_fld (ed_var rfl) (c_Told T) (na_Told_own_rows T) rfl)) (fun p _ => gd_tup2 gd_name gd_name) (fun p _ => et_test (ed_op (ed_var rfl) (ed_var rfl) od_eqS)) (fun p _ _ => ed_var rfl) (by decide) (by have := h1.rle; omega))
structure HasA where
  t : ToA
  k : Str
  z : Str ⊕ Den
def inRows (rows : List Pr2) (k : Str) : Str ⊕ Den → Bool
  | .inl n => decide ((k, n) ∈ rows)
  | .inr _ => false
def hasB (a : HasA) : Bool := decide (a.k ∈ a.t.mo.1) && resN a.z && inRows a.t.rows a.k a.z
abbrev r_Told_contains (K : PySem.W.Frag) : List Den → Own → Own → Den → Prop := pu (fun a : HasA => okTo a.t ∧ a.k.length ≤ 100 ∧ preN K a.z) (fun a => [toldD K a.t, tupD [strD a.k, argN a.z]]) (fun a => blD (hasB a))
theorem ok_Told_contains (T : Txt K mg) : FnOk P w K mg base CX0 4 (a_Told_contains K) (fdOf K (a_Told_contains K)) ["self", "x"] (DefSp (r_Told_contains K)) := by
  refine ow_ok (F_Told_contains T) sc_Told_contains (fun _ => rfl) fun cdv A outer s H E hr => ⟨_, PSs.nox (pss_one (ps_ret (pe_and (pe_call (ok_is_row_of T) (hr.mono (by decide)) rfl (g_is_row_of T) (F_is_row_of T).kp (b_is_row_of T) .nil pass0 (pa_cons (pe_fldK (K := K) (pv 0)) (pa_cons (pv 1) pa_nil))) (pe_one (pe_cmpR (op_inDK (K := K) (rm65 hr)) (pv 1) (pe_fldK (K := K) (pv 0)) (by rfl)))))), ?_⟩
  rintro ⟨t, k, z⟩ ⟨h1, h2, h3⟩
  dsimp only at h1 h2 h3 ⊢
  refine sb_ret (ed_andV (a := decide (k ∈ t.mo.1) && resN z) (b := inRows t.rows k z) (ed_callP (α := RowA) ⟨t.mo, k, z⟩ (ea_cons (ed_fld (ed_var rfl) (c_Told T) (na_Told_own_model T) rfl) (ea_cons (ed_var rfl) ea_nil)) ⟨h1.mo, h2, h3⟩) fun h => ?_)
  rw [Bool.and_eq_true] at h
  cases z with
  | inr R => cases h.2
  | inl n => exact ed_op (ed_var rfl) (ed_fld (ed_var rfl) (c_Told T) (na_Told_own_rows T) rfl) (od_inPr (p := (k, n)) ⟨h1.mo.nm k (of_decide_eq_true h.1), h.2⟩ h1.kn)
structure WpA where
  l : List Pr2
  near : List Str
  far : List Str
structure okWp (a : WpA) : Prop where
  nd : a.l.Nodup
  le : a.l.length ≤ 1000
  nm : ∀ p, p ∈ a.l → okN p.1 ∧ okN p.2
  near : ∀ p, p ∈ a.l → p.1 ∈ a.near
  far : ∀ p, p ∈ a.l → p.2 ∈ a.far
abbrev r_wrong_pair (K : PySem.W.Frag) : List Den → Own → Own → Den → Prop := pu okWp (fun a => [prsD a.l, lstD (a.near.map fun x => strD x), lstD (a.far.map fun x => strD x)]) (fun _ => nonD)
theorem ok_wrong_pair (T : Txt K mg) : FnOk P w K mg base CX0 2 (a_wrong_pair K) (fdOf K (a_wrong_pair K)) ["pairs", "near", "far"] (DefSp (r_wrong_pair K)) := by
  refine ow_ok (F_wrong_pair T) sc_wrong_pair (fun _ => rfl) fun cdv A outer s H E hr => ⟨_, PSs.nox (pss_cons (ps_for PassesOwn.never rfl (pi_enumK (K := K) (by rfl) (z_enumerate T) (pa_cons (pv 0) pa_nil)) (pg_tupK (K := K) (n := 2) rfl (pgs_cons (pg_name (i := 3) sc_wrong_pair.nd rfl (Or.inl rfl)) (pgs_cons (pg_name (i := 4) sc_wrong_pair.nd rfl (Or.inl rfl)) pgs_nil)))
  (pss_cons (ps_if (PW.pt (pw_or (pt_not (pt_val (pe_callB (call_isiK' (K := K)) (by rfl) (z_isinstance T) boot_isinstance (pa_cons (pv 4) (pa_cons (pe_bltn (by rfl) (z_tuple T) boot_tuple (rty _)) pa_nil))))) (pw_or (pt_cmpR op_ne (pe_callB (call_lenK (K := K)) (by rfl) (z_len T) boot_len (pa_cons (pv 4) pa_nil)) pe_int (nomark _)) (pw_or1 (pt_cmpR (op_inDK (K := K) (rm65 hr)) (pv 4) (pe_slice (sl_listK (K := K)) (pv 0) po_none (po_some (pv 3))) (by rfl)))))) (pss_one (ps_ret (pv 3))) pss_nil)
  (pss_one (ps_if (PW.pt (pw_or (pt_not (pt_val (pe_call (ok_is_name T) (hr.mono (by decide)) rfl (g_is_name T) (F_is_name T).kp (b_is_name T) .nil pass0 (pa_cons (pe_ix (ix_tupK (K := K)) (pv 4) pe_int (fun _ _ => rfl)) pa_nil)))) (pw_or (pt_not (pt_val (pe_call (ok_is_name T) (hr.mono (by decide)) rfl (g_is_name T) (F_is_name T).kp (b_is_name T) .nil pass0 (pa_cons (pe_ix (ix_tupK (K := K)) (pv 4) pe_int (fun _ _ => rfl)) pa_nil)))) (pw_or (pt_cmpR (op_notIn_seqK (K := K)) (pe_ix (ix_tupK (K := K)) (pv 4) pe_int (fun _ _ => rfl)) (pv 1) (by rfl)) (pw_or1 (pt_cmpR (op_notIn_seqK (K := K)) (pe_ix (ix_tupK (K := K)) (pv 4) pe_int (fun _ _ => rfl)) (pv 2) (by rfl))))))) (pss_one (ps_ret (pv 3))) pss_nil))))
  (pss_one (ps_ret pe_non))), ?_⟩
  rintro ⟨l, near, far⟩ h
  refine sb_seq (Os1 := []) (Γ1 := [some (prsD l), some (lstD (near.map fun x => strD x)), some (lstD (far.map fun x => strD x)), none, none]) (sb_forS (ei_enumM (ea_cons (ed_var rfl) ea_nil)) .refl fun q hq => ?_) (sb_ret ed_c)
  have hg := mem_enum hq
  have hm := List.mem_of_getElem? hg
  obtain ⟨n1, n2⟩ := h.nm _ hm
  refine ⟨_, _, gd_tup2 gd_name gd_name, ?_⟩
  refine SB.less (Γ1 := [some (prsD l), some (lstD (near.map fun x => strD x)), some (lstD (far.map fun x => strD x)), some (intD (q.2 : Nat)), some (prD q.1)]) ?_ (.keep (.keep (.keep (.drop (.drop .nil)))))
  refine sb_ifs (b := false) (et_or (a := false) (b := false) (et_not (a := true) (et_B (ed_cb (ea_cons (ed_var rfl) (ea_cons ed_c ea_nil)) (cd_isiB (b := true) ty_tup)))) fun _ => et_or (a := false) (b := false) (et_test (ed_op (ed_cb (ea_cons (ed_var rfl) ea_nil) cd_lenT) ed_c od_neI)) fun _ => et_test (ed_ff (ed_op (ed_var rfl) (ed_slL (ed_var rfl) eo_no (eo_some (ed_var rfl))) (od_inPr (l := l.take q.2) ⟨n1, n2⟩ (fun p hp => h.nm p (List.mem_of_mem_take hp)) |> fun z => by rw [← List.map_take]; exact z)) (decide_eq_false ?_))) (fun z => nomatch z) fun _ => sb_skip ?_
  · intro m
    obtain ⟨j, hj⟩ := List.mem_iff_getElem?.mp m
    have hlt : j < q.2 := by
      have := (List.getElem?_eq_some_iff.mp hj).1
      rw [List.length_take] at this
      omega
    rw [List.getElem?_take_of_lt hlt] at hj
    have := (List.getElem?_inj (List.getElem?_eq_some_iff.mp hj).1 h.nd).mp (hj.trans hg.symm)
    omega
  · refine sb_if (b := false) (et_or (a := false) (b := false) (et_not (a := true) (et_B (ed_tt (ed_callP (α := Str ⊕ Den) (.inl q.1.1) (ea_cons (ed_op (ed_var rfl) ed_c (od_ixT (i := 0) rfl)) ea_nil) n1.pre) n1))) fun _ => et_or (a := false) (b := false) (et_not (a := true) (et_B (ed_tt (ed_callP (α := Str ⊕ Den) (.inl q.1.2) (ea_cons (ed_op (ed_var rfl) ed_c (od_ixT (i := 1) rfl)) ea_nil) n2.pre) n2))) fun _ => et_or (a := false) (b := false) (et_test (ed_ff (ed_op (ed_op (ed_var rfl) ed_c (od_ixT (i := 0) rfl)) (ed_var rfl) od_notInL) ?_)) fun _ => et_test (ed_ff (ed_op (ed_op (ed_var rfl) ed_c (od_ixT (i := 1) rfl)) (ed_var rfl) od_notInL) ?_)) (fun z => nomatch z) fun _ => sb_next
    · rw [decide_eq_true (h.near _ hm)]; rfl
    · rw [decide_eq_true (h.far _ hm)]; rfl
abbrev r_Told_model (K : PySem.W.Frag) : List Den → Own → Own → Den → Prop := pu (fun t : ToA => True) (fun t => [toldD K t]) (fun t => modelD K t.mo.1 t.mo.2)
theorem ok_Told_model (T : Txt K mg) : FnOk P w K mg base CX0 1 (a_Told_model K) (fdOf K (a_Told_model K)) ["self"] (DefSp (r_Told_model K)) := by
  refine ow_ok (F_Told_model T) sc_Told_model (fun _ => rfl) fun cdv A outer s H E hr => ⟨_, PSs.nox (pss_one (ps_ret (pe_fldK (K := K) (pv 0)))), ?_⟩
  intro t _
  exact sb_ret (ed_fld (ed_var rfl) (c_Told T) (na_Told_own_model T) rfl)
abbrev r_want_told (K : PySem.W.Frag) : List Den → Own → Own → Den → Prop := pu (fun t : ToA => True) (fun t => [toldD K t]) (fun t => nonD)
theorem ok_want_told (T : Txt K mg) : FnOk P w K mg base CX0 1 (a_want_told K) (fdOf K (a_want_told K)) ["value"] (DefSp (r_want_told K)) := by
  refine ow_ok (F_want_told T) sc_want_told (fun _ => rfl) fun cdv A outer s H E hr => ⟨_, PSs.nox (pss_one (ps_if (pt_not (pt_val (pe_callB (call_isiK' (K := K)) (by rfl) (z_isinstance T) boot_isinstance (pa_cons (pv 0) (pa_cons (pe_glob rfl (g_Told T) (rref _)) pa_nil))))) (pss_one ps_never) pss_nil)), ?_⟩
  intro t _
  exact sb_if (b := false) (et_not (a := true) (et_B (ed_cb (ea_cons (ed_var rfl) (ea_cons ed_c ea_nil)) (cd_isi (ty_ins (c_Told T) (isi_Told T)) (.own _) (isi_Told T).kit)))) (fun z => nomatch z) fun _ => sb_next
def told0 (mo : MoA) : ToA := ⟨mo, [], (srtL mo.2).map fun p => (p.1, []), (Srt.srt mo.1).map fun k => (k, 0)⟩
theorem cs0_ok {ks : List Str} (h : ks ≠ []) (hl : ks.length ≤ 5) (nd : ks.Nodup) (nm : ∀ k, k ∈ ks → okN k) : okCs (ks.map fun k => (k, (0 : Int))) where
  ne := fun z => h (List.map_eq_nil_iff.mp z)
  le := by rw [List.length_map]; omega
  nd := by rw [List.map_map]; exact (List.map_id _).symm ▸ nd
  nm := fun p hp => by
    obtain ⟨k, hk, e⟩ := List.mem_map.mp hp
    rw [← e]
    exact nm k hk
  nn := fun p hp => by
    obtain ⟨k, hk, e⟩ := List.mem_map.mp hp
    rw [← e]
    exact Int.le_refl 0
abbrev r_Told_init (K : PySem.W.Frag) : List Den → Own → Own → Den → Prop := ow (fun p : Addr × MoA => okMo p.2.1 p.2.2) (fun p => [valD (.ref p.1), modelD K p.2.1 p.2.2]) (fun p => [(p.1, insO (C_Told K) [])]) (fun p => [(p.1, toldO K (told0 p.2))]) (fun _ => nonD)
theorem ok_Told_init (T : Txt K mg) : FnOk P w K mg base CX0 6 (a_Told_init K) (fdOf K (a_Told_init K)) ["self", "model"] (DefSp (r_Told_init K)) := by
  refine ow_ok (F_Told_init T) sc_Told_init (fun _ => rfl) fun cdv A outer s H E hr => ⟨_, PSs.nox (pss_cons (ps_expr (pe_call (ok_want_model T) (hr.mono (by decide)) rfl (g_want_model T) (F_want_model T).kp (b_want_model T) .nil pass0 (pa_cons (pv 1) pa_nil)))
  (pss_cons (ps_fld (pv 0) (pv 1) rfl)
  (pss_cons (ps_fld (pv 0) (pe_lst pa_nil) rfl)
  (pss_cons (ps_fld (pv 0) (pe_frz (pe_dc (own := [("link", 2)]) (by rfl) sc_Told_init.nd (pi_keys (pe_meth0 (pv 1) (c_Model T) (m_Model_links T) (ok_Model_links T) (hr.mono (by decide)) (b_Model_links T) .nil pass0)) (blkOk_by (N := n_Told_init) (sc := defScope s_Told_init) (by decide +kernel)) (fun _ _ _ _ _ => (pg_name (i := 2) sc_Told_init.nd rfl (Or.inl rfl))) (fun _ _ _ _ _ => pts_nil) (fun _ _ _ _ _ => (pv 2)) (fun _ _ _ _ _ => (pe_lst pa_nil)))) rfl)
  (pss_one (ps_fld (pv 0) (pe_make (mk_Sizes T) (ok_Sizes_init T) (hr.mono (by decide)) rfl (g_Sizes T) (b_Sizes_init T) .nil pass0 (pa_cons (pe_frz (pe_dc (own := [("kind", 3)]) (by rfl) sc_Told_init.nd (pi_listK (K := K) (pe_meth0 (pv 1) (c_Model T) (m_Model_kinds T) (ok_Model_kinds T) (hr.mono (by decide)) (b_Model_kinds T) .nil pass0)) (blkOk_by (N := n_Told_init) (sc := defScope s_Told_init) (by decide +kernel)) (fun _ _ _ _ _ => (pg_name (i := 3) sc_Told_init.nd rfl (Or.inl rfl))) (fun _ _ _ _ _ => pts_nil) (fun _ _ _ _ _ => (pv 3)) (fun _ _ _ _ _ => pe_int))) pa_nil)) rfl)))))), ?_⟩
  rintro ⟨x, ks, ls⟩ h
  dsimp only at h ⊢
  refine sb_seq (sb_drop (ed_callP (α := MoA) (ks, ls) (ea_cons (ed_var rfl) ea_nil) trivial)) ?_
  refine sb_seq (sb_fld (ed_var rfl) (ed_var rfl) (c_Told T) (na_Told_own_model T) (by decide)) ?_
  refine sb_seq (sb_fld (B := lstD []) (ed_lst ea_nil) (ed_var rfl) (c_Told T) (na_Told_own_rows T) (by show 1 < 1000; omega)) ?_
  have hn : ((srtL ls).map (·.1)).Nodup := by rw [srtL_keys]; exact (Srt.srt_perm _).nodup_iff.mpr h.lnd
  have e1 : ((srtL ls).map fun p => (p.1, ([] : List Pr2))).map (fun p => ((Sum.inr p.1 : Key), prsD p.2)) = (srtL ls).map fun p => ((Sum.inr p.1 : Key), lstD []) := by rw [List.map_map]; rfl
  refine sb_seq (sb_fld (B := sdD ((srtL ls).map fun p => (p.1, ([] : List Pr2))) fun l => prsD l) ?_ (ed_var rfl) (c_Told T) (na_Told_own_pairs T) (by show 2 < 1000; omega)) ?_
  · refine ED.cast (ed_dc (xs := srtL ls) (key := fun p => .inr p.1) (f := fun p => lstD []) (ei_keysS (ed_methP (α := MoA) (ks, ls) (ed_var rfl) ea_nil h)) (fun k _ => gd_name) (fun k _ => ed_var rfl) (fun p hp => ed_lst ea_nil) ?_ (by decide) (by unfold srtL; rw [List.length_map, Srt.length_srt, List.length_map]; have := h.lle; omega)) (congrArg dkD e1.symm)
    have e : (srtL ls).map (fun p => (Sum.inr p.1 : Key)) = ((srtL ls).map (·.1)).map Sum.inr := by rw [List.map_map]; rfl
    rw [e]
    exact nodup_inr hn
  · have hc := cs0_ok (ks := Srt.srt ks) (fun z => h.ne (List.length_eq_zero_iff.mp (by rw [← Srt.length_srt, z]; rfl))) (by rw [Srt.length_srt]; exact h.le) ((Srt.srt_perm _).nodup_iff.mpr h.nd) fun k hk => h.nm k (Srt.mem_srt.mp hk)
    refine sb_fld (B := sizesD K ((Srt.srt ks).map fun k => (k, 0))) (ed_make (Rs := [csD ((Srt.srt ks).map fun k => (k, 0))]) (ea_cons ?_ ea_nil) fun y => ⟨(y, _), hc, rfl, rfl, rfl, rfl⟩) (ed_var rfl) (c_Told T) (na_Told_own_wishes T) (by show 3 < 1000; omega) ⟨rfl, .refl⟩
    have e2 : ((Srt.srt ks).map fun k => (k, (0 : Int))).map (fun p => ((Sum.inr p.1 : Key), Dn.intD p.2)) = (Srt.srt ks).map fun k => ((Sum.inr k : Key), Dn.intD 0) := by rw [List.map_map]; rfl
    exact ED.cast (ed_dc (xs := Srt.srt ks) (key := fun k => .inr k) (f := fun k => intD 0) (ei_list (ed_methP (α := MoA) (ks, ls) (ed_var rfl) ea_nil trivial)) (fun k _ => gd_name) (fun k _ => ed_var rfl) (fun p hp => ed_c) (nodup_inr ((Srt.srt_perm _).nodup_iff.mpr h.nd)) (by decide) (by rw [Srt.length_srt]; have := h.le; omega)) (congrArg dkD e2.symm)
structure SwA where
  x : Addr
  t : ToA
  cs : Cs
  b : Bool
abbrev r_Told_set_wished (K : PySem.W.Frag) : List Den → Own → Own → Den → Prop := ow (fun a : SwA => okCc ⟨a.t.mo, a.cs, a.b⟩) (fun a => [valD (.ref a.x), csA K a.cs a.b]) (fun a => [(a.x, toldO K a.t)]) (fun a => [(a.x, toldO K { a.t with ws := a.cs })]) (fun _ => nonD)
theorem ok_Told_set_wished (T : Txt K mg) : FnOk P w K mg base CX0 7 (a_Told_set_wished K) (fdOf K (a_Told_set_wished K)) ["self", "sizes"] (DefSp (r_Told_set_wished K)) := by
  refine ow_ok (F_Told_set_wished T) sc_Told_set_wished (fun _ => rfl) fun cdv A outer s H E hr => ⟨_, PSs.nox (pss_one (ps_fld (pv 0) (pe_call (ok_sizes_for T) (hr.mono (by decide)) rfl (g_sizes_for T) (F_sizes_for T).kp (b_sizes_for T) .nil pass0 (pa_cons (pe_fldK (K := K) (pv 0)) (pa_cons (pv 1) pa_nil))) rfl)), ?_⟩
  rintro ⟨x, t, cs, b⟩ h
  exact sb_fld (B := sizesD K cs) (ed_callP (α := CcA) ⟨t.mo, cs, b⟩ (ea_cons (ed_fldO (ed_var rfl) List.mem_cons_self (c_Told T) (na_Told_own_model T) rfl) (ea_cons (ed_var rfl) ea_nil)) h) (ed_var rfl) (c_Told T) (na_Told_own_wishes T) (by show 4 < 1000; omega) ⟨rfl, .refl⟩
end
end Pr
/-! VE -/
namespace Pr
open PySem PySem.Spec PyProof.Rows L2 Dn Rb
def endOf (e : Bool) (p : Pr2) : Str := if e then p.2 else p.1
def degC (l : List Pr2) (e : Bool) (n : Str) : Nat := (l.filter fun p => decide (endOf e p = n)).length
theorem od_end {K : PySem.W.Frag} (e : Bool) (p : Pr2) : OD (rIxT K) (prD p) (Dn.intD (if e then 1 else 0)) (strD (endOf e p)) := by
  cases e with
  | false => exact od_ixT (i := 0) rfl
  | true => exact od_ixT (i := 1) rfl
structure DgA where
  t : ToA
  k : Str
  e : Bool
  n : Str
structure okDg (a : DgA) : Prop where
  t : okTo a.t
  k : a.k ∈ a.t.mo.2.map (·.1)
  n : a.n ∈ namesOf a.t.rows (kindAt a.t.mo.2 a.k a.e)
theorem okTo.pkey {t : ToA} (h : okTo t) {k : Str} (hk : k ∈ t.mo.2.map (·.1)) : k ∈ t.prs.map (·.1) := by rw [h.keys]; exact Srt.mem_srt.mpr hk
theorem okTo.kind {t : ToA} (h : okTo t) {k : Str} (hk : k ∈ t.mo.2.map (·.1)) (e : Bool) : kindAt t.mo.2 k e ∈ t.mo.1 ∧ okN (kindAt t.mo.2 k e) := by
  obtain ⟨⟨e1, e2⟩, _, ⟨e5, e6⟩, _⟩ := h.mo.le4 _ (lk_mem hk)
  cases e with
  | false => exact ⟨e2, e1⟩
  | true => exact ⟨e6, e5⟩
section
variable {P : Program} {w : World} {K : PySem.W.Frag} {mg : Str → Option Value} {base : Heap}
theorem ed_model {te : TE} {Γ : Dn.Ctx} {Os : Own} (T : Txt K mg) {t : ToA} (h : ED Os te Γ (toldD K t)) : ED Os (tFld K te "own_model") Γ (modelD K t.mo.1 t.mo.2) := ed_fld h (c_Told T) (na_Told_own_model T) rfl
theorem ed_pairs {te : TE} {Γ : Dn.Ctx} {Os : Own} (T : Txt K mg) {t : ToA} (h : ED Os te Γ (toldD K t)) : ED Os (tFld K te "own_pairs") Γ (sdD t.prs fun l => prsD l) := ed_fld h (c_Told T) (na_Told_own_pairs T) rfl
abbrev r_Told_degree (K : PySem.W.Frag) : List Den → Own → Own → Den → Prop := pu okDg (fun a => [toldD K a.t, strD a.k, strD (endS a.e), strD a.n]) (fun a => intD (degC (lk a.t.prs a.k) a.e a.n : Nat))
theorem ok_Told_degree (T : Txt K mg) : FnOk P w K mg base CX0 5 (a_Told_degree K) (fdOf K (a_Told_degree K)) ["self", "link", "end", "name"] (DefSp (r_Told_degree K)) := by
  refine ow_ok (F_Told_degree T) sc_Told_degree (fun _ => rfl) fun cdv A outer s H E hr => ⟨_, PSs.nox (pss_cons (ps_expr (pe_call (ok_want_link T) (hr.mono (by decide)) rfl (g_want_link T) (F_want_link T).kp (b_want_link T) .nil pass0 (pa_cons (pe_fldK (K := K) (pv 0)) (pa_cons (pv 1) pa_nil))))
  (pss_cons (ps_expr (pe_call (ok_want_end T) (hr.mono (by decide)) rfl (g_want_end T) (F_want_end T).kp (b_want_end T) .nil pass0 (pa_cons (pv 2) pa_nil)))
  (pss_cons (ps_set (i := 4) sc_Told_degree.nd rfl (Or.inl rfl) (pe_meth (pe_fldK (K := K) (pv 0)) (c_Model T) (m_Model_kind_at T) (ok_Model_kind_at T) (hr.mono (by decide)) (b_Model_kind_at T) .nil pass0 (pa_cons (pv 1) (pa_cons (pv 2) pa_nil))))
  (pss_cons (ps_if (pt_cmpR (op_ownNi (oo_Told_contains T) (ok_Told_contains T) (hr.mono (by decide)) (b_Told_contains T)) (pe_tup (pa_cons (pv 4) (pa_cons (pv 3) pa_nil))) (pv 0) (by rfl)) (pss_one ps_never) pss_nil)
  (pss_cons (ps_set (i := 5) sc_Told_degree.nd rfl (Or.inr rfl) (pe_ifExp (pt_cmpR op_eq (pv 2) pe_str (nomark _)) pe_int pe_int))
  (pss_one (ps_ret (pe_callB (call_lenK (K := K)) (by rfl) (z_len T) boot_len (pa_cons (pe_lc (own := [("pair", 6)]) (by rfl) sc_Told_degree.nd (pi_listK (K := K) (pe_dget (rm1 hr) (pe_fldK (K := K) (pv 0)) (pv 1) (fun _ _ => rfl))) (blkOk_by (N := n_Told_degree) (sc := defScope s_Told_degree) (by decide +kernel)) (fun _ _ _ _ _ => (pg_name (i := 6) sc_Told_degree.nd rfl (Or.inl rfl))) (fun _ _ _ _ _ => (pts_one (pt_cmpR op_eq (pe_ix (ix_tupK (K := K)) (pv 6) (pv 5) (fun _ _ => rfl)) (pv 3) (nomark _)))) (fun _ _ _ _ _ => (pv 6))) pa_nil))))))))), ?_⟩
  rintro ⟨t, k, e, n⟩ ⟨h1, h2, h3⟩
  dsimp only at h1 h2 h3 ⊢
  obtain ⟨k1, k2⟩ := h1.kind h2 e
  refine sb_seq (sb_drop (ed_callP (α := MoA × Str) (t.mo, k) (ea_cons (ed_model T (ed_var rfl)) (ea_cons (ed_var rfl) ea_nil)) ⟨h2, h1.mo.lnm⟩)) ?_
  refine sb_seq (sb_drop (ed_callP (α := Bool) e (ea_cons (ed_var rfl) ea_nil) trivial)) ?_
  refine sb_seq (sb_asg (ed_methP (α := AtA) ⟨t.mo, k, e⟩ (ed_model T (ed_var rfl)) (ea_cons (ed_var rfl) (ea_cons (ed_var rfl) ea_nil)) ⟨h1.mo, h2⟩)) ?_
  refine sb_ifs (b := false) (et_test (ed_ff (ed_op (ed_tup (ea_cons (ed_var rfl) (ea_cons (ed_var rfl) ea_nil))) (ed_var rfl) (od_ownNi (α := HasA) ⟨t, kindAt t.mo.2 k e, .inl n⟩ ⟨h1, Nat.le_trans k2.len.2 (by decide), (h1.name h3).pre⟩)) ?_)) (fun z => nomatch z) fun _ => sb_skip ?_
  · have z : hasB ⟨t, kindAt t.mo.2 k e, .inl n⟩ = true := by
      unfold hasB
      rw [Bool.and_eq_true, Bool.and_eq_true]
      exact ⟨⟨decide_eq_true k1, h1.name h3⟩, decide_eq_true (mem_namesOf.mp h3)⟩
    rw [z]
    rfl
  refine sb_seq (sb_asg (A := intD (if e then 1 else 0)) ?_) ?_
  · cases e with
    | false => exact ed_if (b := true) (et_test (ed_op (ed_var rfl) ed_c od_eqS)) (fun _ => ed_c) fun z => nomatch z
    | true => exact ed_if (b := false) (et_test (ed_op (ed_var rfl) ed_c od_eqS)) (fun z => nomatch z) fun _ => ed_c
  have hm := lk_mem (h1.pkey h2)
  have hl : ((lk t.prs k).filter fun p => decide (endOf e p = n)).length ≤ 1000 := Nat.le_trans (List.length_filter_le _ _) (by have := (h1.pnd _ hm).2; dsimp only at this; omega)
  refine sb_ret (R := intD (degC (lk t.prs k) e n : Nat)) ?_
  have el : degC (lk t.prs k) e n = (((lk t.prs k).filter fun p => decide (endOf e p = n)).map fun p => prD p).length := by rw [List.length_map]; rfl
  rw [el]
  exact ed_cb (ea_cons (ed_lc (ei_list (dget_s (h1.pkey h2) (ed_pairs T (ed_var rfl)) (ed_var rfl))) (fun p _ => gd_name) (fun p _ => et_test (ed_op (ed_op (ed_var rfl) (ed_var rfl) (od_end e p)) (ed_var rfl) od_eqS)) (fun p _ _ => ed_var rfl) (by decide) (by have := (h1.pnd _ hm).2; dsimp only at this; omega)) ea_nil) (cd_len (by rw [List.length_map]; omega))
structure AddA where
  x : Addr
  t : ToA
  p : Pr2
structure okAdd (a : AddA) : Prop where
  t : okTo a.t
  k : a.p.1 ∈ a.t.mo.1
  n : okN a.p.2
  new : a.p ∉ a.t.rows
  few : (namesOf a.t.rows a.p.1).length < 12
  le : a.t.rows.length < 60
theorem pr_kept {K : PySem.W.Frag} {t : ToA} {x : Addr} : Keeps x (toldO K t) (toldD K t) := keeps_ins
abbrev r_Told_iadd (K : PySem.W.Frag) : List Den → Own → Own → Den → Prop := ow okAdd (fun a => [valD (.ref a.x), prD a.p]) (fun a => [(a.x, toldO K a.t)]) (fun a => [(a.x, toldO K { a.t with rows := a.t.rows ++ [a.p] })]) (fun a => valD (.ref a.x))
theorem ok_Told_iadd (T : Txt K mg) : FnOk P w K mg base CX0 5 (a_Told_iadd K) (fdOf K (a_Told_iadd K)) ["self", "other"] (DefSp (r_Told_iadd K)) := by
  refine ow_ok (F_Told_iadd T) sc_Told_iadd (fun _ => rfl) fun cdv A outer s H E hr => ⟨_, PSs.nox (pss_cons (ps_if (pt_not (pt_val (pe_call (ok_is_row_of T) (hr.mono (by decide)) rfl (g_is_row_of T) (F_is_row_of T).kp (b_is_row_of T) .nil pass0 (pa_cons (pe_fldK (K := K) (pv 0)) (pa_cons (pv 1) pa_nil))))) (pss_one ps_never) pss_nil)
  (pss_cons (ps_if (pt_cmpR (op_inDK (K := K) (rm65 hr)) (pv 1) (pe_fldK (K := K) (pv 0)) (by rfl)) (pss_one ps_never) pss_nil)
  (pss_cons (ps_if (pt_cmpR op_eq (pe_callB (call_lenK (K := K)) (by rfl) (z_len T) boot_len (pa_cons (pe_meth (pv 0) (c_Told T) (m_Told_rows T) (ok_Told_rows T) (hr.mono (by decide)) (b_Told_rows T) .nil pass0 (pa_cons (pe_ix (ix_tupK (K := K)) (pv 1) pe_int (fun _ _ => rfl)) pa_nil)) pa_nil)) (pe_glob rfl (gt_MOST_ROWS T) (rx_MOST_ROWS T)) (nomark _)) (pss_one ps_never) pss_nil)
  (pss_cons (ps_fld (pv 0) (pe_op op_cat (pe_fldK (K := K) (pv 0)) (pe_lst (pa_cons (pv 1) pa_nil))) rfl)
  (pss_one (ps_ret (pv 0))))))), ?_⟩
  rintro ⟨x, t, k, n⟩ ⟨h1, h2, h3, h4, h5, h6⟩
  dsimp only at h1 h2 h3 h4 h5 h6 ⊢
  have kn := h1.mo.nm k h2
  refine sb_ifs (b := false) (et_not (a := true) (et_B (ed_tt (ed_callP (α := RowA) ⟨t.mo, k, .inl n⟩ (ea_cons (ed_fldO (ed_var rfl) List.mem_cons_self (c_Told T) (na_Told_own_model T) rfl) (ea_cons (ed_var rfl) ea_nil)) ⟨h1.mo, Nat.le_trans kn.len.2 (by decide), h3.pre⟩) ?_))) (fun z => nomatch z) fun _ => sb_skip ?_
  · show (decide (k ∈ t.mo.1) && nameB n) = true
    rw [decide_eq_true h2, show nameB n = true from h3]
    rfl
  refine sb_ifs (b := false) (et_test (ed_ff (ed_op (ed_var rfl) (ed_fldO (R := prsD t.rows) (ed_var rfl) List.mem_cons_self (c_Told T) (na_Told_own_rows T) rfl) (od_inPr (p := (k, n)) ⟨kn, h3⟩ h1.kn)) (decide_eq_false h4))) (fun z => nomatch z) fun _ => sb_skip ?_
  refine sb_ifs (b := false) (et_test (ed_borrow (i := 0) pr_kept rfl free_val (fun q z => nomatch z) (ed_ff (ed_op (ed_cb (ea_cons (ed_methP (α := ToA × Str) (t, k) (ed_var rfl) (ea_cons (ed_op (ed_var rfl) ed_c (od_ixT (i := 0) rfl)) ea_nil) ⟨h1, h2⟩) ea_nil) (cd_len (by rw [List.length_map]; show (namesOf t.rows k).length ≤ _; omega))) ed_c od_eqI) (decide_eq_false (by rw [List.length_map]; show ¬ (((namesOf t.rows k).length : Nat) : Int) = 12; omega))))) (fun z => nomatch z) fun _ => sb_skip ?_
  refine sb_seq (sb_fld (B := prsD (t.rows ++ [(k, n)])) ?_ (ed_var rfl) (c_Told T) (na_Told_own_rows T) (by show 4 < 1000; omega)) (sb_ret (ed_var rfl))
  have e : (t.rows ++ [(k, n)]).map (fun p => prD p) = t.rows.map (fun p => prD p) ++ [prD (k, n)] := by rw [List.map_append]; rfl
  have z := ed_op (Os := [(x, toldO K t)]) (Γ := [some (valD (.ref x)), some (prD (k, n))]) (ed_fldO (R := prsD t.rows) (ed_var (i := 0) rfl) List.mem_cons_self (c_Told T) (na_Told_own_rows T) rfl) (ed_lst (ea_cons (ed_var (R := prD (k, n)) (i := 1) rfl) ea_nil)) (od_cat (Ss := [prD (k, n)]) (by rw [List.length_map]; show t.rows.length + 1 ≤ 100000; omega))
  rw [← e] at z
  exact z
structure PutA where
  x : Addr
  t : ToA
  k : Str
  l : List Pr2
structure okPut (a : PutA) : Prop where
  t : okTo a.t
  k : a.k ∈ a.t.mo.2.map (·.1)
  nd : a.l.Nodup
  le : a.l.length ≤ 40
  near : ∀ p, p ∈ a.l → p.1 ∈ namesOf a.t.rows (kindAt a.t.mo.2 a.k false)
  far : ∀ p, p ∈ a.l → p.2 ∈ namesOf a.t.rows (kindAt a.t.mo.2 a.k true)
def putP (prs : List (Str × List Pr2)) (k : Str) (l : List Pr2) : List (Str × List Pr2) := prs.map fun q => (q.1, if q.1 = k then l else q.2)
theorem free_rows {K : PySem.W.Frag} {x : Addr} {t : ToA} {xs : List Str} : Free x (toldO K t) (lstD (xs.map fun x => strD x)) := free_strs
abbrev r_Told_setitem (K : PySem.W.Frag) : List Den → Own → Own → Den → Prop := ow okPut (fun a => [valD (.ref a.x), strD a.k, prsD a.l]) (fun a => [(a.x, toldO K a.t)]) (fun a => [(a.x, toldO K { a.t with prs := putP a.t.prs a.k a.l })]) (fun a => nonD)
theorem ok_Told_setitem (T : Txt K mg) : FnOk P w K mg base CX0 5 (a_Told_setitem K) (fdOf K (a_Told_setitem K)) ["self", "at", "worth"] (DefSp (r_Told_setitem K)) := by
  refine ow_ok (F_Told_setitem T) sc_Told_setitem (fun _ => rfl) fun cdv A outer s H E hr => ⟨_, PSs.nox (pss_cons (ps_expr (pe_call (ok_want_link T) (hr.mono (by decide)) rfl (g_want_link T) (F_want_link T).kp (b_want_link T) .nil pass0 (pa_cons (pe_fldK (K := K) (pv 0)) (pa_cons (pv 1) pa_nil))))
  (pss_cons (ps_if (pt_not (pt_val (pe_callB (call_isiTK (K := K)) (by rfl) (z_isinstance T) boot_isinstance (pa_cons (pv 2) (pa_cons (pe_tup (pa_cons (pe_bltn (by rfl) (z_list T) boot_list (rty _)) (pa_cons (pe_bltn (by rfl) (z_tuple T) boot_tuple (rty _)) pa_nil))) pa_nil))))) (pss_one ps_never) pss_nil)
  (pss_cons (ps_set (i := 3) sc_Told_setitem.nd rfl (Or.inl rfl) (pe_meth (pv 0) (c_Told T) (m_Told_rows T) (ok_Told_rows T) (hr.mono (by decide)) (b_Told_rows T) .nil pass0 (pa_cons (pe_meth (pe_fldK (K := K) (pv 0)) (c_Model T) (m_Model_kind_at T) (ok_Model_kind_at T) (hr.mono (by decide)) (b_Model_kind_at T) .nil pass0 (pa_cons (pv 1) (pa_cons pe_str pa_nil))) pa_nil)))
  (pss_cons (ps_set (i := 4) sc_Told_setitem.nd rfl (Or.inl rfl) (pe_call (ok_wrong_pair T) (hr.mono (by decide)) rfl (g_wrong_pair T) (F_wrong_pair T).kp (b_wrong_pair T) .nil pass0 (pa_cons (pv 2) (pa_cons (pv 3) (pa_cons (pe_meth (pv 0) (c_Told T) (m_Told_rows T) (ok_Told_rows T) (hr.mono (by decide)) (b_Told_rows T) .nil pass0 (pa_cons (pe_meth (pe_fldK (K := K) (pv 0)) (c_Model T) (m_Model_kind_at T) (ok_Model_kind_at T) (hr.mono (by decide)) (b_Model_kind_at T) .nil pass0 (pa_cons (pv 1) (pa_cons pe_str pa_nil))) pa_nil)) pa_nil)))))
  (pss_cons (ps_if (pt_cmpR op_notN (pv 4) pe_non (nomark _)) (pss_one ps_never) pss_nil)
  (pss_cons (ps_if (pt_cmpR op_gt (pe_callB (call_lenK (K := K)) (by rfl) (z_len T) boot_len (pa_cons (pv 2) pa_nil)) (pe_glob rfl (gt_MOST_PAIRS T) (rx_MOST_PAIRS T)) (nomark _)) (pss_one ps_never) pss_nil)
  (pss_one (ps_fld (pv 0) (pe_frz (pe_dc (own := [("link", 5), ("pairs", 6)]) (by rfl) sc_Told_setitem.nd (pi_items (pe_fldK (K := K) (pv 0))) (blkOk_by (N := n_Told_setitem) (sc := defScope s_Told_setitem) (by decide +kernel)) (fun _ _ _ _ _ => (pg_tupK (K := K) (n := 2) rfl (pgs_cons (pg_name (i := 5) sc_Told_setitem.nd rfl (Or.inl rfl)) (pgs_cons (pg_name (i := 6) sc_Told_setitem.nd rfl (Or.inl rfl)) pgs_nil)))) (fun _ _ _ _ _ => pts_nil) (fun _ _ _ _ _ => (pv 5)) (fun _ _ _ _ _ => (pe_callTy (call_list_ofK (K := K)) (by rfl) (z_list T) boot_list (pa_cons (pe_ifExp (pt_cmpR op_eq (pv 5) (pv 1) (nomark _)) (pv 2) (pv 6)) pa_nil))))) rfl)))))))), ?_⟩
  rintro ⟨x, t, k, l⟩ ⟨h1, h2, h3, h4, h5, h6⟩
  dsimp only at h1 h2 h3 h4 h5 h6 ⊢
  refine sb_seq (sb_drop (ed_callP (α := MoA × Str) (t.mo, k) (ea_cons (ed_fldO (ed_var rfl) List.mem_cons_self (c_Told T) (na_Told_own_model T) rfl) (ea_cons (ed_var rfl) ea_nil)) ⟨h2, h1.mo.lnm⟩)) ?_
  refine sb_ifs (b := false) (et_not (a := true) (et_B (ed_cb (ea_cons (ed_var rfl) (ea_cons (ed_tup (ea_cons ed_c (ea_cons ed_c ea_nil))) ea_nil)) (cd_isiT2 (b := true) (b' := false) ty_lst)))) (fun z => nomatch z) fun _ => sb_skip ?_
  have rk : ∀ (e : Bool) {Γ : Dn.Ctx}, Γ[0]? = some (some (toldD K t)) → Γ[1]? = some (some (strD k)) → ED [] (tMeth (C_Told K) "rows" (DefSp (r_Told_rows K)) [] E0 (tVar 0) (tCons (tMeth (C_Model K) "kind_at" (DefSp (r_Model_kind_at K)) [] E0 (tFld K (tVar 0) "own_model") (tCons (tVar 1) (tCons (tC (.str (endS e))) tNil))) tNil)) Γ (lstD ((namesOf t.rows (kindAt t.mo.2 k e)).map fun x => strD x)) := fun e Γ e0 e1 =>
    ed_methP (α := ToA × Str) (t, kindAt t.mo.2 k e) (ed_var e0) (ea_cons (ed_methP (α := AtA) ⟨t.mo, k, e⟩ (ed_model T (ed_var e0)) (ea_cons (ed_var e1) (ea_cons ed_c ea_nil)) ⟨h1.mo, h2⟩) ea_nil) ⟨h1, (h1.kind h2 e).1⟩
  refine sb_seq (sb_asg (ed_borrow (i := 0) pr_kept rfl free_rows (fun q z => nomatch z) (rk false rfl rfl))) ?_
  refine sb_seq (sb_asg (ed_callP (α := WpA) ⟨l, namesOf t.rows (kindAt t.mo.2 k false), namesOf t.rows (kindAt t.mo.2 k true)⟩ (ea_cons (ed_var rfl) (ea_cons (ed_var rfl) (ea_cons (ed_borrow (i := 0) pr_kept rfl free_rows (fun q z => nomatch z) (rk true rfl rfl)) ea_nil))) ⟨h3, by dsimp only; omega, fun p hp => ⟨h1.name (h5 p hp), h1.name (h6 p hp)⟩, h5, h6⟩)) ?_
  refine sb_ifs (b := false) (et_test (ed_op (ed_var rfl) ed_c od_notN)) (fun z => nomatch z) fun _ => sb_skip ?_
  refine sb_ifs (b := false) (et_test (ed_ff (ed_op (ed_cb (ea_cons (ed_var rfl) ea_nil) (cd_len (by rw [List.length_map]; omega))) ed_c od_gt) (decide_eq_false (by rw [List.length_map]; omega)))) (fun z => nomatch z) fun _ => sb_skip ?_
  have e1 : (putP t.prs k l).map (fun p => ((Sum.inr p.1 : Key), prsD p.2)) = t.prs.map fun q => ((Sum.inr q.1 : Key), prsD (if q.1 = k then l else q.2)) := by unfold putP; rw [List.map_map]; rfl
  have e2 : (t.prs.map fun p => ((Sum.inr p.1 : Key), prsD p.2)).map (fun p => tupD [valD (kV p.1), p.2]) = t.prs.map fun q => tupD [strD q.1, prsD q.2] := by rw [List.map_map]; rfl
  have nd : (t.prs.map fun q => (Sum.inr q.1 : Key)).Nodup := by
    have e : t.prs.map (fun q => (Sum.inr q.1 : Key)) = (t.prs.map (·.1)).map Sum.inr := by rw [List.map_map]; rfl
    rw [e, h1.keys]
    exact nodup_inr ((Srt.srt_perm _).nodup_iff.mpr h1.mo.lnd)
  have hz : t.prs.length ≤ 100000 := by
    have e := congrArg List.length h1.keys
    rw [List.length_map, Srt.length_srt, List.length_map] at e
    have := h1.mo.lle
    omega
  refine sb_fld (B := sdD (putP t.prs k l) fun l => prsD l) (ED.cast (ed_dc (xs := t.prs) (key := fun q => .inr q.1) (f := fun q => prsD (if q.1 = k then l else q.2)) (d := fun q => tupD [strD q.1, prsD q.2]) ?_ (fun q _ => gd_tup2 gd_name gd_name) (fun q _ => ed_var rfl) (fun q hq => ?_) nd (by decide) hz) (congrArg dkD e1.symm)) (ed_var rfl) (c_Told T) (na_Told_own_pairs T) (by show 4 < 1000; omega) ⟨rfl, .refl⟩
  · have z := ei_items (Os := [(x, toldO K t)]) (Γ := [some (valD (.ref x)), some (strD k), some (prsD l), some (lstD ((namesOf t.rows (kindAt t.mo.2 k false)).map fun x => strD x)), some nonD, none, none]) (te := tFld K (tVar 0) "own_pairs") (ed_fldO (R := sdD t.prs fun l => prsD l) (ed_var (i := 0) rfl) List.mem_cons_self (c_Told T) (na_Told_own_pairs T) rfl)
    rw [e2] at z
    exact z
  · refine ed_cb (ea_cons (ed_if (b := decide (q.1 = k)) (R := prsD (if q.1 = k then l else q.2)) (et_test (ed_op (ed_var rfl) (ed_var rfl) od_eqS)) (fun h => ?_) fun h => ?_) ea_nil) cd_list
    · rw [if_pos (of_decide_eq_true h)]
      exact ed_var rfl
    · rw [if_neg (of_decide_eq_false h)]
      exact ed_var rfl
end
end Pr
/-! DH -/
/-! A for with something told of what has been walked; products. -/
namespace Dn
open PySem PySem.Spec PyProof.Rows L2
section
variable {K : PySem.W.Frag} {Os : Own} {Γ : Ctx} {ta tb te : TE} {A B R : Den} {g : TG} {wi : TI} {sa : TS} {N : Own → Ctx → Prop} {O : Own → Den → Prop}
theorem sb_forI {α : Type} {xs : List α} {d : α → Den} {Oz : List α → Own} {Γs : List α → Ctx} (I : List α → Prop) (hi : EI Os wi Γ (· = xs.map d)) (i0 : I []) (z0 : Oz [] = Os) (za : ∀ i, ads (Oz i) = ads Os) (h0 : Less (Γs []) Γ)
    (hs : ∀ pre x post, xs = pre ++ x :: post → I pre → ∃ Γ1 is, GD g (Γs pre) (d x) Γ1 is ∧ SB (Oz pre) sa Γ1 (fun o g' => I (pre ++ [x]) ∧ o = Oz (pre ++ [x]) ∧ Less (Γs (pre ++ [x])) g') O) (hn : I xs → N (Oz xs) (Γs xs)) : SB Os (tFor wi g sa) Γ N O := fun σ H0 H D e s w q r =>
  hi σ H0 H e s w _ fun J H1 H1' Rs hR g1 it => by
    refine ⟨fun i m σ H => m = xs.length - i ∧ i ≤ xs.length ∧ I (xs.take i) ∧ ∃ H2, Grow Os H1 H1' (Oz (xs.take i)) H2 H ∧ Env H2 (Γs (xs.take i)) σ, ⟨_, rfl, Nat.zero_le _, by rw [List.take_zero]; exact i0, H1, by rw [List.take_zero, z0]; exact .refl g1.sub g1.ow, by rw [List.take_zero]; exact (e.mono g1.s0).less h0⟩, ?_⟩
    rintro i m σ2 H2' ⟨rfl, hle, hI, H2, g2, e2⟩
    obtain ⟨go, stop, yld⟩ := it H2 H2' g2.s0 g2.sub
    rw [hR, List.length_map] at go stop
    by_cases hlt : i < xs.length
    · have tk : xs.take (i + 1) = xs.take i ++ [xs[i]] := by rw [List.take_add_one, List.getElem?_eq_getElem hlt] <;> rfl
      have sp : xs = xs.take i ++ xs[i] :: xs.drop (i + 1) := by rw [List.getElem_cons_drop, List.take_append_drop]
      refine .inr ⟨go i hlt, fun σ' H' => I (xs.take (i + 1)) ∧ ∃ H3, Grow Os H1 H1' (Oz (xs.take (i + 1))) H3 H' ∧ Env H3 (Γs (xs.take (i + 1))) σ', fun σ' H' ⟨h1, H3, g3, e3⟩ => ⟨_, Nat.sub_lt_sub_left hlt (Nat.lt_succ_self i), rfl, hlt, h1, H3, g3, e3⟩, fun x H3' hy => ?_⟩
      have hRi : Rs[i]? = some (d xs[i]) := by rw [hR, List.getElem?_map, List.getElem?_eq_getElem hlt] <;> rfl
      obtain ⟨H3, g3, hx⟩ := yld i x H3' hy _ hRi
      obtain ⟨Γ1, is, hg, hb⟩ := hs _ _ _ sp hI
      have g3u := g3.up g2.ow
      refine hg σ2 H3 H3' x (e2.mono g3.s0) g3.sub hx _ fun σ4 H4 H4' g4 e4 _ => ?_
      have g24 := g2.trans (g3u.trans (g4.up g3u.ow))
      refine hb σ4 H4 H4' _ e4 g4.sub g24.ow (fun Os' Γ' m σ5 H5 H5' g5 e5 => ?_) fun Os' R' m v H5 H5' g5 hv => r Os' R' m v H5 H5' (g1.trans (g24.trans g5)) hv
      obtain ⟨m1, m2, m3⟩ := m
      subst m2
      rw [tk]
      exact ⟨m1, H5, g24.trans g5, e5.less m3⟩
    · have ei : i = xs.length := by omega
      subst ei
      rw [List.take_length] at hI g2 e2
      exact .inl ⟨stop, q _ _ (hn hI) σ2 H2 H2' (g1.trans g2) e2⟩
theorem sb_forIS {α : Type} {xs : List α} {d : α → Den} {Γ' : Ctx} (I : List α → Prop) (hi : EI Os wi Γ (· = xs.map d)) (i0 : I []) (h0 : Less Γ' Γ)
    (hs : ∀ pre x post, xs = pre ++ x :: post → I pre → ∃ Γ1 is, GD g Γ' (d x) Γ1 is ∧ SB Os sa Γ1 (fun o g' => I (pre ++ [x]) ∧ o = Os ∧ Less Γ' g') O) (hn : I xs → N Os Γ') : SB Os (tFor wi g sa) Γ N O :=
  sb_forI (Oz := fun _ => Os) (Γs := fun _ => Γ') I hi i0 rfl (fun _ => rfl) h0 hs hn
/-- a state with something told -/
def tw (p : Prop) (Os : Own) (Γ : Ctx) : Own → Ctx → Prop := fun o g => p ∧ o = Os ∧ Less Γ g
theorem ei_tupK {vs : List V} (h : ∀ H, SqT K H (a : Addr) vs) (hte : ED Os te Γ (valD (.ref a))) : EI Os (iTup K te) Γ (· = vs.map valD) := fun σ H0 H e s w R q => hte σ H0 H e s w _ fun v H1 H1' g1 hv =>
  ⟨a, hv, ⟨vs, h _⟩, q _ H1 H1' _ rfl g1 fun H2 H2' s0 s2 => by
    rw [List.length_map]
    refine ⟨fun i hi => ⟨vs, vs[i]'(by omega), h _, by simp [show i < vs.length by omega]⟩, ⟨vs, h _, Nat.le_refl _⟩, fun i x H3' hy R hR => ?_⟩
    obtain ⟨e1, e2⟩ := hy
    subst e1
    have e3 := e2 vs (h _)
    rw [List.getElem?_map, e3] at hR
    cases hR
    exact ⟨H2, .refl s2 .nil, rfl⟩⟩
/-- small enough to be multiplied -/
def sm (x : Int) : Prop := -(10 ^ 60) ≤ x ∧ x ≤ 10 ^ 60
theorem log_le {x : Int} (h : sm x) : x.natAbs.log2 < 1000 := by
  obtain ⟨h1, h2⟩ := h
  have h3 : x.natAbs ≤ 10 ^ 60 := by omega
  by_cases z : x.natAbs = 0
  · rw [z]; decide
  · rw [Nat.log2_lt z]
    have : (10 : Nat) ^ 60 < 2 ^ 1000 := by decide
    omega
theorem od_mulW {i j : Int} (hi : sm i) (hj : sm j) : OD (rI CMulW fun i j => .int (i * j)) (intD i) (intD j) (intD (i * j)) := od_I (by
  have h1 := log_le hi
  have h2 := log_le hj
  unfold CMulW
  omega)
/-- a tuple of whatever -/
def tupAny : Den := exD (fun _ : List Den => True) fun Rs => tupD Rs
theorem notN_any : notN tupAny := fun H v ⟨Rs, _, a, us, e, _⟩ z => by rw [e] at z; cases z
theorem sub_any {Rs : List Den} : Sub (tupD Rs) tupAny := fun H v h => ⟨Rs, trivial, h⟩
end
end Dn
/-! VF -/
namespace Pr
open PySem PySem.Spec PyProof.Rows L2 Dn Rb
structure DeA where
  names : List Str
  others : List Str
  told : List Pr2
  least : Int
  top : Option Int
abbrev strsD (l : List Str) : Den := lstD (l.map fun x => strD x)
abbrev strsT (l : List Str) : Den := tupD (l.map fun x => strD x)
abbrev ptD (l : List Pr2) : Den := dtD (l.map fun p => ([Sum.inr p.1, Sum.inr p.2], blD true))
abbrev demD (K : PySem.W.Frag) (d : DeA) : Den := insD (C_Demand K) [("own_names", strsD d.names), ("own_others", strsD d.others), ("own_told", ptD d.told), ("own_least", intD d.least), ("own_top", optD d.top)]
structure okDe (d : DeA) : Prop where
  n : d.names.length ≤ 60
  o : d.others.length ≤ 60
  l : 0 ≤ d.least ∧ d.least ≤ 100
  t : ∀ k, d.top = some k → 0 ≤ k ∧ k ≤ 100
theorem look_pt {l : List Pr2} {a b : Str} : (look (l.map fun p => (([Sum.inr p.1, Sum.inr p.2] : List Key), blD true)) [Sum.inr a, Sum.inr b]).isSome = decide ((a, b) ∈ l) := by
  unfold look
  rw [Option.isSome_map]
  by_cases h : (a, b) ∈ l
  · rw [decide_eq_true h, List.find?_isSome]
    exact ⟨_, List.mem_map.mpr ⟨(a, b), h, rfl⟩, by simp⟩
  · rw [decide_eq_false h]
    cases z : (l.map fun p => (([Sum.inr p.1, Sum.inr p.2] : List Key), blD true)).find? (fun p => decide (p.1 = [Sum.inr a, Sum.inr b])) with
    | none => rfl
    | some q =>
      have h1 := List.mem_of_find?_eq_some z
      have h2 := List.find?_some z
      obtain ⟨p, hp, e⟩ := List.mem_map.mp h1
      rw [← e] at h2
      have h3 : ([Sum.inr p.1, Sum.inr p.2] : List Key) = [Sum.inr a, Sum.inr b] := of_decide_eq_true h2
      injection h3 with h4 h5
      injection h5 with h5 _
      injection h4 with h4
      injection h5 with h5
      obtain ⟨x, y⟩ := p
      dsimp at h4 h5
      subst h4 h5
      exact absurd hp h
def cntO (d : DeA) (n : Str) : Nat := (d.others.filter fun o => decide ((n, o) ∈ d.told)).length
def cntN (told : List Pr2) (names : List Str) (o : Str) : Nat := (names.filter fun n => decide ((n, o) ∈ told)).length
def needZ (d : DeA) (n : Str) : Int := max 0 (d.least - (cntO d n : Nat))
def roomZ (d : DeA) (o : Str) (most : Int) : Int := match d.top with
  | none => most
  | some k => k - (cntN d.told d.names o : Nat)
def newZ (d : DeA) (most : Int) : Int := match d.top with
  | none => most
  | some k => min k most
def lackZ (d : DeA) (names : List Str) (mine : Int) : Int := (names.map (needZ d)).sum + mine * d.least
def freeZ (d : DeA) (names : List Str) (mine : Int) (o : Str) : Int := ((names.length : Nat) : Int) + mine - (cntN d.told names o : Nat)
def offerZ (d : DeA) (names : List Str) (mine : Int) : Int := (d.others.map fun o => min (freeZ d names mine o) (roomZ d o (freeZ d names mine o))).sum
def tooB (d : DeA) (names : List Str) (mine others : Int) : Bool := decide (offerZ d names mine + others * newZ d (((names.length : Nat) : Int) + mine) < lackZ d names mine)
section
variable {P : Program} {w : World} {K : PySem.W.Frag} {mg : Str → Option Value} {base : Heap}
theorem ed_told {te ta tb : TE} {Γ : Dn.Ctx} {Os : Own} {a b : Str} {l : List Pr2} (ha : ED Os ta Γ (strD a)) (hb : ED Os tb Γ (strD b)) (h : ED Os te Γ (ptD l)) : ED Os (tDIn (tTup (tCons ta (tCons tb tNil))) te) Γ (blD (decide ((a, b) ∈ l))) :=
  (ed_dinT (k := [Sum.inr a, Sum.inr b]) (key_tup [Sum.inr a, Sum.inr b]) (ed_tup (ea_cons ha (ea_cons hb ea_nil))) h).cast (by rw [look_pt])
theorem len_f {l : List Str} {p : Str → Bool} : ((l.filter p).map fun x => strD x).length = (l.filter p).length := List.length_map _
abbrev r_Demand_need (K : PySem.W.Frag) : List Den → Own → Own → Den → Prop := pu (fun a : DeA × Str => okDe a.1) (fun a => [demD K a.1, strD a.2]) (fun a => intD (needZ a.1 a.2))
theorem ok_Demand_need (T : Txt K mg) : FnOk P w K mg base CX0 1 (a_Demand_need K) (fdOf K (a_Demand_need K)) ["self", "name"] (DefSp (r_Demand_need K)) := by
  refine ow_ok (F_Demand_need T) sc_Demand_need (fun _ => rfl) fun cdv A outer s H E hr => ⟨_, PSs.nox (pss_one (ps_ret (pe_callB (call_max2 rfl) (by rfl) (z_max T) boot_max (pa_cons pe_int (pa_cons (pe_op op_sub (pe_fldK (K := K) (pv 0)) (pe_callB (call_lenK (K := K)) (by rfl) (z_len T) boot_len (pa_cons (pe_lc (own := [("other", 2)]) (by rfl) sc_Demand_need.nd (pi_listK (K := K) (pe_fldK (K := K) (pv 0))) (blkOk_by (N := n_Demand_need) (sc := defScope s_Demand_need) (by decide +kernel)) (fun _ _ _ _ _ => (pg_name (i := 2) sc_Demand_need.nd rfl (Or.inl rfl))) (fun _ _ _ _ _ => (pts_one (pt_cmp (pc_din (rm1 hr) (pe_tup (pa_cons (pv 1) (pa_cons (pv 2) pa_nil))) (pe_fldK (K := K) (pv 0)))))) (fun _ _ _ _ _ => (pv 2))) pa_nil))) pa_nil))))), ?_⟩
  rintro ⟨d, n⟩ h
  dsimp only at h ⊢
  refine sb_ret (ed_cb (ea_cons ed_c (ea_cons (ed_op (ed_fld (ed_var rfl) (c_Demand T) (na_Demand_own_least T) rfl) (B := intD (cntO d n : Nat)) ?_ od_sub) ea_nil)) cd_max)
  have el : cntO d n = ((d.others.filter fun o => decide ((n, o) ∈ d.told)).map fun x => strD x).length := by rw [List.length_map]; rfl
  rw [el]
  exact ed_cb (ea_cons (ed_lc (ei_list (ed_fld (ed_var rfl) (c_Demand T) (na_Demand_own_others T) rfl)) (fun o _ => gd_name) (fun o _ => et_B (ed_told (ed_var rfl) (ed_var rfl) (ed_fld (ed_var rfl) (c_Demand T) (na_Demand_own_told T) rfl))) (fun o _ _ => ed_var rfl) (by decide) (by have := h.o; omega)) ea_nil) (cd_len (by rw [List.length_map]; exact Nat.le_trans (List.length_filter_le _ _) (by have := h.o; omega)))
abbrev r_Demand_room_at (K : PySem.W.Frag) : List Den → Own → Own → Den → Prop := pu (fun a : DeA × Str × Int => okDe a.1) (fun a => [demD K a.1, strD a.2.1, intD a.2.2]) (fun a => intD (roomZ a.1 a.2.1 a.2.2))
theorem ok_Demand_room_at (T : Txt K mg) : FnOk P w K mg base CX0 1 (a_Demand_room_at K) (fdOf K (a_Demand_room_at K)) ["self", "other", "most"] (DefSp (r_Demand_room_at K)) := by
  refine ow_ok (F_Demand_room_at T) sc_Demand_room_at (fun _ => rfl) fun cdv A outer s H E hr => ⟨_, PSs.nox (pss_cons (ps_if (pt_cmpR op_isN (pe_fldK (K := K) (pv 0)) pe_non (nomark _)) (pss_one (ps_ret (pv 2))) pss_nil)
  (pss_one (ps_ret (pe_op op_sub (pe_fldK (K := K) (pv 0)) (pe_callB (call_lenK (K := K)) (by rfl) (z_len T) boot_len (pa_cons (pe_lc (own := [("name", 3)]) (by rfl) sc_Demand_room_at.nd (pi_listK (K := K) (pe_fldK (K := K) (pv 0))) (blkOk_by (N := n_Demand_room_at) (sc := defScope s_Demand_room_at) (by decide +kernel)) (fun _ _ _ _ _ => (pg_name (i := 3) sc_Demand_room_at.nd rfl (Or.inl rfl))) (fun _ _ _ _ _ => (pts_one (pt_cmp (pc_din (rm1 hr) (pe_tup (pa_cons (pv 3) (pa_cons (pv 1) pa_nil))) (pe_fldK (K := K) (pv 0)))))) (fun _ _ _ _ _ => (pv 3))) pa_nil)))))), ?_⟩
  rintro ⟨d, o, most⟩ h
  dsimp only at h ⊢
  cases ht : d.top with
  | none =>
    have e : roomZ d o most = most := by unfold roomZ; rw [ht]
    rw [e]
    refine sb_ifs (b := true) (et_test (ed_op (ed_fld (R := optD d.top) (ed_var rfl) (c_Demand T) (na_Demand_own_top T) rfl) ed_c (by rw [optD_none ht]; exact od_isN))) (fun _ => sb_stop (sb_ret (ed_var rfl))) fun z => nomatch z
  | some k =>
    have e : roomZ d o most = k - (cntN d.told d.names o : Nat) := by unfold roomZ; rw [ht]
    rw [e]
    refine sb_ifs (b := false) (et_test (ed_op (ed_fld (R := optD d.top) (ed_var rfl) (c_Demand T) (na_Demand_own_top T) rfl) ed_c (by rw [optD_some ht]; exact od_isN' notN_int))) (fun z => nomatch z) fun _ => sb_skip ?_
    refine sb_ret (ed_op ((ed_fld (R := optD d.top) (ed_var rfl) (c_Demand T) (na_Demand_own_top T) rfl).cast (optD_some ht)) (B := intD (cntN d.told d.names o : Nat)) ?_ od_sub)
    have el : cntN d.told d.names o = ((d.names.filter fun n => decide ((n, o) ∈ d.told)).map fun x => strD x).length := by rw [List.length_map]; rfl
    rw [el]
    exact ed_cb (ea_cons (ed_lc (ei_list (ed_fld (ed_var rfl) (c_Demand T) (na_Demand_own_names T) rfl)) (fun o _ => gd_name) (fun o _ => et_B (ed_told (ed_var rfl) (ed_var rfl) (ed_fld (ed_var rfl) (c_Demand T) (na_Demand_own_told T) rfl))) (fun o _ _ => ed_var rfl) (by decide) (by have := h.n; omega)) ea_nil) (cd_len (by rw [List.length_map]; exact Nat.le_trans (List.length_filter_le _ _) (by have := h.n; omega)))
abbrev r_Demand_new_room (K : PySem.W.Frag) : List Den → Own → Own → Den → Prop := pu (fun a : DeA × Int => okDe a.1) (fun a => [demD K a.1, intD a.2]) (fun a => intD (newZ a.1 a.2))
theorem ok_Demand_new_room (T : Txt K mg) : FnOk P w K mg base CX0 1 (a_Demand_new_room K) (fdOf K (a_Demand_new_room K)) ["self", "most"] (DefSp (r_Demand_new_room K)) := by
  refine ow_ok (F_Demand_new_room T) sc_Demand_new_room (fun _ => rfl) fun cdv A outer s H E hr => ⟨_, PSs.nox (pss_one (ps_ret (pe_ifExp (pt_cmpR op_isN (pe_fldK (K := K) (pv 0)) pe_non (nomark _)) (pv 1) (pe_callB (call_min2 rfl) (by rfl) (z_min T) boot_min (pa_cons (pe_fldK (K := K) (pv 0)) (pa_cons (pv 1) pa_nil)))))), ?_⟩
  rintro ⟨d, most⟩ h
  dsimp only at h ⊢
  cases ht : d.top with
  | none =>
    have e : newZ d most = most := by unfold newZ; rw [ht]
    rw [e]
    exact sb_ret (ed_if (b := true) (et_test (ed_op (ed_fld (R := optD d.top) (ed_var rfl) (c_Demand T) (na_Demand_own_top T) rfl) ed_c (by rw [optD_none ht]; exact od_isN))) (fun _ => ed_var rfl) fun z => nomatch z)
  | some k =>
    have e : newZ d most = min k most := by unfold newZ; rw [ht]
    rw [e]
    exact sb_ret (ed_if (b := false) (et_test (ed_op (ed_fld (R := optD d.top) (ed_var rfl) (c_Demand T) (na_Demand_own_top T) rfl) ed_c (by rw [optD_some ht]; exact od_isN' notN_int))) (fun z => nomatch z) fun _ => ed_cb (ea_cons ((ed_fld (R := optD d.top) (ed_var rfl) (c_Demand T) (na_Demand_own_top T) rfl).cast (optD_some ht)) (ea_cons (ed_var rfl) ea_nil)) cd_min)
structure LaA where
  d : DeA
  names : List Str
  mine : Int
structure okLa (a : LaA) : Prop where
  d : okDe a.d
  n : a.names.length ≤ 60
  m : 0 ≤ a.mine ∧ a.mine ≤ 10 ^ 50
abbrev r_Demand_lack (K : PySem.W.Frag) : List Den → Own → Own → Den → Prop := pu okLa (fun a => [demD K a.d, strsT a.names, intD a.mine]) (fun a => intD (lackZ a.d a.names a.mine))
theorem ok_Demand_lack (T : Txt K mg) : FnOk P w K mg base CX0 2 (a_Demand_lack K) (fdOf K (a_Demand_lack K)) ["self", "names", "mine"] (DefSp (r_Demand_lack K)) := by
  refine ow_ok (F_Demand_lack T) sc_Demand_lack (fun _ => rfl) fun cdv A outer s H E hr => ⟨_, PSs.nox (pss_one (ps_ret (pe_op op_add (pe_callB (cr_sumK (K := K) rfl) (by rfl) (z_sum T) boot_sum (pa_cons (pe_lc (own := [("name", 3)]) (by rfl) sc_Demand_lack.nd (pi_tupK (K := K) (pv 1)) (blkOk_by (N := n_Demand_lack) (sc := defScope s_Demand_lack) (by decide +kernel)) (fun _ _ _ _ _ => (pg_name (i := 3) sc_Demand_lack.nd rfl (Or.inl rfl))) (fun _ _ _ _ _ => pts_nil) (fun _ _ _ _ _ => (pe_meth (pv 0) (c_Demand T) (m_Demand_need T) (ok_Demand_need T) (hr.mono (by decide)) (b_Demand_need T) .nil pass0 (pa_cons (pv 3) pa_nil)))) pa_nil)) (pe_op op_mulW (pv 2) (pe_fldK (K := K) (pv 0)))))), ?_⟩
  rintro ⟨d, names, mine⟩ h
  have hl := h.d.l
  have hm := h.m
  have hn := h.n
  dsimp only at hl hm hn ⊢
  refine sb_ret (ed_op (ed_cb (ea_cons (ed_lc0 (f := fun n => intD (needZ d n)) (ei_tup (ed_var rfl)) (fun n _ => gd_name) (fun n _ => ed_methP (α := DeA × Str) (d, n) (ed_var rfl) (ea_cons (ed_var rfl) ea_nil) h.d) (by decide) (by omega)) ea_nil) cd_sumM) (ed_op (ed_var rfl) (ed_fld (ed_var rfl) (c_Demand T) (na_Demand_own_least T) rfl) (od_mulW (by unfold sm; omega) (by unfold sm; omega))) od_add)
abbrev r_Demand_offer (K : PySem.W.Frag) : List Den → Own → Own → Den → Prop := pu okLa (fun a => [demD K a.d, strsT a.names, intD a.mine]) (fun a => intD (offerZ a.d a.names a.mine))
theorem ok_Demand_offer (T : Txt K mg) : FnOk P w K mg base CX0 2 (a_Demand_offer K) (fdOf K (a_Demand_offer K)) ["self", "names", "mine"] (DefSp (r_Demand_offer K)) := by
  refine ow_ok (F_Demand_offer T) sc_Demand_offer (fun _ => rfl) fun cdv A outer s H E hr => ⟨_, PSs.nox (pss_cons (ps_par (i := 4) (j := 5) (by rfl) sc_Demand_offer.nd rfl rfl (by decide) rfl rfl (pa_cons (pe_op op_add (pe_callB (call_lenK (K := K)) (by rfl) (z_len T) boot_len (pa_cons (pv 1) pa_nil)) (pv 2)) (pa_cons pe_int pa_nil)) (by rfl))
  (pss_cons (ps_for PassesOwn.never rfl (pi_listK (K := K) (pe_fldK (K := K) (pv 0))) (pg_name (i := 3) sc_Demand_offer.nd rfl (Or.inr rfl))
  (pss_cons (ps_set (i := 6) sc_Demand_offer.nd rfl (Or.inl rfl) (pe_op op_sub (pv 4) (pe_callB (call_lenK (K := K)) (by rfl) (z_len T) boot_len (pa_cons (pe_lc (own := [("name", 7)]) (by rfl) sc_Demand_offer.nd (pi_tupK (K := K) (pv 1)) (blkOk_by (N := n_Demand_offer) (sc := defScope s_Demand_offer) (by decide +kernel)) (fun _ _ _ _ _ => (pg_name (i := 7) sc_Demand_offer.nd rfl (Or.inl rfl))) (fun _ _ _ _ _ => (pts_one (pt_cmp (pc_din (rm1 hr) (pe_tup (pa_cons (pv 7) (pa_cons (pv 3) pa_nil))) (pe_fldK (K := K) (pv 0)))))) (fun _ _ _ _ _ => (pv 7))) pa_nil))))
  (pss_one (ps_aug (i := 5) sc_Demand_offer.nd rfl (Or.inl rfl) (pe_callB (call_min2 rfl) (by rfl) (z_min T) boot_min (pa_cons (pv 6) (pa_cons (pe_meth (pv 0) (c_Demand T) (m_Demand_room_at T) (ok_Demand_room_at T) (hr.mono (by decide)) (b_Demand_room_at T) .nil pass0 (pa_cons (pv 3) (pa_cons (pv 6) pa_nil))) pa_nil))) ip_add))))
  (pss_one (ps_ret (pv 5))))), ?_⟩
  rintro ⟨d, names, mine⟩ h
  have hd := h.d
  have hm := h.m
  have hn := h.n
  dsimp only at hd hm hn ⊢
  refine sb_seq (sb_par (ea_cons (ed_op (ed_cb (ea_cons (ed_var rfl) ea_nil) cd_lenT) (ed_var rfl) od_add) (ea_cons ed_c ea_nil))) ?_
  have e0 : ((names.map fun x => strD x).length : Int) = ((names.length : Nat) : Int) := by rw [List.length_map]
  rw [e0]
  refine sb_seq (Os1 := []) (Γ1 := [some (demD K d), some (strsT names), some (intD mine), none, some (intD (((names.length : Nat) : Int) + mine)), some (intD (offerZ d names mine)), none, none]) (sb_forP (xs := d.others) (Oz := fun _ => []) (Γs := fun pre => [some (demD K d), some (strsT names), some (intD mine), none, some (intD (((names.length : Nat) : Int) + mine)), some (intD (pre.map fun o => min (freeZ d names mine o) (roomZ d o (freeZ d names mine o))).sum), none, none]) (ei_list (ed_fld (ed_var rfl) (c_Demand T) (na_Demand_own_others T) rfl)) rfl (fun _ => rfl) .refl (fun pre o post _ => ⟨_, _, gd_name, ?_⟩) ⟨rfl, rfl⟩) (sb_ret (ed_var rfl))
  have el : cntN d.told names o = ((names.filter fun n => decide ((n, o) ∈ d.told)).map fun x => strD x).length := by rw [List.length_map]; rfl
  refine sb_seq (sb_asg (A := intD (freeZ d names mine o)) (ed_op (ed_var rfl) (B := intD (cntN d.told names o : Nat)) ?_ od_sub)) ?_
  · rw [el]
    exact ed_cb (ea_cons (ed_lc (ei_tup (ed_var rfl)) (fun o _ => gd_name) (fun o _ => et_B (ed_told (ed_var rfl) (ed_var rfl) (ed_fld (ed_var rfl) (c_Demand T) (na_Demand_own_told T) rfl))) (fun o _ _ => ed_var rfl) (by decide) (by omega)) ea_nil) (cd_len (by rw [List.length_map]; exact Nat.le_trans (List.length_filter_le _ _) (by omega)))
  · have z := sb_aug (Os := []) (i := 5) (f := fun i j => i + j) (O := fun o d' => o = [] ∧ Dn.Sub d' (intD (offerZ d names mine))) (te := tCB (fun xs H Q => ∃ i j, xs = [.int i, .int j] ∧ Q (.int (if j < i then j else i)) H) (tCons (tVar 6) (tCons (tMeth (C_Demand K) "room_at" (DefSp (r_Demand_room_at K)) [] E0 (tVar 0) (tCons (tVar 3) (tCons (tVar 6) tNil))) tNil))) (Γ := [some (demD K d), some (strsT names), some (intD mine), some (strD o), some (intD (((names.length : Nat) : Int) + mine)), some (intD (pre.map fun o => min (freeZ d names mine o) (roomZ d o (freeZ d names mine o))).sum), some (intD (freeZ d names mine o)), none]) rfl (ed_cb (ea_cons (ed_var (i := 6) rfl) (ea_cons (ed_methP (α := DeA × Str × Int) (d, o, freeZ d names mine o) (ed_var (i := 0) rfl) (ea_cons (ed_var (i := 3) rfl) (ea_cons (ed_var (i := 6) rfl) ea_nil)) hd) ea_nil)) cd_min) (N := to [] _) ⟨rfl, rfl⟩
    refine z.less ?_
    have e : ((pre ++ [o]).map fun o => min (freeZ d names mine o) (roomZ d o (freeZ d names mine o))).sum = (pre.map fun o => min (freeZ d names mine o) (roomZ d o (freeZ d names mine o))).sum + min (freeZ d names mine o) (roomZ d o (freeZ d names mine o)) := by rw [List.map_append, List.sum_append]; simp
    rw [e]
    exact .keep (.keep (.keep (.drop (.keep (.keep (.drop (.drop .nil)))))))
structure TmA where
  la : LaA
  others : Int
theorem newZ_sm {d : DeA} (h : okDe d) {most : Int} (hm : 0 ≤ most ∧ most ≤ 10 ^ 51) : sm (newZ d most) := by
  unfold newZ sm
  cases ht : d.top with
  | none => dsimp only; omega
  | some k => have := h.t k ht; dsimp only; omega
abbrev r_Demand_is_too_much (K : PySem.W.Frag) : List Den → Own → Own → Den → Prop := pu (fun a : TmA => okLa a.la ∧ 0 ≤ a.others ∧ a.others ≤ 10 ^ 50) (fun a => [demD K a.la.d, strsT a.la.names, intD a.la.mine, intD a.others]) (fun a => blD (tooB a.la.d a.la.names a.la.mine a.others))
theorem ok_Demand_is_too_much (T : Txt K mg) : FnOk P w K mg base CX0 3 (a_Demand_is_too_much K) (fdOf K (a_Demand_is_too_much K)) ["self", "names", "mine", "others"] (DefSp (r_Demand_is_too_much K)) := by
  refine ow_ok (F_Demand_is_too_much T) sc_Demand_is_too_much (fun _ => rfl) fun cdv A outer s H E hr => ⟨_, PSs.nox (pss_cons (ps_set (i := 4) sc_Demand_is_too_much.nd rfl (Or.inl rfl) (pe_op op_add (pe_meth (pv 0) (c_Demand T) (m_Demand_offer T) (ok_Demand_offer T) (hr.mono (by decide)) (b_Demand_offer T) .nil pass0 (pa_cons (pv 1) (pa_cons (pv 2) pa_nil))) (pe_op op_mulW (pv 3) (pe_meth (pv 0) (c_Demand T) (m_Demand_new_room T) (ok_Demand_new_room T) (hr.mono (by decide)) (b_Demand_new_room T) .nil pass0 (pa_cons (pe_op op_add (pe_callB (call_lenK (K := K)) (by rfl) (z_len T) boot_len (pa_cons (pv 1) pa_nil)) (pv 2)) pa_nil)))))
  (pss_one (ps_ret (pe_cmpR op_gt (pe_meth (pv 0) (c_Demand T) (m_Demand_lack T) (ok_Demand_lack T) (hr.mono (by decide)) (b_Demand_lack T) .nil pass0 (pa_cons (pv 1) (pa_cons (pv 2) pa_nil))) (pv 4) (nomark _))))), ?_⟩
  rintro ⟨⟨d, names, mine⟩, others⟩ ⟨h, h2⟩
  have hd := h.d
  have hm := h.m
  have hn := h.n
  dsimp only at hd hm hn h2 ⊢
  have e0 : ((names.map fun x => strD x).length : Int) = ((names.length : Nat) : Int) := by rw [List.length_map]
  refine sb_seq (sb_asg (A := intD (offerZ d names mine + others * newZ d (((names.length : Nat) : Int) + mine))) (ed_op (ed_methP (α := LaA) ⟨d, names, mine⟩ (ed_var rfl) (ea_cons (ed_var rfl) (ea_cons (ed_var rfl) ea_nil)) h) (ed_op (ed_var rfl) (ed_methP (α := DeA × Int) (d, ((names.length : Nat) : Int) + mine) (ed_var rfl) (ea_cons ((ed_op (ed_cb (ea_cons (ed_var rfl) ea_nil) cd_lenT) (ed_var rfl) od_add).cast (by rw [e0])) ea_nil) hd) (od_mulW (by unfold sm; omega) (newZ_sm hd (by omega)))) od_add)) ?_
  exact sb_ret (ed_op (ed_methP (α := LaA) ⟨d, names, mine⟩ (ed_var rfl) (ea_cons (ed_var rfl) (ea_cons (ed_var rfl) ea_nil)) h) (ed_var rfl) od_gt)
end
end Pr
/-! VG -/
namespace Pr
open PySem PySem.Spec PyProof.Rows L2 Dn Rb
def pastN (t : ToA) (k : Str) (e : Bool) (n : Str) : Bool := match (manyAt t.mo.2 k e).2 with
  | none => false
  | some top => decide (top < ((degC (lk t.prs k) e n : Nat) : Int))
def pastE (t : ToA) (k : Str) (e : Bool) : Bool := (namesOf t.rows (kindAt t.mo.2 k e)).any (pastN t k e)
def pastK (t : ToA) (k : Str) : Bool := [false, true].any (pastE t k)
def pastB (t : ToA) : Bool := (t.mo.2.map (·.1)).any (pastK t)
def resP : Bool → Den
  | false => nonD
  | true => tupAny
theorem all_pre {α : Type} {f : α → Bool} {pre : List α} {x : α} (h : ∀ q, q ∈ pre → f q = false) (hx : f x = false) : ∀ q, q ∈ pre ++ [x] → f q = false := fun q hq => by
  rcases List.mem_append.mp hq with m | m
  · exact h q m
  · rw [List.mem_singleton.mp m]; exact hx
theorem any_false {α : Type} {f : α → Bool} {l : List α} (h : ∀ q, q ∈ l → f q = false) : l.any f = false := by
  rw [List.any_eq_false]
  intro x hx
  rw [h x hx]
  decide
def newsC (t : ToA) (cs : Cs) : Cs := (Srt.srt t.mo.1).map fun k => (k, lk cs k - ((namesOf t.rows k).length : Nat))
section
variable {P : Program} {w : World} {K : PySem.W.Frag} {mg : Str → Option Value} {base : Heap}
theorem ed_mod {te : TE} {Γ : Dn.Ctx} {Os : Own} {t : ToA} (h : ED Os te Γ (toldD K t)) : ED Os (tProp (C_Told K) (DefSp (r_Told_model K)) [] E0 te) Γ (modelD K t.mo.1 t.mo.2) := ed_propP (α := ToA) t h trivial
abbrev r_past_row (K : PySem.W.Frag) : List Den → Own → Own → Den → Prop := pu (fun t : ToA => okTo t) (fun t => [toldD K t]) (fun t => resP (pastB t))
theorem ok_past_row (T : Txt K mg) : FnOk P w K mg base CX0 6 (a_past_row K) (fdOf K (a_past_row K)) ["told"] (DefSp (r_past_row K)) := by
  refine ow_ok (F_past_row T) sc_past_row (fun _ => rfl) fun cdv A outer s H E hr => ⟨_, PSs.nox (pss_cons (ps_for PassesOwn.never rfl (pi_keys (pe_meth0 (pe_prop (pv 0) (c_Told T) (po_Told_model T) (ok_Told_model T) (hr.mono (by decide)) (b_Told_model T) .nil pass0 rfl) (c_Model T) (m_Model_links T) (ok_Model_links T) (hr.mono (by decide)) (b_Model_links T) .nil pass0)) (pg_name (i := 1) sc_past_row.nd rfl (Or.inl rfl))
  (pss_one (ps_for PassesOwn.never rfl (pi_tupK (K := K) (pe_glob rfl (gt_ENDS T) (rx_ENDS T))) (pg_name (i := 2) sc_past_row.nd rfl (Or.inl rfl))
  (pss_cons (ps_set (i := 3) sc_past_row.nd rfl (Or.inl rfl) (SlX.pe_propSl (E := E0) (pe_meth (pe_prop (pv 0) (c_Told T) (po_Told_model T) (ok_Told_model T) (hr.mono (by decide)) (b_Told_model T) .nil pass0 rfl) (c_Model T) (m_Model_many_at T) (ok_Model_many_at T) (hr.mono (by decide)) (b_Model_many_at T) .nil pass0 (pa_cons (pv 1) (pa_cons (pv 2) pa_nil))) (scls T) (po_Many_most T).at_ (po_Many_most T).get (po_Many_most T).tak (po_Many_most T).rec_ ((ok_Many_most T).raw (b_Many_most T) .nil) (hr.mono (by decide)) (fun _ _ _ _ z => z)))
  (pss_one (ps_for PassesOwn.never rfl (pi_listK (K := K) (pe_meth (pv 0) (c_Told T) (m_Told_rows T) (ok_Told_rows T) (hr.mono (by decide)) (b_Told_rows T) .nil pass0 (pa_cons (pe_meth (pe_prop (pv 0) (c_Told T) (po_Told_model T) (ok_Told_model T) (hr.mono (by decide)) (b_Told_model T) .nil pass0 rfl) (c_Model T) (m_Model_kind_at T) (ok_Model_kind_at T) (hr.mono (by decide)) (b_Model_kind_at T) .nil pass0 (pa_cons (pv 1) (pa_cons (pv 2) pa_nil))) pa_nil))) (pg_name (i := 4) sc_past_row.nd rfl (Or.inl rfl))
  (pss_one (ps_if (PW.pt (pw_and (pt_cmpR op_notN (pv 3) pe_non (nomark _)) (pw_and1 (pt_cmpR op_gt (pe_meth (pv 0) (c_Told T) (m_Told_degree T) (ok_Told_degree T) (hr.mono (by decide)) (b_Told_degree T) .nil pass0 (pa_cons (pv 1) (pa_cons (pv 2) (pa_cons (pv 4) pa_nil)))) (pv 3) (nomark _))))) (pss_one (ps_ret (pe_tup (pa_cons pe_str (pa_cons (pv 1) (pa_cons (pv 2) (pa_cons (pv 4) pa_nil))))))) pss_nil))))))))
  (pss_one (ps_ret pe_non))), ?_⟩
  intro t h
  refine sb_seqG (M := tw (∀ q, q ∈ srtL t.mo.2 → pastK t q.1 = false) [] [some (toldD K t), none, none, none, none]) (sb_forIS (xs := srtL t.mo.2) (d := fun q => strD q.1) (Γ' := [some (toldD K t), none, none, none, none]) (fun pre => ∀ q, q ∈ pre → pastK t q.1 = false) (ei_keysS (ed_methP (α := MoA) t.mo (ed_mod (ed_var rfl)) ea_nil h.mo)) (fun q z => nomatch z) .refl (fun pre q post sp hI => ?_) fun hI => ⟨hI, rfl, .refl⟩) fun o g m => ?_
  · have hq : q.1 ∈ t.mo.2.map (·.1) := mem_srtL.mp (List.mem_map.mpr ⟨q, by rw [sp]; exact List.mem_append_right _ List.mem_cons_self, rfl⟩)
    refine ⟨_, _, gd_name, ?_⟩
    refine sb_forIS (xs := [V.str "near", V.str "far"]) (d := valD) (Γ' := [some (toldD K t), some (strD q.1), none, none, none]) (fun pre => ∀ e : Bool, V.str (endS e) ∈ pre → pastE t q.1 e = false) (ei_tupK (ends_at T) ed_c) (fun e z => nomatch z) .refl (fun pre2 v post2 sp2 hI2 => ?_) fun hI2 => ⟨all_pre hI ?_, rfl, .keep (.drop (.drop (.drop (.drop .nil))))⟩
    · obtain ⟨e, ev⟩ : ∃ e : Bool, v = V.str (endS e) := by
        have m : v ∈ [V.str "near", V.str "far"] := by rw [sp2]; exact List.mem_append_right _ List.mem_cons_self
        rcases List.mem_cons.mp m with z | z
        · exact ⟨false, z⟩
        · exact ⟨true, List.mem_singleton.mp z⟩
      subst ev
      obtain ⟨k1, k2⟩ := h.kind hq e
      refine ⟨_, _, gd_name, ?_⟩
      refine sb_seq (Γ1 := [some (toldD K t), some (strD q.1), some (strD (endS e)), some (optD (manyAt t.mo.2 q.1 e).2), none]) (Os1 := []) (sb_asg (ed_propSl (α := Mny) (manyAt t.mo.2 q.1 e) (ed_methP (α := AtA) ⟨t.mo, q.1, e⟩ (ed_mod (ed_var rfl)) (ea_cons (ed_var rfl) (ea_cons (ed_var rfl) ea_nil)) ⟨h.mo, hq⟩) trivial)) ?_
      refine sb_forIS (xs := namesOf t.rows (kindAt t.mo.2 q.1 e)) (d := fun n => strD n) (Γ' := [some (toldD K t), some (strD q.1), some (strD (endS e)), some (optD (manyAt t.mo.2 q.1 e).2), none]) (fun pre => ∀ n, n ∈ pre → pastN t q.1 e n = false) (ei_list (ed_methP (α := ToA × Str) (t, kindAt t.mo.2 q.1 e) (ed_var rfl) (ea_cons (ed_methP (α := AtA) ⟨t.mo, q.1, e⟩ (ed_mod (ed_var rfl)) (ea_cons (ed_var rfl) (ea_cons (ed_var rfl) ea_nil)) ⟨h.mo, hq⟩) ea_nil) ⟨h, k1⟩)) (fun n z => nomatch z) .refl (fun pre3 n post3 sp3 hI3 => ?_) fun hI3 => ⟨fun e' he' => ?_, rfl, .keep (.keep (.drop (.drop (.drop .nil))))⟩
      · have hn : n ∈ namesOf t.rows (kindAt t.mo.2 q.1 e) := by rw [sp3]; exact List.mem_append_right _ List.mem_cons_self
        refine ⟨_, _, gd_name, ?_⟩
        have hret : pastN t q.1 e n = true → pastB t = true := fun z => by
          unfold pastB
          rw [List.any_eq_true]
          refine ⟨q.1, hq, ?_⟩
          unfold pastK
          rw [List.any_eq_true]
          refine ⟨e, by cases e <;> simp, ?_⟩
          unfold pastE
          rw [List.any_eq_true]
          exact ⟨n, hn, z⟩
        have hdeg : ED [] (tMeth (C_Told K) "degree" (DefSp (r_Told_degree K)) [] E0 (tVar 0) (tCons (tVar 1) (tCons (tVar 2) (tCons (tVar 4) tNil)))) [some (toldD K t), some (strD q.1), some (strD (endS e)), some (optD (manyAt t.mo.2 q.1 e).2), some (strD n)] (intD (degC (lk t.prs q.1) e n : Nat)) := ed_methP (α := DgA) ⟨t, q.1, e, n⟩ (ed_var rfl) (ea_cons (ed_var rfl) (ea_cons (ed_var rfl) (ea_cons (ed_var rfl) ea_nil))) ⟨h, hq, hn⟩
        have hdone : ∀ {g : Dn.Ctx}, pastN t q.1 e n = false → g = [some (toldD K t), some (strD q.1), some (strD (endS e)), some (optD (manyAt t.mo.2 q.1 e).2), some (strD n)] → (∀ m, m ∈ pre3 ++ [n] → pastN t q.1 e m = false) ∧ ([] : Own) = [] ∧ Less [some (toldD K t), some (strD q.1), some (strD (endS e)), some (optD (manyAt t.mo.2 q.1 e).2), none] g := fun z eg => ⟨all_pre hI3 z, rfl, by subst eg; exact .keep (.keep (.keep (.keep (.drop .nil))))⟩
        cases ht : (manyAt t.mo.2 q.1 e).2 with
        | none =>
          have hp : pastN t q.1 e n = false := by unfold pastN; rw [ht]
          rw [ht] at hdone
          exact sb_if (b := false) (et_and (a := false) (b := false) (et_test (ed_op (ed_var (R := nonD) rfl) ed_c od_notN)) fun z => nomatch z) (fun z => nomatch z) fun _ => sb_next (hdone hp rfl)
        | some top =>
          rw [ht] at hdone hdeg
          have hp : pastN t q.1 e n = decide (top < ((degC (lk t.prs q.1) e n : Nat) : Int)) := by unfold pastN; rw [ht]
          refine sb_if (b := pastN t q.1 e n) (et_and (a := true) (b := pastN t q.1 e n) (et_test (ed_op (ed_var (R := intD top) rfl) ed_c (od_notN' notN_int))) fun _ => et_test (ED.cast (ed_op hdeg (ed_var (R := intD top) rfl) od_gt) (by rw [hp]))) (fun z => ?_) fun z => sb_next (hdone z rfl)
          refine sb_ret (ed_tup (ea_cons ed_c (ea_cons (ed_var rfl) (ea_cons (ed_var rfl) (ea_cons (ed_var rfl) ea_nil))))) ⟨rfl, ?_⟩
          rw [hret z]
          exact sub_any
      · rcases List.mem_append.mp he' with m | m
        · exact hI2 e' m
        · have ee : e' = e := by
            have := List.mem_singleton.mp m
            cases e <;> cases e' <;> first | rfl | (exact absurd this (by decide))
          rw [ee]
          exact any_false hI3
    · unfold pastK
      exact any_false fun e _ => hI2 e (by cases e <;> decide)
  · obtain ⟨m1, m2, m3⟩ := m
    subst m2
    have hb : pastB t = false := by
      unfold pastB
      refine any_false fun k hk => ?_
      obtain ⟨q, hq, e⟩ := List.mem_map.mp (mem_srtL.mpr hk)
      rw [← e]
      exact m1 q hq
    rw [hb]
    exact sb_ret ed_c
structure NcA where
  t : ToA
  cs : Cs
def okNc (a : NcA) : Prop := okTo a.t ∧ (a.cs.map (·.1)).Nodup ∧ ∀ k, k ∈ a.t.mo.1 → k ∈ a.cs.map (·.1)
abbrev r_new_counts (K : PySem.W.Frag) : List Den → Own → Own → Den → Prop := pu okNc (fun a => [toldD K a.t, sizesD K a.cs]) (fun a => csD (newsC a.t a.cs))
theorem ok_new_counts (T : Txt K mg) : FnOk P w K mg base CX0 5 (a_new_counts K) (fdOf K (a_new_counts K)) ["told", "sizes"] (DefSp (r_new_counts K)) := by
  refine ow_ok (F_new_counts T) sc_new_counts (fun _ => rfl) fun cdv A outer s H E hr => ⟨_, PSs.nox (pss_one (ps_ret (pe_frz (pe_dc (own := [("kind", 2)]) (by rfl) sc_new_counts.nd (pi_listK (K := K) (pe_meth0 (pe_prop (pv 0) (c_Told T) (po_Told_model T) (ok_Told_model T) (hr.mono (by decide)) (b_Told_model T) .nil pass0 rfl) (c_Model T) (m_Model_kinds T) (ok_Model_kinds T) (hr.mono (by decide)) (b_Model_kinds T) .nil pass0)) (blkOk_by (N := n_new_counts) (sc := defScope s_new_counts) (by decide +kernel)) (fun _ _ _ _ _ => (pg_name (i := 2) sc_new_counts.nd rfl (Or.inl rfl))) (fun _ _ _ _ _ => pts_nil) (fun _ _ _ _ _ => (pv 2)) (fun _ _ _ _ _ => (pe_op op_sub (pe_ownGet (oo_Sizes_getitem T) (fi_Sizes_getitem T) (ok_Sizes_getitem T) (hr.mono (by decide)) (b_Sizes_getitem T) (pv 1) (pv 2)) (pe_callB (call_lenK (K := K)) (by rfl) (z_len T) boot_len (pa_cons (pe_meth (pv 0) (c_Told T) (m_Told_rows T) (ok_Told_rows T) (hr.mono (by decide)) (b_Told_rows T) .nil pass0 (pa_cons (pv 2) pa_nil)) pa_nil)))))))), ?_⟩
  rintro ⟨t, cs⟩ ⟨h1, h2, h3⟩
  dsimp only at h1 h2 h3 ⊢
  have e : (newsC t cs).map (fun p => ((Sum.inr p.1 : Key), Dn.intD p.2)) = (Srt.srt t.mo.1).map fun k => ((Sum.inr k : Key), Dn.intD (lk cs k - ((namesOf t.rows k).length : Nat))) := by unfold newsC; rw [List.map_map]; rfl
  refine sb_ret (R := csD (newsC t cs)) (ED.cast (ed_dc (xs := Srt.srt t.mo.1) (key := fun k => .inr k) (f := fun k => intD (lk cs k - ((namesOf t.rows k).length : Nat))) (ei_list (ed_methP (α := MoA) t.mo (ed_mod (ed_var rfl)) ea_nil trivial)) (fun k _ => gd_name) (fun k _ => ed_var rfl) (fun k hk => ?_) (nodup_inr ((Srt.srt_perm _).nodup_iff.mpr h1.mo.nd)) (by decide) (by rw [Srt.length_srt]; have := h1.mo.le; omega)) (congrArg dkD e.symm))
  have hk' := Srt.mem_srt.mp hk
  have el : ((namesOf t.rows k).map fun x => strD x).length = (namesOf t.rows k).length := List.length_map _
  have hl : (namesOf t.rows k).length ≤ 60 := by
    unfold namesOf
    rw [List.length_map]
    exact Nat.le_trans (List.length_filter_le _ _) h1.rle
  rw [← el]
  exact ed_op (ed_op (ed_var rfl) (ed_var rfl) (od_ownGet (α := Cs × Str) (cs, k) ⟨h2, h3 k hk'⟩)) (ed_cb (ea_cons (ed_methP (α := ToA × Str) (t, k) (ed_var rfl) (ea_cons (ed_var rfl) ea_nil) ⟨h1, hk'⟩) ea_nil) (cd_len (by rw [List.length_map]; show (namesOf t.rows k).length ≤ _; omega))) od_sub
structure CnA where
  t : ToA
  cs : Cs
  b : Bool
  k : Str
  e : Bool
structure okCn (a : CnA) : Prop where
  t : okTo a.t
  cc : okCc ⟨a.t.mo, a.cs, a.b⟩
  nn : ∀ p, p ∈ newsC a.t a.cs → 0 ≤ p.2
  k : a.k ∈ a.t.mo.2.map (·.1)
theorem okCc.nc {t : ToA} {cs : Cs} {b : Bool} (h : okTo t) (c : okCc ⟨t.mo, cs, b⟩) : okNc ⟨t, cs⟩ := ⟨h, c.2.1.nd, fun k hk => by
  have h1 : k ∈ Srt.srt t.mo.1 := Srt.mem_srt.mpr hk
  rw [← c.2.2] at h1
  exact Srt.mem_srt.mp h1⟩
abbrev r_checked_news (K : PySem.W.Frag) : List Den → Own → Own → Den → Prop := pu okCn (fun a => [toldD K a.t, csA K a.cs a.b, strD a.k, strD (endS a.e)]) (fun a => csD (newsC a.t a.cs))
theorem ok_checked_news (T : Txt K mg) : FnOk P w K mg base CX0 7 (a_checked_news K) (fdOf K (a_checked_news K)) ["told", "sizes", "link", "end"] (DefSp (r_checked_news K)) := by
  refine ow_ok (F_checked_news T) sc_checked_news (fun _ => rfl) fun cdv A outer s H E hr => ⟨_, PSs.nox (pss_cons (ps_expr (pe_call (ok_want_told T) (hr.mono (by decide)) rfl (g_want_told T) (F_want_told T).kp (b_want_told T) .nil pass0 (pa_cons (pv 0) pa_nil)))
  (pss_cons (ps_set (i := 4) sc_checked_news.nd rfl (Or.inr rfl) (pe_call (ok_new_counts T) (hr.mono (by decide)) rfl (g_new_counts T) (F_new_counts T).kp (b_new_counts T) .nil pass0 (pa_cons (pv 0) (pa_cons (pe_call (ok_sizes_for T) (hr.mono (by decide)) rfl (g_sizes_for T) (F_sizes_for T).kp (b_sizes_for T) .nil pass0 (pa_cons (pe_prop (pv 0) (c_Told T) (po_Told_model T) (ok_Told_model T) (hr.mono (by decide)) (b_Told_model T) .nil pass0 rfl) (pa_cons (pv 1) pa_nil))) pa_nil))))
  (pss_cons (ps_if (pt_val (pe_callB (cr_anyK (K := K) rfl) (by rfl) (z_any T) boot_any (pa_cons (pe_lc (own := [("kind", 5)]) (by rfl) sc_checked_news.nd (pi_keys (pv 4)) (blkOk_by (N := n_checked_news) (sc := defScope s_checked_news) (by decide +kernel)) (fun _ _ _ _ _ => (pg_name (i := 5) sc_checked_news.nd rfl (Or.inl rfl))) (fun _ _ _ _ _ => pts_nil) (fun _ _ _ _ _ => (pe_cmpR op_lt (pe_dget (rm1 hr) (pv 4) (pv 5) (fun _ _ => rfl)) pe_int (nomark _)))) pa_nil))) (pss_one ps_never) pss_nil)
  (pss_cons (ps_expr (pe_call (ok_want_link T) (hr.mono (by decide)) rfl (g_want_link T) (F_want_link T).kp (b_want_link T) .nil pass0 (pa_cons (pe_prop (pv 0) (c_Told T) (po_Told_model T) (ok_Told_model T) (hr.mono (by decide)) (b_Told_model T) .nil pass0 rfl) (pa_cons (pv 2) pa_nil))))
  (pss_cons (ps_expr (pe_call (ok_want_end T) (hr.mono (by decide)) rfl (g_want_end T) (F_want_end T).kp (b_want_end T) .nil pass0 (pa_cons (pv 3) pa_nil)))
  (pss_one (ps_ret (pv 4)))))))), ?_⟩
  rintro ⟨t, cs, b, k, e⟩ ⟨h1, h2, h3, h4⟩
  dsimp only at h1 h2 h3 h4 ⊢
  refine sb_seq (sb_drop (ed_callP (α := ToA) t (ea_cons (ed_var rfl) ea_nil) trivial)) ?_
  refine sb_seq (sb_asg (A := csD (newsC t cs)) (ed_callP (α := NcA) ⟨t, cs⟩ (ea_cons (ed_var rfl) (ea_cons (ed_callP (α := CcA) ⟨t.mo, cs, b⟩ (ea_cons (ed_mod (ed_var rfl)) (ea_cons (ed_var rfl) ea_nil)) h2) ea_nil)) (h2.nc h1))) ?_
  have nd : ((newsC t cs).map (·.1)).Nodup := by
    have e : (newsC t cs).map (·.1) = Srt.srt t.mo.1 := by unfold newsC; rw [List.map_map]; exact List.map_id _
    rw [e]
    exact (Srt.srt_perm _).nodup_iff.mpr h1.mo.nd
  have hl : (newsC t cs).length ≤ 60 := by unfold newsC; rw [List.length_map, Srt.length_srt]; have := h1.mo.le; omega
  have hany : ((newsC t cs).any fun p => decide (p.2 < 0)) = false := any_false fun p hp => decide_eq_false (by have := h3 p hp; omega)
  refine sb_ifs (b := false) (et_B (ed_ff (ed_cb (ea_cons (ed_lc0 (f := fun p : Str × Int => blD (decide (p.2 < 0))) (ei_keysS (ed_var rfl)) (fun p _ => gd_name) (fun p hp => ?_) (by decide) (by omega)) ea_nil) cd_anyM) hany)) (fun z => nomatch z) fun _ => sb_skip ?_
  · have z := dget_s (Os := []) (f := fun i => intD i) (ls := newsC t cs) (k := p.1) (List.mem_map.mpr ⟨p, hp, rfl⟩) (ed_var (Γ := [some (toldD K t), some (csA K cs b), some (strD k), some (strD (endS e)), some (csD (newsC t cs)), some (strD p.1)]) (i := 4) rfl) (ed_var (i := 5) rfl)
    rw [lk_of nd (k := p.1) (v := p.2) hp] at z
    exact ed_op z ed_c od_lt
  · refine sb_seq (sb_drop (ed_callP (α := MoA × Str) (t.mo, k) (ea_cons (ed_mod (ed_var rfl)) (ea_cons (ed_var rfl) ea_nil)) ⟨h4, h1.mo.lnm⟩)) ?_
    refine sb_seq (sb_drop (ed_callP (α := Bool) e (ea_cons (ed_var rfl) ea_nil) trivial)) ?_
    exact sb_ret (ed_var rfl)
end
end Pr
/-! RulS -/
/-! set(xs) of a list of texts, and its texts in rising order. -/
namespace Rb
open PySem PySem.Spec PyProof.Rows L2 PySem.Froz
/-- the set at a holds the texts l -/
def TxR (P : Program) (w : World) (h : Heap) (a : Addr) (l : List Str) : Prop :=
  ∃ es ep t, h.get? a = some (sObj "set" (es, ep, t)) ∧ TxOk P w (es, ep, t) l ∧ Ris t.place.toList ∧ (w.params.followText "set-order" = true ∨ t.led = true)
theorem TxR.keep {P : Program} {w : World} {h h' : Heap} {a : Addr} {l : List Str} (R : TxR P w h a l) (k : ∀ o, h.get? a = some o → h'.get? a = some o) : TxR P w h' a l := by
  obtain ⟨es, ep, t, e, r⟩ := R
  exact ⟨es, ep, t, k _ e, r⟩
theorem txR_new {P : Program} {w : World} {h : Heap} {a : Addr} (ho : h.get? a = some { cls := .type "set", dict := none, data := .set #[] 0 (.fresh 0 0 (!w.params.followText "set-order")) }) : TxR P w h a [] :=
  ⟨#[], 0, .fresh 0 0 (!w.params.followText "set-order"), ho, .nil (by rfl), List.Pairwise.nil, by
    show _ ∨ (!w.params.followText "set-order") = true
    cases w.params.followText "set-order"
    · exact .inr rfl
    · exact .inl rfl⟩
section
variable {P : Program} {w : World} {A : Around} {E : Value → Shared → Prop} {s : Shared}
theorem tail_place {ep : Nat} {es1 : Array (Int × Value)} {t2 : SetTable} {wd : Bool} (r : Ris t2.place.toList) : Ris (tailTx ep es1 t2 wd).2.2.place.toList ∧ (tailTx ep es1 t2 wd).2.2.led = t2.led := by
  unfold tailTx
  by_cases c : (!wd && t2.tooFull) = true
  · rw [if_pos c]
    exact ⟨relayAll_ris _ _ _, relayAll_led _ _ _⟩
  · rw [if_neg c]
    exact ⟨r, rfl⟩
theorem add_place {h : Int} {v : Value} {D : SD} (r : Ris D.2.2.place.toList) : Ris (addTx h v D).2.2.place.toList ∧ (addTx h v D).2.2.led = D.2.2.led := by
  have h1 := layNew_ris D.2.2 D.1 h v r
  have h2 := layNew_led D.2.2 D.1 h v
  have h3 : Ris (if (layNew D.2.2 D.1 h v).2.1.plain = true then { (layNew D.2.2 D.1 h v).2.1 with plain := false } else (layNew D.2.2 D.1 h v).2.1).place.toList := by
    split
    · exact h1
    · exact h1
  have h4 : (if (layNew D.2.2 D.1 h v).2.1.plain = true then { (layNew D.2.2 D.1 h v).2.1 with plain := false } else (layNew D.2.2 D.1 h v).2.1).led = D.2.2.led := by
    split
    · exact h2
    · exact h2
  unfold addTx
  obtain ⟨h5, h6⟩ := tail_place (ep := D.2.1) (es1 := (layNew D.2.2 D.1 h v).1) (wd := (layNew D.2.2 D.1 h v).2.2.1) h3
  exact ⟨h5, h6.trans h4⟩
theorem txR_add {a : Addr} {l : List Str} {k : Str} {u : Tok} {Q : Bool → Shared → Prop} (R : TxR P w s.heap a l) (hb : l.length + 1 < scanBound)
    (h : ∀ h' b, Heap.SameBut a s.heap h' → TxR P w h' a (if k ∈ l then l else k :: l) → Q b { s with heap := h' }) : wpAny (model P w) A (setAddHashed a (.str k u) ((strKind P w).hash k)) Q E s := by
  obtain ⟨es, ep, t, ho, F, r, hl⟩ := R
  by_cases hk : k ∈ l
  · rw [if_pos hk] at h
    have hd : (sObj "set" (es, ep, t)).data = .set es ep t := rfl
    have hf : t.fits es.size = true := F.fit
    have hel : ElemsOf (strKind P w) es.toList := F.el
    have hsz : es.size = l.length := F.sz
    have hb0 : es.size < scanBound := by omega
    have hkey : (strKind P w).is k (.str k u) = true := is_str k u
    obtain ⟨e, he, hz⟩ := (F.mem k).mp hk
    unfold setAddHashed setAddHashedIn
    refine wpAny_holding (wpAny_bind (wpAny_setState_of ho hd hf ?_))
    dsimp only
    rw [byScan_of rfl hb0 hel]
    simp only [↓reduceIte]
    unfold setAddByScan
    refine wpAny_bind ?_
    refine wpAny_bind (wpAny_rule ?_)
    refine wpAny_bind (wpAny_setScan_of (knd := strKind P w) (k := k) hkey ho hd hf hel ?_)
    cases hr : List.findIdx? (fun e => (strKind P w).is k e.2) es.toList with
    | none => exact absurd (List.findIdx?_eq_none_iff.mp hr e he) (by rw [hz]; decide)
    | some j =>
      dsimp only
      exact wpAny_pure (wpAny_pure (h s.heap _ (Heap.SameBut.refl _ _) ⟨es, ep, t, ho, F, r, hl⟩))
  · rw [if_neg hk] at h
    refine add_x (u := u) ho F hk hb ?_
    have hp := add_place (h := hashStr w k) (v := .str k u) (D := (es, ep, t)) r
    have hk := add_ok (k := k) u F
    refine h _ true (Heap.SameBut.update s.heap a _) ?_
    generalize addTx (hashStr w k) (.str k u) (es, ep, t) = D at hp hk ⊢
    obtain ⟨es', ep', t'⟩ := D
    exact ⟨es', ep', t', get_upd _ ho rfl, hk, hp.1, hl.imp id fun z => hp.2.trans z⟩
/-- the first i of xs, each once -/
def got (xs : List Str) (l : List Str) : Prop := l.Nodup ∧ ∀ x, x ∈ l ↔ x ∈ xs
theorem got_more {xs l : List Str} {k : Str} (g : got xs l) : got (xs ++ [k]) (if k ∈ l then l else k :: l) := by
  by_cases hk : k ∈ l
  · rw [if_pos hk]
    refine ⟨g.1, fun x => ?_⟩
    rw [List.mem_append, List.mem_singleton, ← g.2 x]
    constructor
    · exact fun h => .inl h
    · rintro (h | h)
      · exact h
      · rw [h]; exact hk
  · rw [if_neg hk]
    refine ⟨List.nodup_cons.mpr ⟨hk, g.1⟩, fun x => ?_⟩
    rw [List.mem_append, List.mem_singleton, List.mem_cons, ← g.2 x]
    exact Or.comm
theorem got_len {xs l : List Str} (g : got xs l) : l.length ≤ xs.length := by
  have h := g.1
  have z : ∀ {l xs : List Str}, l.Nodup → (∀ x, x ∈ l → x ∈ xs) → l.length ≤ xs.length := by
    intro l
    induction l with
    | nil => intro xs _ _; exact Nat.zero_le _
    | cons a l ih =>
      intro xs nd hs
      obtain ⟨n1, n2⟩ := List.nodup_cons.mp nd
      have ha := hs a List.mem_cons_self
      have h1 := ih (xs := xs.erase a) n2 fun x hx => (List.mem_erase_of_ne (fun e => n1 (by rw [← e]; exact hx))).mpr (hs x (List.mem_cons_of_mem _ hx))
      rw [List.length_erase_of_mem ha] at h1
      have h2 := List.length_pos_of_mem ha
      rw [List.length_cons]
      omega
  exact z h fun x hx => (g.2 x).mp hx
theorem set_update_strs {I : Addr} {fp wr : List Addr} {G : Array GenState → Array GenState → Prop} {n : Nat} {Pv : Nat → Value → Prop} {St : Nat → Shared → Prop} {R : Result → Shared → Prop}
    (W : WalksS P w A.in1 I fp wr G n Pv St) (S : Addr) (hSf : S ∉ fp) (xs : List Str) (hn : n = xs.length) (hb : xs.length + 1 < scanBound) (hval : ∀ i v, Pv i v → ∃ k t, xs[i]? = some k ∧ v = .str k t) :
    ∀ (k i : Nat) (s : Shared), n - i = k → i ≤ n → St i s → (∃ l, got (xs.take i) l ∧ TxR P w s.heap S l) →
      (∀ s' l, Moved (S :: wr) G s s' → got xs l → TxR P w s'.heap S l → R (.ok (.ret .none)) s') →
      codeAny (model P w) A (.builtin "set.update.loop" ⟨[.ref S, .ref I], []⟩) R s := by
  have hSw : S ∉ wr := fun h => hSf (W.sub _ h)
  have hsub : ∀ b ∈ wr, b ∈ S :: wr := fun b hb => List.mem_cons_of_mem _ hb
  intro k
  induction k with
  | zero =>
    intro i s hk' hi hst ⟨l, g, hS⟩ hR
    have hin : i = n := by omega
    subst hin
    refine codeAny_builtin F.entry_set_update_loop ?_
    rw [Around.under_plainId F.plain_set_update_loop _]
    show wpAny _ A.in1 (pyNext (.ref I) >>= _) _ _ s
    refine wpAny_bind (W.done s _ _ hst fun s' hm => ?_)
    show wpAny _ A.in1 (ret Value.none) _ _ s'
    rw [List.take_of_length_le (by omega)] at g
    exact wpAny_pure (hR s' l (hm.mono hsub) g (hS.keep fun o e => hm.heap S o hSw e))
  | succ k ih =>
    intro i s hk' hi hst ⟨l, g, hS⟩ hR
    have hlt : i < n := by omega
    refine codeAny_builtin F.entry_set_update_loop ?_
    rw [Around.under_plainId F.plain_set_update_loop _]
    show wpAny _ A.in1 (pyNext (.ref I) >>= _) _ _ s
    refine wpAny_bind (W.item i s _ _ hlt hst fun v s' hP hst' hm => ?_)
    obtain ⟨z, t, hz, rfl⟩ := hval i v hP
    have hS' : TxR P w s'.heap S l := hS.keep fun o e => hm.heap S o hSw e
    show wpAny _ A.in1 (holding [Value.str z t] (setAdd S (.str z t)) >>= _) _ _ s'
    refine wpAny_bind (wpAny_holding ?_)
    unfold setAdd
    refine wpAny_holding ?_
    refine wpAny_bind ((PySem.strKind P w).pyHash (k := z) (is_str z t) ?_)
    have hl := got_len g
    rw [List.length_take] at hl
    refine txR_add (s := { s' with toks := s'.toks + 1 }) hS' (by omega) fun h' b hsb hS2 => ?_
    have g2 := got_more (k := z) g
    have e : xs.take i ++ [z] = xs.take (i + 1) := by rw [List.take_add_one, hz] <;> rfl
    rw [e] at g2
    refine wpAny_pure ⟨plainId_quiet F.plain_set_update_loop _, ih (i + 1) _ (by omega) hlt (W.frame _ s' _ _ hst' (Nat.le_succ _) fun b hb o e => ?_) ⟨_, g2, hS2⟩ fun s'' c2 hm'' hc'' hS'' => ?_⟩
    · rw [hsb.2 b (fun h : b = S => hSf (by rw [← h]; exact hb))]; exact e
    · refine hR s'' c2 (Moved.trans W.gtrans ((hm.mono hsub).then_heap (Nat.le_succ _) fun b o hb e => ?_) hm'') hc'' hS''
      rw [hsb.2 b (fun h : b = S => hb (by rw [h]; exact List.mem_cons_self))]; exact e
/-- set(xs) -/
theorem call_set_strs {l : Addr} {items : Array Value} (xs : List Str) {Q : Value → Shared → Prop} (hh : A.handled = none) (hl : s.heap.IsList l items) (hit : StrsAre items.toList xs) (hb : xs.length + 1 < scanBound)
    (h : ∀ (h' : Heap) (tk : Nat) ys, got xs ys → TxR P w h' s.heap.objs.size ys → (∀ b o, s.heap.get? b = some o → h'.get? b = some o) → Q (.ref s.heap.objs.size) { s with heap := h', toks := tk }) :
    wpAny (model P w) A (call (.type "set") [.ref l]) Q E s := by
  have hisz : items.size = xs.length := by
    rw [← StrsAre.len_eq hit, Array.length_toList]
  obtain ⟨c, tl, hmro⟩ := F.called_set.mro
  have hmade := F.called_set.made
  have hsub := F.called_set.sub
  refine wpAny_call (codeAny_of_tree ?_)
  show wpAny _ _ (callAny (.type "set") _) _ _ _
  refine wpAny_pure ⟨Code.quiet_builtin _ (by decide +kernel), codeAny_builtin F.entry_type_call ?_⟩
  rw [Around.under_plain (weight_type_call_type "set" [.ref l] []) rfl]
  have h1 := F.called_set.notType
  have h2 := F.called_set.canCreate
  have hct := F.typeCall_set_1 (.ref l)
  repeat (any_goals (first | assumption | wp_step))

  refine codeAny_mono (code_set_led1 (.ref l) (E := E) (Q₁ := fun obj s₁ => obj = .ref s.heap.objs.size ∧ s₁ = { s with heap := s.heap.push { cls := .type "set", dict := none, data := .set #[] 0 (.fresh 0 0 (!w.params.followText "set-order")) } }) ⟨rfl, rfl⟩) fun r s₁ hr => ?_
  cases r with
  | error e => exact hr
  | ok fl =>
    cases fl with
    | ret obj =>
      obtain ⟨rfl, rfl⟩ := hr
      have hS : (s.heap.push { cls := .type "set", dict := none, data := .set #[] 0 (.fresh 0 0 (!w.params.followText "set-order")) }).get? s.heap.objs.size = some { cls := .type "set", dict := none, data := .set #[] 0 (.fresh 0 0 (!w.params.followText "set-order")) } := Heap.get?_push_size _ rfl
      have hT : Shared.TypeIs { s with heap := s.heap.push { cls := .type "set", dict := none, data := .set #[] 0 (.fresh 0 0 (!w.params.followText "set-order")) } } (.ref s.heap.objs.size) "set" := ⟨_, hS, rfl⟩
      have hli := F.called_set.init.lookup
      have hbi := F.called_set.init.bind (.ref s.heap.objs.size)
      repeat (any_goals (first | assumption | wp_step))

      refine codeAny_mono (codeAny_call_builtin (R := wants (fun r s₂ => r = .none ∧ ∃ h' tk ys, s₂ = { s with heap := h', toks := tk } ∧ got xs ys ∧ TxR P w h' s.heap.objs.size ys ∧
          (∀ b o, s.heap.get? b = some o → h'.get? b = some o)) E) F.called_set.init.plain F.entry_set_init (check_set_init_1 hT ?_)) fun r₂ s₂ hr₂ => ?_
      · obtain ⟨ol, hol, hcl, nl, hdl⟩ := hl
        obtain ⟨ocls, odict, odata, oslots⟩ := ol
        simp only at hcl hdl
        subst hcl; subst hdl
        have hol' : (s.heap.push { cls := .type "set", dict := none, data := .set #[] 0 (.fresh 0 0 (!w.params.followText "set-order")) }).get? l = some { cls := .type "list", dict := odict, data := .seq items nl, slots := oslots } := Heap.get?_push_of_some _ hol
        have hsls := F.sub_list_set
        have hslf := F.sub_list_frozenset
        have hne : (Value.type "list" == Value.type "dict") = false := by decide
        have hl1 : (s.heap.push { cls := .type "set", dict := none, data := .set #[] 0 (.fresh 0 0 (!w.params.followText "set-order")) }).IsList l items := ⟨_, hol', rfl, nl, rfl⟩
        unfold Builtin.«set.__init__» noKeywords Builtin.Frozenset.updateFrom
        generalize hPI : pyIter = PI
        wp_walk
        subst hPI

        refine wpAny_pyIter_list hl1 ?_
        refine wpAny_bind (wpAny_runValue ?_)
        have hlS : l < s.heap.objs.size := Heap.lt_size hol
        have hh3 : A.in1.in1.in1.handled = none := by simp [hh]
        have hz1 : (s.heap.push { cls := .type "set", dict := none, data := .set #[] 0 (.fresh 0 0 (!w.params.followText "set-order")) }).objs.size = s.heap.objs.size + 1 := Heap.size_push ..
        have hneI : l ≠ (s.heap.push { cls := .type "set", dict := none, data := .set #[] 0 (.fresh 0 0 (!w.params.followText "set-order")) }).objs.size := by
          rw [Heap.size_push]; exact Nat.ne_of_lt (Nat.lt_succ_of_lt hlS)
        have hSf : s.heap.objs.size ∉ [(s.heap.push { cls := .type "set", dict := none, data := .set #[] 0 (.fresh 0 0 (!w.params.followText "set-order")) }).objs.size, l] := by
          rw [Heap.size_push]; simp only [List.mem_cons, List.mem_singleton, List.not_mem_nil, or_false, not_or]
          exact ⟨Nat.ne_of_lt (Nat.lt_succ_self _), Nat.ne_of_gt hlS⟩
        have hval : ∀ (i : Nat) (v : Value), items[i]? = some v → ∃ k t, xs[i]? = some k ∧ v = .str k t := fun i v hv => by
          have hi : i < xs.length := by rw [← hisz]; exact (Array.getElem?_eq_some_iff.mp hv).1
          obtain ⟨t, e⟩ := SS.strs_at hit i v (by rw [Array.getElem?_toList]; exact hv)
          refine ⟨xs[i], t, List.getElem?_eq_getElem hi, ?_⟩
          rw [e, List.getD_eq_getElem?_getD, List.getElem?_eq_getElem hi] <;> rfl
        refine set_update_strs ((Walks.list hh3 _ l hneI items).toS) s.heap.objs.size
          hSf xs hisz hb hval (items.size - 0) 0 _ (by omega) (Nat.zero_le _)
          ⟨⟨_, Heap.get?_push_size _ rfl, rfl, rfl⟩, (hl1.push _)⟩ ?hS0 ?hR
        case hS0 =>
          have hget : ((s.heap.push { cls := .type "set", dict := none, data := .set #[] 0 (.fresh 0 0 (!w.params.followText "set-order")) }).push { cls := .type "list_iterator", data := .fields #[.ref l, .int 0 0] }).get? s.heap.objs.size
              = some { cls := .type "set", dict := none, data := .set #[] 0 (.fresh 0 0 (!w.params.followText "set-order")) } := Heap.get?_push_of_some _ hS
          exact ⟨[], ⟨List.nodup_nil, fun x => by simp⟩, txR_new hget⟩
        case hR =>
          intro s' ys hm g' hS'
          obtain ⟨h', g2, d', tk', os'⟩ := s'
          have eg : g2 = s.gens := hm.gens
          have ed : d' = s.drawn := hm.drawn
          have eo : os' = s.os := hm.os
          subst eg; subst ed; subst eo
          show wpAny _ _ _ _ _ _
          refine wpAny_pure ?_
          show wpAny _ _ (ret Value.none) _ _ _
          refine wpAny_pure ⟨rfl, h', tk', ys, rfl, g', hS', fun b o e => ?_⟩
          have hb0 : b < s.heap.objs.size := Heap.lt_size e
          have hb1 : b ≠ s.heap.objs.size := Nat.ne_of_lt hb0
          have hb2 : b ≠ (s.heap.push { cls := .type "set", dict := none, data := .set #[] 0 (.fresh 0 0 (!w.params.followText "set-order")) }).objs.size := by
            rw [Heap.size_push]; exact Nat.ne_of_lt (Nat.lt_succ_of_lt hb0)
          exact hm.heap b o (by simp only [List.mem_cons, List.mem_singleton, List.not_mem_nil, or_false, not_or]; exact ⟨hb1, hb2⟩) (Heap.get?_push_of_some _ (Heap.get?_push_of_some _ e))

      · cases r₂ with
        | error e => exact hr₂
        | ok fl₂ =>
          cases fl₂ with
          | ret r =>
            obtain ⟨rfl, h', tk, ys, rfl, g', hS', hk'⟩ := hr₂
            repeat (any_goals (first | assumption | wp_step))
            exact h _ _ _ g' hS' hk'
          | _ => exact hr₂.elim
    | _ => exact hr.elim

/-! ### sorted -/
theorem strs_of (vs : List Value) (h : ∀ v ∈ vs, ∃ x t, v = .str x t) : ∃ xs, StrsAre vs xs := by
  induction vs with
  | nil => exact ⟨[], .nil⟩
  | cons v vs ih =>
    obtain ⟨x, t, rfl⟩ := h v List.mem_cons_self
    obtain ⟨xs, hx⟩ := ih fun u hu => h u (List.mem_cons_of_mem _ hu)
    exact ⟨x :: xs, .cons x t hx⟩
theorem is_shape {k : Str} {v : Value} (h : (strKind P w).is k v = true) : ∃ t, v = .str k t := by
  have h' : Value.isStrOf k v = true := h
  cases v <;> simp [Value.isStrOf] at h'
  subst h'
  exact ⟨_, rfl⟩
theorem sorted_setS {a : Addr} {l : List Str} {Q : Value → Shared → Prop} (R : TxR P w s.heap a l) (nd : l.Nodup) (hh : A.handled = none) (h64 : l.length < 64)
    (hQ : ∀ s' p (out : Array Value) (c : Nat) (ys : List Str), (∀ b o, s.heap.get? b = some o → s'.heap.get? b = some o) → s'.gens = s.gens → s'.os = s.os → s.heap.objs.size ≤ p →
      s'.heap.get? p = some (seqObj "list" out c) → StrsAre out.toList ys → ys.Perm l → sortedS ys = true → Q (.ref p) s') :
    wpAny (model P w) A (call (.builtin "sorted") [.ref a]) Q E s := by
  obtain ⟨es, ep, t, ho, F, hr, hl⟩ := R
  have hsz : es.size = l.length := F.sz
  refine Calls.call_function_entry kind_sorted plain_sorted entry_sorted (args_sorted1 _) ?_
  unfold Builtin.«sorted»
  refine wpAny_bind (m := checkCount "sorted" 1 1 _) (wpAny_pure ?_)
  refine wpAny_bind (collect_set (A := A.in1) hh ⟨_, ho, rfl, rfl⟩ F.fit (by rw [hsz]; unfold scanBound; omega) hr hl fun s1 vs k1 hz g1 o1 pm => ?_)
  have hvl : vs.length = l.length := by rw [pm.length_eq, List.length_map, Array.length_toList]; exact hsz
  have hall : ∀ v ∈ vs, ∃ x t, v = .str x t := fun v hv => by
    obtain ⟨e, he, q⟩ := List.mem_map.mp (pm.mem_iff.mp hv)
    obtain ⟨⟨k, hk, _⟩, _⟩ := F.el e he
    obtain ⟨t, ht⟩ := is_shape hk
    exact ⟨k, t, q ▸ ht⟩
  obtain ⟨xs, hxs⟩ := strs_of vs hall
  have hlen : xs.length = l.length := by rw [← StrsAre.len_eq hxs]; exact hvl
  have hmem : ∀ x, x ∈ l → x ∈ xs := fun x hx => by
    obtain ⟨e, he, hk⟩ := (F.mem x).mp hx
    obtain ⟨t, ht⟩ := is_shape hk
    have m : e.2 ∈ vs := pm.mem_iff.mpr (List.mem_map.mpr ⟨e, he, rfl⟩)
    rw [ht] at m
    have z : ∀ {vs : List Value} {xs : List Str}, StrsAre vs xs → Value.str x t ∈ vs → x ∈ xs := by
      intro vs xs h
      induction h with
      | nil => intro m; cases m
      | cons y u hr ih =>
        intro m
        rcases List.mem_cons.mp m with e | e
        · injection e with e1 e2
          rw [e1]
          exact List.mem_cons_self
        · exact List.mem_cons_of_mem _ (ih e)
    exact z hxs m
  have perm : xs.Perm l := by
    have z : ∀ {l xs : List Str}, l.Nodup → (∀ x, x ∈ l → x ∈ xs) → xs.length = l.length → xs.Perm l := by
      intro l
      induction l with
      | nil => intro xs _ _ e; rw [List.length_eq_zero_iff.mp e]
      | cons b l ih =>
        intro xs nd hs e
        obtain ⟨n1, n2⟩ := List.nodup_cons.mp nd
        have hb := hs b List.mem_cons_self
        have h1 := ih (xs := xs.erase b) n2 (fun x hx => (List.mem_erase_of_ne (fun e => n1 (by rw [← e]; exact hx))).mpr (hs x (List.mem_cons_of_mem _ hx))) (by rw [List.length_erase_of_mem hb, e]; rfl)
        exact (List.perm_cons_erase hb).trans (h1.cons b)
    exact z nd hmem hlen
  refine wpAny_bind (wpAny_newList ?_ (by rw [hvl, sizeLine_eq]; omega))
  have hoL : (s1.heap.push (seqObj "list" vs.toArray 0)).get? s1.heap.objs.size = some (seqObj "list" vs.toArray 0) := Heap.get?_push_size _ rfl
  refine wpAny_bind (wpAny_holding (wpAny_call_entry slot_list_sort ⟨_, hoL, rfl⟩ entry_list_sort (list_sort_treeKAny strKind_oneLt hoL hxs.keysOf (fun v₁ v₂ rest e => keyKind_strs (by rw [← e]; exact hxs)) (by rw [hvl, sizeLine_eq]; omega) fun st' hp hs => ⟨_, rfl, ?_⟩) (args_list_sort _)))
  obtain ⟨ys, y1, y2, y3⟩ := sorted_out_str hxs hp hs
  obtain ⟨c, hc⟩ := sortedHeap_at (vs := vs) (out := (arrOf st').map (·.2)) hoL
  refine wpAny_pure ⟨_, rfl, hQ _ s1.heap.objs.size _ c ys (fun b u e => ?_) g1 o1 hz hc y1 (y2.trans perm) y3⟩
  have q := k1 b u e
  have hlt := Heap.lt_size q
  show (sortedHeap (s1.heap.push (seqObj "list" vs.toArray 0)) s1.heap.objs.size vs _).get? b = some u
  rw [sortedHeap_old (Nat.ne_of_lt hlt) (by rw [size_push']; exact Nat.lt_succ_of_lt hlt)]
  exact Heap.get?_push_of_some _ q
end
/-! ### as rules -/
def TxO (P : Program) (w : World) (a : Addr) (l : List Str) : HO := .ext fun h => TxR P w h a l
section
variable {X : Cx} {K : PySem.W.Frag}
def rSetS (K : PySem.W.Frag) (P : Program) (w : World) : List V → Hp → VK → Prop := fun vs H Q => ∃ (a : Addr) (xs : List Str), vs = [V.ref a] ∧ SqL K H a (xs.map V.str) ∧ xs.length < 1000 ∧ ∀ l p, got xs l → H p = none → Q (.ref p) (upd H p (TxO P w p l))
theorem cr_setS (hc : X.calm = true) (hK : X.K = K := by rfl) : CallR X (.type "set") (rSetS K X.prog X.w) := by
  subst hK
  intro pins s σ H vs us Q I r h
  obtain ⟨a, xs, rfl, hs, hl, q⟩ := h
  obtain ⟨its, rv, hlst, _⟩ := I.list hs
  rw [Vals.ref1 r]
  refine call_set_strs xs (I.ok.hd hc) hlst.isList (by simpa using rv.strs) (by unfold scanBound; omega) fun h' tk ys g R kp => ?_
  have hn : H s.heap.objs.size = none := I.hok.fresh (Nat.le_refl _)
  obtain ⟨es, ep, t, ho, r2⟩ := id R
  exact ⟨.ref _, _, I.laid (t' := tk) (o := TxO X.prog X.w s.heap.objs.size ys) kp (Nat.le_refl _) ⟨R, ⟨_, ho⟩, fun h1 h2 p k => TxR.keep p k⟩, rfl, q ys _ g hn⟩
def rSortedSS (P : Program) (w : World) : List V → Hp → VK → Prop := fun vs H Q => ∃ (a : Addr) (l : List Str), vs = [V.ref a] ∧ H a = some (TxO P w a l) ∧ l.Nodup ∧ l.length < 64 ∧ ∀ ys p, ys.Perm l → sortedS ys = true → H p = none → Q (.ref p) (upd H p (.lst (ys.map V.str)))
theorem cr_sortedSS (hc : X.calm = true) : CallR X (.builtin "sorted") (rSortedSS X.prog X.w) := by
  intro pins s σ H vs us Q I r h
  obtain ⟨a, l, rfl, ha, nd, h64, q⟩ := h
  have R : TxR X.prog X.w s.heap a l := (I.hok a _ ha).1
  rw [Vals.ref1 r]
  refine sorted_setS R nd (I.ok.hd hc) h64 fun s' p out c ys k g o hp hg hi hs hm => ?_
  have hlen : (ys.map V.str).length ≤ sizeLine := by rw [List.length_map, hs.length_eq, sizeLine_eq]; omega
  have hn : H p = none := I.hok.fresh hp
  have J : Inv X pins σ (upd H p (.lst (ys.map V.str))) { s with heap := s'.heap, gens := s'.gens, drawn := s'.drawn, toks := s'.toks } :=
    I.call (ch := []) (Un.laid k hp hn) (I.hok.laid k hp ⟨hlen, out.toList, c, vals_of_strs hi, hg⟩) (by rw [g]; exact I.bare) (fun _ z => nomatch z)
  have e : s' = { s with heap := s'.heap, gens := s'.gens, drawn := s'.drawn, toks := s'.toks } := by
    cases s'
    cases s
    cases o
    rfl
  rw [e]
  exact ⟨.ref p, _, J, rfl, q ys p hs hm hn⟩
end
end Rb
/-! DI -/
/-! A list over two sources; sets of texts. -/
namespace Dn
open PySem PySem.Spec PyProof.Rows L2
theorem upd_id {H : Hp} {D : Addr} {o : HO} (h : H D = some o) : upd H D o = H := by
  funext b
  by_cases z : b = D
  · subst z; rw [upd_same, h]
  · rw [upd_ne z]
theorem upd_upd {H : Hp} {D : Addr} {o o' : HO} : upd (upd H D o) D o' = upd H D o' := by
  funext b
  by_cases z : b = D
  · subst z; rw [upd_same, upd_same]
  · rw [upd_ne z, upd_ne z, upd_ne z]
section
variable {K : PySem.W.Frag} {Os : Own} {Γ : Ctx} {ta tb te tk tv : TE} {t t1 : TT} {A B C R : Den} {g g1 : TG} {wi wi1 : TI}
theorem ed_lc2 {α β : Type} {xs : List α} {d : α → Den} {ys : α → List β} {d1 : α → β → Den} {f : α → β → Den} {p : α → β → Bool} {Γ1 : α → Ctx} {Γ2 : α → β → Ctx} {vs vs1 is is1 : List Nat}
    (hi : EI Os wi Γ (· = xs.map d)) (hg : ∀ x, x ∈ xs → GD g (wipeC Γ vs) (d x) (Γ1 x) is) (hi1 : ∀ x, x ∈ xs → EI Os wi1 (Γ1 x) (· = (ys x).map (d1 x)))
    (hg1 : ∀ x, x ∈ xs → ∀ y, y ∈ ys x → GD g1 (wipeC (Γ1 x) vs1) (d1 x y) (Γ2 x y) is1) (ht1 : ∀ x, x ∈ xs → ∀ y, y ∈ ys x → ET Os t1 (Γ2 x y) (p x y)) (he : ∀ x, x ∈ xs → ∀ y, y ∈ ys x → p x y = true → ED Os te (Γ2 x y) (f x y))
    (hv : (is.all fun i => vs.contains i) = true := by decide) (hv1 : (is1.all fun i => vs1.contains i) = true := by decide) (hz : (xs.flatMap ys).length ≤ 100000) :
    ED Os (tLc2 wi g tYes wi1 g1 t1 te vs vs1) Γ (lstD (xs.flatMap fun x => ((ys x).filter (p x)).map (f x))) := fun σ H0 H e s w Q q =>
  acc_walk (o0 := .lst []) (pb := fun _ b => b = true) (bd := fun D σ2 H3 Nx => wi1 σ2 H3 fun J1 H4 => ∃ W1 : Nat → Nat → Hp → Prop, (∃ m, W1 0 m H4) ∧ ∀ j k H, W1 j k H →
      (J1.stop j H ∧ Nx H) ∨ (J1.go j H ∧ ∃ Nx1 : L2.Hp → Prop, (∀ H', Nx1 H' → ∃ k', k' < k ∧ W1 (j + 1) k' H') ∧ ∀ x H', J1.yld j H x H' → g1 x (wipe σ2 vs1) H' fun σ3 H5 => wipe σ3 vs1 = wipe σ2 vs1 ∧ t1 σ3 H5 fun b H6 =>
        if b = true then te σ3 H6 fun y H7 => ∃ acc, H7 D = some (.lst acc) ∧ acc.length < sizeLine ∧ Nx1 (upd H7 D (.lst (acc ++ [y]))) else Nx1 H6))
    (fun H pre o => ∃ us : List V, o = .lst us ∧ us.length ≤ (pre.flatMap ys).length ∧ Fits H (pre.flatMap fun x => ((ys x).filter (p x)).map (f x)) us) (fun sm ⟨us, h1, h2, h3⟩ => ⟨us, h1, h2, h3.mono sm⟩) (fun H => ⟨[], rfl, Nat.zero_le _, .nil⟩) hi.o hg (fun x hx => etp_yes)
    (fun H pre x o _ z _ => by cases z)
    (fun pre x post sp _ σ H0 H D o e s w nD nO eD ⟨us, h1, h2, h3⟩ Nx q => by
      subst h1
      have hx : x ∈ xs := by rw [sp]; exact List.mem_append_right _ List.mem_cons_self
      have hzl : (pre.flatMap ys).length + (ys x).length ≤ 100000 := by
        have e1 : (xs.flatMap ys).length = (pre.flatMap ys).length + ((ys x).length + (post.flatMap ys).length) := by rw [sp, List.flatMap_append, List.flatMap_cons, List.length_append, List.length_append]
        omega
      refine hi1 x hx σ H0 H e s w _ fun J1 H1 H1' Rs hRs g1' it => ?_
      have l1 : H1' D = some (.lst us) := g1'.s1 _ _ nO eD
      refine ⟨fun j k (Hc : L2.Hp) => k = (ys x).length - j ∧ j ≤ (ys x).length ∧ ∃ (H2 HB : L2.Hp) (ws : List V), Grow Os H0 H Os H2 HB ∧ Same H1 H2 ∧ H2 D = none ∧ Hc = upd HB D (.lst (us ++ ws)) ∧ ws.length ≤ j ∧ Fits H2 ((((ys x).take j).filter (p x)).map (f x)) ws, ⟨_, rfl, Nat.zero_le _, H1, H1', [], g1', Same.refl _, g1'.fr D _ nO eD nD, by rw [List.append_nil, upd_id l1], Nat.le_refl _, .nil⟩, ?_⟩
      rintro j k Hc ⟨rfl, hle, H2, HB, ws, g2, s12, n2, ec, hws, hf⟩
      subst ec
      have sub2 : Same H2 (upd HB D (.lst (us ++ ws))) := fun b u hb => by rw [upd_ne (ne_of_none hb n2)]; exact g2.sub b u hb
      have w2 : Hold Os H2 (upd HB D (.lst (us ++ ws))) := ⟨g2.ow.nd, fun q hq => by
        obtain ⟨n, u, eu, pu⟩ := g2.ow.at_ q hq
        exact ⟨n, u, by rw [upd_ne fun z => nO (by rw [← z]; exact ads_mem hq)]; exact eu, pu⟩⟩
      obtain ⟨go, stop, yld⟩ := it H2 _ s12 sub2
      rw [hRs, List.length_map] at go stop
      by_cases hlt : j < (ys x).length
      · refine .inr ⟨go j hlt, fun Hc' => ∃ (H2 HB : L2.Hp) (ws : List V), Grow Os H0 H Os H2 HB ∧ Same H1 H2 ∧ H2 D = none ∧ Hc' = upd HB D (.lst (us ++ ws)) ∧ ws.length ≤ j + 1 ∧ Fits H2 ((((ys x).take (j + 1)).filter (p x)).map (f x)) ws, fun Hc' h => ⟨_, Nat.sub_lt_sub_left hlt (Nat.lt_succ_self j), rfl, hlt, h⟩, fun v H3' hy => ?_⟩
        have hR : Rs[j]? = some (d1 x (ys x)[j]) := by rw [hRs, List.getElem?_map, List.getElem?_eq_getElem hlt] <;> rfl
        obtain ⟨H3, g3, hv3⟩ := yld j v H3' hy _ hR
        have g3u := g3.up w2
        have hm := List.getElem_mem hlt
        have tk : (ys x).take (j + 1) = (ys x).take j ++ [(ys x)[j]] := by rw [List.take_add_one, List.getElem?_eq_getElem hlt] <;> rfl
        have n3 : H3 D = none := g3u.fr D _ nO upd_same n2
        have z01 : Same H0 H2 := g2.s0
        refine hg1 x hx _ hm (L2.wipe σ vs1) H3 H3' v ((e.mono (z01.trans g3.s0)).wipe vs1) g3.sub hv3 _ fun σ4 H4 H4' g4 e4 w4 => ⟨?_, ?_⟩
        · rw [w4 vs1 (mem_sub hv1)]
          exact wipe_wipe fun i hi => hi
        · have g4u := g4.up g3u.ow
          have g34 := g3u.trans g4u
          have n4 : H4 D = none := g34.fr D _ nO upd_same n2
          refine ht1 x hx _ hm σ4 H4 H4' e4 g4.sub g4u.ow _ fun H5 H5' g5 => ?_
          have g35 := g34.trans g5
          have n5 : H5 D = none := g35.fr D _ nO upd_same n2
          have l5 : H5' D = some (.lst (us ++ ws)) := g35.s1 D _ nO upd_same
          have back : ∀ {H6 H6' : L2.Hp}, Grow Os H2 (upd HB D (.lst (us ++ ws))) Os H6 H6' → Grow Os H0 H Os H6 (upd H6' D (.lst us)) := fun {H6 H6'} g6 => by
            have n6 : H6 D = none := g6.fr D _ nO upd_same n2
            refine ⟨g2.s0.trans g6.s0, fun b u hb eb => ?_, fun b u hb => ?_, fun b u hb eb nb => ?_, ⟨g6.ow.nd, fun q hq => ?_⟩, fun b hb => .inl hb⟩
            · by_cases z : b = D
              · subst z; rw [eD] at eb; cases eb; exact upd_same
              · rw [upd_ne z]; exact g6.s1 b u hb (by rw [upd_ne z]; exact g2.s1 b u hb eb)
            · rw [upd_ne (ne_of_none hb n6)]; exact g6.sub b u hb
            · by_cases z : b = D
              · subst z; exact n6
              · exact g6.fr b u hb (by rw [upd_ne z]; exact g2.s1 b u hb eb) (g2.fr b u hb eb nb)
            · obtain ⟨n, u, eu, pu⟩ := g6.ow.at_ q hq
              exact ⟨n, u, by rw [upd_ne fun z => nO (by rw [← z]; exact ads_mem hq)]; exact eu, pu⟩
          cases hp : p x (ys x)[j] with
          | true =>
            show te σ4 H5' _
            refine he x hx _ hm hp σ4 H5 H5' (e4.mono g5.s0) g5.sub g5.ow _ fun v6 H6 H6' g6 hv6 => ?_
            have g36 := g35.trans g6
            refine ⟨us ++ ws, g36.s1 D _ nO upd_same, sz_lt ?_, H6, upd H6' D (.lst us), ws ++ [v6], back g36, s12.trans g36.s0, g36.fr D _ nO upd_same n2, by rw [upd_upd, List.append_assoc], by rw [List.length_append]; show ws.length + 1 ≤ j + 1; omega, ?_⟩
            · rw [List.length_append]; omega
            · rw [tk, List.filter_append, List.map_append]
              have e1 : [(ys x)[j]].filter (p x) = [(ys x)[j]] := by rw [List.filter_cons, if_pos hp] <;> rfl
              rw [e1]
              exact fits_app (hf.mono g36.s0) (.cons hv6 .nil)
          | false =>
            show ∃ _, _
            refine ⟨H5, upd H5' D (.lst us), ws, back g35, s12.trans g35.s0, n5, by rw [upd_upd, upd_id l5], by omega, ?_⟩
            rw [tk, List.filter_append, List.map_append]
            have e1 : [(ys x)[j]].filter (p x) = [] := by rw [List.filter_cons, if_neg (by rw [hp]; decide)] <;> rfl
            rw [e1]
            show Fits H5 ((((ys x).take j).filter (p x)).map (f x) ++ []) ws
            rw [List.append_nil]
            exact hf.mono g35.s0
      · have ej : j = (ys x).length := by omega
        subst ej
        rw [List.take_length] at hf
        refine .inl ⟨stop, q H2 HB _ g2 ⟨us ++ ws, rfl, ?_, ?_⟩⟩
        · rw [List.flatMap_append, List.length_append, List.length_append, List.flatMap_cons, List.flatMap_nil, List.append_nil]
          omega
        · rw [List.flatMap_append, List.flatMap_cons, List.flatMap_nil, List.append_nil]
          exact fits_app (h3.mono g2.s0) hf) hv σ H0 H e s w Q fun D o H0' H' g1 n no nH eo ⟨us, h1, h2, h3⟩ => q _ _ H' (acc_keep g1 n no nH eo) ⟨D, us, rfl, by rw [upd_same, h1], h3.mono (same_upd n)⟩
/-! ### sets of texts -/
def unq : List Str → List Str
  | [] => []
  | x :: xs => if x ∈ xs then unq xs else x :: unq xs
theorem mem_unq {x : Str} : ∀ {xs : List Str}, x ∈ unq xs ↔ x ∈ xs
  | [] => Iff.rfl
  | y :: xs => by
    unfold unq
    by_cases h : y ∈ xs
    · rw [if_pos h, mem_unq (xs := xs), List.mem_cons]
      exact ⟨.inr, fun z => z.elim (fun e => e ▸ h) id⟩
    · rw [if_neg h, List.mem_cons, mem_unq (xs := xs), List.mem_cons]
theorem nodup_unq : ∀ xs : List Str, (unq xs).Nodup
  | [] => List.nodup_nil
  | y :: xs => by
    unfold unq
    by_cases h : y ∈ xs
    · rw [if_pos h]; exact nodup_unq xs
    · rw [if_neg h]; exact List.nodup_cons.mpr ⟨fun z => h (mem_unq.mp z), nodup_unq xs⟩
theorem got_perm {xs l : List Str} (g : Rb.got xs l) : l.Perm (unq xs) := (List.perm_ext_iff_of_nodup g.1 (nodup_unq xs)).mpr fun x => by rw [g.2 x, mem_unq]
/-- each once, in rising order -/
def uq (xs : List Str) : List Str := Srt.srt (unq xs)
theorem mem_uq {x : Str} {xs : List Str} : x ∈ uq xs ↔ x ∈ xs := by
  unfold uq
  rw [Srt.mem_srt, mem_unq]
theorem nodup_uq (xs : List Str) : (uq xs).Nodup := (Srt.srt_perm _).nodup_iff.mpr (nodup_unq xs)
theorem len_uq (xs : List Str) : (uq xs).length ≤ xs.length := by
  unfold uq
  rw [Srt.length_srt]
  exact Rb.got_len ⟨nodup_unq xs, fun x => mem_unq⟩
theorem uq_nodup {xs : List Str} (h : xs.Nodup) : uq xs = Srt.srt xs := by
  have e : unq xs = xs := by
    induction xs with
    | nil => rfl
    | cons x xs ih =>
      obtain ⟨h1, h2⟩ := List.nodup_cons.mp h
      unfold unq
      rw [if_neg h1, ih h2]
  unfold uq
  rw [e]
def txD (P : Program) (w : World) (l : List Str) : Den := ⟨fun H v => ∃ a, v = .ref a ∧ H a = some (Rb.TxO P w a l), fun s ⟨a, h1, h2⟩ => ⟨a, h1, s _ _ h2⟩⟩
theorem cd_setS {P : Program} {w : World} {xs : List Str} (hl : xs.length < 1000) : CD (Rb.rSetS K P w) [lstD (xs.map fun x => strD x)] (exD (Rb.got xs) (txD P w)) := fun H0 H vs s hf Q q => by
  cases hf with
  | cons r1 t1 =>
    cases t1
    obtain ⟨a, us, e, h, hf⟩ := r1
    subst e
    rw [fits_map hf] at h
    exact ⟨a, xs, rfl, .of (s _ _ h), hl, fun l p g hn => q _ _ _ (.new0 s hn) ⟨l, g, p, rfl, upd_same⟩⟩
theorem cd_sortedSS {P : Program} {w : World} {xs : List Str} (hl : xs.length < 64) : CD (Rb.rSortedSS P w) [exD (Rb.got xs) (txD P w)] (lstD ((uq xs).map fun x => strD x)) := fun H0 H vs s hf Q q => by
  cases hf with
  | cons r1 t1 =>
    cases t1
    obtain ⟨l, g, a, e, h⟩ := r1
    subst e
    refine ⟨a, l, rfl, s _ _ h, g.1, Nat.lt_of_le_of_lt (Rb.got_len g) hl, fun ys p hp hs hn => ?_⟩
    rw [Srt.srt_eq hp hs, Srt.srt_congr (got_perm g)]
    refine q _ _ _ (.new0 s hn) ⟨p, _, rfl, upd_same, ?_⟩
    have e : ((Srt.srt (unq xs)).map fun x => strD x) = ((Srt.srt (unq xs)).map V.str).map valD := by rw [List.map_map]; rfl
    show Fits _ ((Srt.srt (unq xs)).map fun x => strD x) _
    rw [e]
    exact Fits.of_vals _
end
end Dn
/-! VH -/
namespace Pr
open PySem PySem.Spec PyProof.Rows L2 Dn Rb
def prods (l : List Pr2) : List Pr2 := (uq (l.map (·.1))).flatMap fun a => ((uq (l.map (·.2))).filter fun b => decide ((a, b) ∈ l)).map fun b => (a, b)
theorem mem_prods {l : List Pr2} {p : Pr2} : p ∈ prods l ↔ p ∈ l := by
  unfold prods
  rw [List.mem_flatMap]
  constructor
  · rintro ⟨a, _, h⟩
    obtain ⟨b, hb, e⟩ := List.mem_map.mp h
    obtain ⟨_, h2⟩ := List.mem_filter.mp hb
    rw [← e]
    exact of_decide_eq_true h2
  · intro h
    obtain ⟨a, b⟩ := p
    exact ⟨a, mem_uq.mpr (List.mem_map.mpr ⟨_, h, rfl⟩), List.mem_map.mpr ⟨b, List.mem_filter.mpr ⟨mem_uq.mpr (List.mem_map.mpr ⟨_, h, rfl⟩), decide_eq_true h⟩, rfl⟩⟩
theorem nodup_fm {α β : Type} {f : α → List β} : ∀ {l : List α}, l.Nodup → (∀ a, a ∈ l → (f a).Nodup) → (∀ a b x, a ∈ l → b ∈ l → x ∈ f a → x ∈ f b → a = b) → (l.flatMap f).Nodup
  | [], _, _, _ => List.nodup_nil
  | a :: l, nd, h1, h2 => by
    obtain ⟨n1, n2⟩ := List.nodup_cons.mp nd
    rw [List.flatMap_cons, List.nodup_append]
    refine ⟨h1 a List.mem_cons_self, nodup_fm n2 (fun b hb => h1 b (List.mem_cons_of_mem _ hb)) (fun x y z hx hy => h2 x y z (List.mem_cons_of_mem _ hx) (List.mem_cons_of_mem _ hy)), fun x hx y hy e => ?_⟩
    subst e
    obtain ⟨b, hb, hxb⟩ := List.mem_flatMap.mp hy
    have := h2 a b x List.mem_cons_self (List.mem_cons_of_mem _ hb) hx hxb
    subst this
    exact n1 hb
theorem nodup_prods (l : List Pr2) : (prods l).Nodup := by
  unfold prods
  refine nodup_fm (nodup_uq _) (fun a _ => ?_) fun a b x _ _ hx hy => ?_
  · exact List.Pairwise.map _ (fun x y n e => n (by injection e)) ((nodup_uq _).filter _)
  · obtain ⟨u, _, e⟩ := List.mem_map.mp hx
    obtain ⟨v, _, e'⟩ := List.mem_map.mp hy
    rw [← e] at e'
    injection e' with e1
    exact e1.symm
theorem len_le {α : Type} [DecidableEq α] : ∀ {l xs : List α}, l.Nodup → (∀ x, x ∈ l → x ∈ xs) → l.length ≤ xs.length
  | [], _, _, _ => Nat.zero_le _
  | a :: l, xs, nd, hs => by
    obtain ⟨n1, n2⟩ := List.nodup_cons.mp nd
    have ha := hs a List.mem_cons_self
    have h1 := len_le (xs := xs.erase a) n2 fun x hx => (List.mem_erase_of_ne (fun e => n1 (by rw [← e]; exact hx))).mpr (hs x (List.mem_cons_of_mem _ hx))
    rw [List.length_erase_of_mem ha] at h1
    have h2 := List.length_pos_of_mem ha
    rw [List.length_cons]
    omega
theorem len_prods (l : List Pr2) : (prods l).length ≤ l.length := len_le (nodup_prods l) fun p hp => mem_prods.mp hp
def swapP (p : Pr2) : Pr2 := (p.2, p.1)
def orient (e : Bool) (l : List Pr2) : List Pr2 := if e then l.map swapP else l
def deOf (t : ToA) (k : Str) (e : Bool) : DeA := ⟨namesOf t.rows (kindAt t.mo.2 k e), namesOf t.rows (kindAt t.mo.2 k !e), orient e (prods (lk t.prs k)), (manyAt t.mo.2 k e).1, (manyAt t.mo.2 k !e).2⟩
section
variable {P : Program} {w : World} {K : PySem.W.Frag} {mg : Str → Option Value} {base : Heap}
abbrev r_Told_getitem (K : PySem.W.Frag) : List Den → Own → Own → Den → Prop := pu (fun a : ToA × Str => okTo a.1 ∧ a.2 ∈ a.1.mo.2.map (·.1)) (fun a => [toldD K a.1, strD a.2]) (fun a => prsD (prods (lk a.1.prs a.2)))
theorem ok_Told_getitem (T : Txt K mg) : FnOk P w K mg base CX0 3 (a_Told_getitem K) (fdOf K (a_Told_getitem K)) ["self", "at"] (DefSp (r_Told_getitem K)) := by
  refine ow_ok (F_Told_getitem T) sc_Told_getitem (fun _ => rfl) fun cdv A outer s H E hr => ⟨_, PSs.nox (pss_cons (ps_expr (pe_call (ok_want_link T) (hr.mono (by decide)) rfl (g_want_link T) (F_want_link T).kp (b_want_link T) .nil pass0 (pa_cons (pe_fldK (K := K) (pv 0)) (pa_cons (pv 1) pa_nil))))
  (pss_cons (ps_set (i := 2) sc_Told_getitem.nd rfl (Or.inr rfl) (pe_dget (rm1 hr) (pe_fldK (K := K) (pv 0)) (pv 1) (fun _ _ => rfl)))
  (pss_cons (ps_set (i := 3) sc_Told_getitem.nd rfl (Or.inl rfl) (pe_callB (cr_sortedSS rfl) (by rfl) (z_sorted T) boot_sorted (pa_cons (pe_callTy (cr_setS (K := K) rfl) (by rfl) (z_set T) boot_set (pa_cons (pe_lc (own := [("pair", 7)]) (by rfl) sc_Told_getitem.nd (pi_listK (K := K) (pv 2)) (blkOk_by (N := n_Told_getitem) (sc := defScope s_Told_getitem) (by decide +kernel)) (fun _ _ _ _ _ => (pg_name (i := 7) sc_Told_getitem.nd rfl (Or.inl rfl))) (fun _ _ _ _ _ => pts_nil) (fun _ _ _ _ _ => (pe_callTy SkE.call_str_str (by rfl) (z_str T) boot_str (pa_cons (pe_ix (ix_tupK (K := K)) (pv 7) pe_int (fun _ _ => rfl)) pa_nil)))) pa_nil)) pa_nil)))
  (pss_cons (ps_set (i := 4) sc_Told_getitem.nd rfl (Or.inr rfl) (pe_callB (cr_sortedSS rfl) (by rfl) (z_sorted T) boot_sorted (pa_cons (pe_callTy (cr_setS (K := K) rfl) (by rfl) (z_set T) boot_set (pa_cons (pe_lc (own := [("pair", 7)]) (by rfl) sc_Told_getitem.nd (pi_listK (K := K) (pv 2)) (blkOk_by (N := n_Told_getitem) (sc := defScope s_Told_getitem) (by decide +kernel)) (fun _ _ _ _ _ => (pg_name (i := 7) sc_Told_getitem.nd rfl (Or.inl rfl))) (fun _ _ _ _ _ => pts_nil) (fun _ _ _ _ _ => (pe_callTy SkE.call_str_str (by rfl) (z_str T) boot_str (pa_cons (pe_ix (ix_tupK (K := K)) (pv 7) pe_int (fun _ _ => rfl)) pa_nil)))) pa_nil)) pa_nil)))
  (pss_one (ps_ret (pe_lc2 (own := [("one", 5), ("other", 6)]) (vs1 := [6]) (by rfl) sc_Told_getitem.nd (pi_listK (K := K) (pv 3)) (blkOk_by (N := n_Told_getitem) (sc := defScope s_Told_getitem) (by decide +kernel)) (by decide) (fun _ _ _ _ _ => (pg_name (i := 5) sc_Told_getitem.nd rfl (Or.inl rfl))) (fun _ _ _ _ _ => pts_nil) (fun _ _ _ _ _ => (pi_listK (K := K) (pv 4))) (fun _ _ _ _ _ => (pg_name (i := 6) sc_Told_getitem.nd rfl (Or.inl rfl))) (fun _ _ _ _ _ => (pts_one (pt_cmpR (op_inDK (K := K) (rm65 hr)) (pe_tup (pa_cons (pv 5) (pa_cons (pv 6) pa_nil))) (pv 2) (by rfl)))) (fun _ _ _ _ _ => (pe_tup (pa_cons (pv 5) (pa_cons (pv 6) pa_nil))))))))))), ?_⟩
  rintro ⟨t, k⟩ ⟨h1, h2⟩
  dsimp only at h1 h2 ⊢
  have hm := lk_mem (h1.pkey h2)
  have hle := (h1.pnd _ hm).2
  dsimp only at hle
  refine sb_seq (sb_drop (ed_callP (α := MoA × Str) (t.mo, k) (ea_cons (ed_model T (ed_var rfl)) (ea_cons (ed_var rfl) ea_nil)) ⟨h2, h1.mo.lnm⟩)) ?_
  refine sb_seq (sb_asg (dget_s (h1.pkey h2) (ed_pairs T (ed_var rfl)) (ed_var rfl))) ?_
  have e1 : (lk t.prs k).map (fun p => strD p.1) = ((lk t.prs k).map (·.1)).map fun x => strD x := by rw [List.map_map]; rfl
  have e2 : (lk t.prs k).map (fun p => strD p.2) = ((lk t.prs k).map (·.2)).map fun x => strD x := by rw [List.map_map]; rfl
  refine sb_seq (sb_asg (A := strsD (uq ((lk t.prs k).map (·.1)))) (ed_cb (ea_cons (ed_cb (ea_cons (ED.cast (ed_lc0 (f := fun p : Pr2 => strD p.1) (ei_list (ed_var rfl)) (fun p _ => gd_name) (fun p _ => ed_cb (ea_cons (ed_op (ed_var rfl) ed_c (od_ixT (i := 0) rfl)) ea_nil) cd_str) (by decide) (by omega)) (congrArg lstD e1)) ea_nil) (cd_setS (by rw [List.length_map]; omega))) ea_nil) (cd_sortedSS (by rw [List.length_map]; omega)))) ?_
  refine sb_seq (sb_asg (A := strsD (uq ((lk t.prs k).map (·.2)))) (ed_cb (ea_cons (ed_cb (ea_cons (ED.cast (ed_lc0 (f := fun p : Pr2 => strD p.2) (ei_list (ed_var rfl)) (fun p _ => gd_name) (fun p _ => ed_cb (ea_cons (ed_op (ed_var rfl) ed_c (od_ixT (i := 1) rfl)) ea_nil) cd_str) (by decide) (by omega)) (congrArg lstD e2)) ea_nil) (cd_setS (by rw [List.length_map]; omega))) ea_nil) (cd_sortedSS (by rw [List.length_map]; omega)))) ?_
  have l1 := len_uq ((lk t.prs k).map (·.1))
  have l2 := len_uq ((lk t.prs k).map (·.2))
  rw [List.length_map] at l1 l2
  have e3 : (uq ((lk t.prs k).map (·.1))).flatMap (fun a => ((uq ((lk t.prs k).map (·.2))).filter fun b => decide ((a, b) ∈ lk t.prs k)).map fun b => prD (a, b)) = (prods (lk t.prs k)).map fun p => prD p := by
    unfold prods
    rw [List.map_flatMap]
    refine congrArg (fun f => List.flatMap f _) (funext fun a => ?_)
    rw [List.map_map]
    rfl
  refine sb_ret (R := prsD (prods (lk t.prs k))) (ED.cast (ed_lc2 (xs := uq ((lk t.prs k).map (·.1))) (ys := fun _ => uq ((lk t.prs k).map (·.2))) (p := fun a b => decide ((a, b) ∈ lk t.prs k)) (f := fun a b => prD (a, b)) (ei_list (ed_var rfl)) (fun a _ => gd_name) (fun a _ => ei_list (ed_var rfl)) (fun a _ b _ => gd_name) (fun a ha b hb => et_test (ed_op (ed_tup (ea_cons (ed_var rfl) (ea_cons (ed_var rfl) ea_nil))) (ed_var rfl) (od_inPr (p := (a, b)) ?_ fun q hq => h1.pn hm hq))) (fun a _ b _ _ => ed_tup (ea_cons (ed_var rfl) (ea_cons (ed_var rfl) ea_nil))) (by decide) (by decide) ?_) (congrArg lstD e3))
  · obtain ⟨p, hp, ep⟩ := List.mem_map.mp (mem_uq.mp ha)
    obtain ⟨q, hq, eq⟩ := List.mem_map.mp (mem_uq.mp hb)
    exact ⟨ep ▸ (h1.pn hm hp).1, eq ▸ (h1.pn hm hq).2⟩
  · rw [List.length_flatMap]
    have e4 : ((uq ((lk t.prs k).map (·.1))).map fun _ => (uq ((lk t.prs k).map (·.2))).length).sum = (uq ((lk t.prs k).map (·.1))).length * (uq ((lk t.prs k).map (·.2))).length := by
      rw [List.map_const', List.sum_replicate_nat]
    rw [e4]
    exact Nat.le_trans (Nat.mul_le_mul (Nat.le_trans l1 hle) (Nat.le_trans l2 hle)) (by decide)
abbrev r_Demand_init (K : PySem.W.Frag) : List Den → Own → Own → Den → Prop := ow (fun a : Addr × DgA => okTo a.2.t ∧ a.2.k ∈ a.2.t.mo.2.map (·.1)) (fun a => [valD (.ref a.1), toldD K a.2.t, strD a.2.k, strD (endS a.2.e)]) (fun a => [(a.1, insO (C_Demand K) [])]) (fun a => [(a.1, insO (C_Demand K) [("own_names", strsD (deOf a.2.t a.2.k a.2.e).names), ("own_others", strsD (deOf a.2.t a.2.k a.2.e).others), ("own_told", ptD (deOf a.2.t a.2.k a.2.e).told), ("own_least", intD (deOf a.2.t a.2.k a.2.e).least), ("own_top", optD (deOf a.2.t a.2.k a.2.e).top)])]) (fun _ => nonD)
theorem ok_Demand_init (T : Txt K mg) : FnOk P w K mg base CX0 5 (a_Demand_init K) (fdOf K (a_Demand_init K)) ["self", "told", "link", "end"] (DefSp (r_Demand_init K)) := by
  refine ow_ok (F_Demand_init T) sc_Demand_init (fun _ => rfl) fun cdv A outer s H E hr => ⟨_, PSs.nox (pss_cons (ps_par (i := 5) (j := 6) (by rfl) sc_Demand_init.nd rfl rfl (by decide) rfl rfl (pa_cons (pe_prop (pv 1) (c_Told T) (po_Told_model T) (ok_Told_model T) (hr.mono (by decide)) (b_Told_model T) .nil pass0 rfl) (pa_cons (pe_call (ok_other_end T) (hr.mono (by decide)) rfl (g_other_end T) (F_other_end T).kp (b_other_end T) .nil pass0 (pa_cons (pv 3) pa_nil)) pa_nil)) (by rfl))
  (pss_cons (ps_fld (pv 0) (pe_meth (pv 1) (c_Told T) (m_Told_rows T) (ok_Told_rows T) (hr.mono (by decide)) (b_Told_rows T) .nil pass0 (pa_cons (pe_meth (pv 5) (c_Model T) (m_Model_kind_at T) (ok_Model_kind_at T) (hr.mono (by decide)) (b_Model_kind_at T) .nil pass0 (pa_cons (pv 2) (pa_cons (pv 3) pa_nil))) pa_nil)) rfl)
  (pss_cons (ps_fld (pv 0) (pe_meth (pv 1) (c_Told T) (m_Told_rows T) (ok_Told_rows T) (hr.mono (by decide)) (b_Told_rows T) .nil pass0 (pa_cons (pe_meth (pv 5) (c_Model T) (m_Model_kind_at T) (ok_Model_kind_at T) (hr.mono (by decide)) (b_Model_kind_at T) .nil pass0 (pa_cons (pv 2) (pa_cons (pv 6) pa_nil))) pa_nil)) rfl)
  (pss_cons (ps_set (i := 4) sc_Demand_init.nd rfl (Or.inl rfl) (pe_ifExp (pt_cmpR op_eq (pv 3) pe_str (nomark _)) (pe_ownGet (oo_Told_getitem T) (fi_Told_getitem T) (ok_Told_getitem T) (hr.mono (by decide)) (b_Told_getitem T) (pv 1) (pv 2)) (pe_lc (own := [("first", 8), ("second", 9)]) (by rfl) sc_Demand_init.nd (pi_listK (K := K) (pe_ownGet (oo_Told_getitem T) (fi_Told_getitem T) (ok_Told_getitem T) (hr.mono (by decide)) (b_Told_getitem T) (pv 1) (pv 2))) (blkOk_by (N := n_Demand_init) (sc := defScope s_Demand_init) (by decide +kernel)) (fun _ _ _ _ _ => (pg_tupK (K := K) (n := 2) rfl (pgs_cons (pg_name (i := 8) sc_Demand_init.nd rfl (Or.inl rfl)) (pgs_cons (pg_name (i := 9) sc_Demand_init.nd rfl (Or.inl rfl)) pgs_nil)))) (fun _ _ _ _ _ => pts_nil) (fun _ _ _ _ _ => (pe_tup (pa_cons (pv 9) (pa_cons (pv 8) pa_nil)))))))
  (pss_cons (ps_fld (pv 0) (pe_frz (Rb.pe_dcT (rm1 hr) (own := [("pair", 7)]) (by rfl) sc_Demand_init.nd (pi_listK (K := K) (pv 4)) (blkOk_by (N := n_Demand_init) (sc := defScope s_Demand_init) (by decide +kernel)) (fun _ _ _ _ _ => (pg_name (i := 7) sc_Demand_init.nd rfl (Or.inl rfl))) (fun _ _ _ _ _ => pts_nil) (fun _ _ _ _ _ => (pv 7)) (fun _ _ _ _ _ => pe_bl))) rfl)
  (pss_cons (ps_fld (pv 0) (SlX.pe_propSl (E := E0) (pe_meth (pv 5) (c_Model T) (m_Model_many_at T) (ok_Model_many_at T) (hr.mono (by decide)) (b_Model_many_at T) .nil pass0 (pa_cons (pv 2) (pa_cons (pv 3) pa_nil))) (scls T) (po_Many_least T).at_ (po_Many_least T).get (po_Many_least T).tak (po_Many_least T).rec_ ((ok_Many_least T).raw (b_Many_least T) .nil) (hr.mono (by decide)) (fun _ _ _ _ z => z)) rfl)
  (pss_one (ps_fld (pv 0) (SlX.pe_propSl (E := E0) (pe_meth (pv 5) (c_Model T) (m_Model_many_at T) (ok_Model_many_at T) (hr.mono (by decide)) (b_Model_many_at T) .nil pass0 (pa_cons (pv 2) (pa_cons (pv 6) pa_nil))) (scls T) (po_Many_most T).at_ (po_Many_most T).get (po_Many_most T).tak (po_Many_most T).rec_ ((ok_Many_most T).raw (b_Many_most T) .nil) (hr.mono (by decide)) (fun _ _ _ _ z => z)) rfl)))))))), ?_⟩
  rintro ⟨x, t, k, e, n⟩ ⟨h1, h2⟩
  dsimp only at h1 h2 ⊢
  refine sb_seq (sb_par (ea_cons (ed_mod (ed_var rfl)) (ea_cons (ed_callP (α := Bool) e (ea_cons (ed_var rfl) ea_nil) trivial) ea_nil))) ?_
  refine sb_seq (sb_fld (B := strsD (namesOf t.rows (kindAt t.mo.2 k e))) (ed_methP (α := ToA × Str) (t, kindAt t.mo.2 k e) (ed_var rfl) (ea_cons (ed_methP (α := AtA) ⟨t.mo, k, e⟩ (ed_var rfl) (ea_cons (ed_var rfl) (ea_cons (ed_var rfl) ea_nil)) ⟨h1.mo, h2⟩) ea_nil) ⟨h1, (h1.kind h2 e).1⟩) (ed_var rfl) (c_Demand T) (na_Demand_own_names T) (by decide)) ?_
  refine sb_seq (sb_fld (B := strsD (namesOf t.rows (kindAt t.mo.2 k !e))) (ed_methP (α := ToA × Str) (t, kindAt t.mo.2 k !e) (ed_var rfl) (ea_cons (ed_methP (α := AtA) ⟨t.mo, k, !e⟩ (ed_var rfl) (ea_cons (ed_var rfl) (ea_cons (ed_var rfl) ea_nil)) ⟨h1.mo, h2⟩) ea_nil) ⟨h1, (h1.kind h2 !e).1⟩) (ed_var rfl) (c_Demand T) (na_Demand_own_others T) (by show 1 < 1000; omega)) ?_
  have hl : (prods (lk t.prs k)).length ≤ 100 := Nat.le_trans (len_prods _) (by have := (h1.pnd _ (lk_mem (h1.pkey h2))).2; dsimp only at this; omega)
  have hol : (orient e (prods (lk t.prs k))).length ≤ 100 := by
    unfold orient
    split
    · rw [List.length_map]; exact hl
    · exact hl
  have hond : (orient e (prods (lk t.prs k))).Nodup := by
    unfold orient
    split
    · exact List.Pairwise.map _ (fun a b n z => n (by
        obtain ⟨a1, a2⟩ := a
        obtain ⟨b1, b2⟩ := b
        injection z with z1 z2
        rw [show a1 = b1 from z2, show a2 = b2 from z1])) (nodup_prods _)
    · exact nodup_prods _
  refine sb_seq (sb_asg (A := prsD (orient e (prods (lk t.prs k)))) (ed_if (b := !e) ((et_test (ed_op (ed_var rfl) ed_c od_eqS)).cast (end_eq e)) (fun h => ?_) fun h => ?_)) ?_
  · cases e with
    | true => cases h
    | false => exact ed_op (ed_var rfl) (ed_var rfl) (od_ownGet (α := ToA × Str) (t, k) ⟨h1, h2⟩)
  · cases e with
    | false => cases h
    | true =>
      have e1 : (orient true (prods (lk t.prs k))).map (fun p => prD p) = (prods (lk t.prs k)).map fun p => prD (swapP p) := by
        show ((prods (lk t.prs k)).map swapP).map (fun p => prD p) = _
        rw [List.map_map]
        rfl
      exact ED.cast (ed_lc0 (xs := prods (lk t.prs k)) (f := fun p => prD (swapP p)) (ei_list (ed_op (ed_var rfl) (ed_var rfl) (od_ownGet (α := ToA × Str) (t, k) ⟨h1, h2⟩))) (fun p _ => gd_tup2 gd_name gd_name) (fun p _ => ed_tup (ea_cons (ed_var rfl) (ea_cons (ed_var rfl) ea_nil))) (by decide) (by omega)) (congrArg lstD e1.symm)
  refine sb_seq (sb_fld (B := ptD (orient e (prods (lk t.prs k)))) (ed_dcT (xs := orient e (prods (lk t.prs k))) (e' := fun p => prD p) (key := fun p => [Sum.inr p.1, Sum.inr p.2]) (f := fun _ => blD true) (ei_list (ed_var rfl)) (fun p _ => gd_name) (fun p _ => ed_var rfl) (fun p => key_tup [Sum.inr p.1, Sum.inr p.2]) (fun p _ => ed_c) ?_ (by decide) (by omega)) (ed_var rfl) (c_Demand T) (na_Demand_own_told T) (by show 2 < 1000; omega)) ?_
  · exact List.Pairwise.map _ (fun a b n z => n (by
      obtain ⟨a1, a2⟩ := a
      obtain ⟨b1, b2⟩ := b
      injection z with z1 z2
      injection z1 with z1
      injection z2 with z2 _
      injection z2 with z2
      rw [show a1 = b1 from z1, show a2 = b2 from z2])) hond
  refine sb_seq (sb_fld (B := intD (manyAt t.mo.2 k e).1) (ed_propSl (α := Mny) (manyAt t.mo.2 k e) (ed_methP (α := AtA) ⟨t.mo, k, e⟩ (ed_var rfl) (ea_cons (ed_var rfl) (ea_cons (ed_var rfl) ea_nil)) ⟨h1.mo, h2⟩) trivial) (ed_var rfl) (c_Demand T) (na_Demand_own_least T) (by show 3 < 1000; omega)) ?_
  exact sb_fld (B := optD (manyAt t.mo.2 k !e).2) (ed_propSl (α := Mny) (manyAt t.mo.2 k !e) (ed_methP (α := AtA) ⟨t.mo, k, !e⟩ (ed_var rfl) (ea_cons (ed_var rfl) (ea_cons (ed_var rfl) ea_nil)) ⟨h1.mo, h2⟩) trivial) (ed_var rfl) (c_Demand T) (na_Demand_own_top T) (by show 4 < 1000; omega) ⟨rfl, .refl⟩
end
end Pr
/-! VI -/
namespace Pr
open PySem PySem.Spec PyProof.Rows L2 Dn Rb
theorem okTo.de {t : ToA} (h : okTo t) {k : Str} (hk : k ∈ t.mo.2.map (·.1)) (e : Bool) : okDe (deOf t k e) := by
  have hn : ∀ s, (namesOf t.rows s).length ≤ 60 := fun s => by
    unfold namesOf
    rw [List.length_map]
    exact Nat.le_trans (List.length_filter_le _ _) h.rle
  obtain ⟨_, ⟨a1, a2⟩, _, ⟨b1, b2⟩⟩ := h.mo.le4 _ (lk_mem hk)
  have hm : ∀ e, okM (manyAt t.mo.2 k e) ∧ smallM (manyAt t.mo.2 k e) := fun e => by
    cases e with
    | false => exact ⟨a1, a2⟩
    | true => exact ⟨b1, b2⟩
  refine ⟨hn _, hn _, ?_, fun j hj => ?_⟩
  · have h1 := (hm e).1.1
    have h2 := (hm e).2.1
    exact ⟨h1, by show (manyAt t.mo.2 k e).1 ≤ 100; omega⟩
  · have h1 := (hm !e).1.2 j hj
    have h2 := (hm !e).2.2 j hj
    omega
/-- what is_cut answers of names and b -/
def isCutB (t : ToA) (cs : Cs) (k : Str) (e : Bool) (names : List Str) (b : Bool) : Bool :=
  (names.all fun n => decide (n ∈ namesOf t.rows (kindAt t.mo.2 k e))) && (decide (names = uq names) && tooB (deOf t k e) names (lk (newsC t cs) (kindAt t.mo.2 k e) * (if b then 1 else 0)) (lk (newsC t cs) (kindAt t.mo.2 k !e)))
inductive CutArg (K : PySem.W.Frag) (t : ToA) (cs : Cs) (k : Str) (e : Bool) : Den → Bool → Prop
  | main (names : List Str) (b : Bool) (h : ∀ n, n ∈ names → okN n) (hl : names.length ≤ 50) : CutArg K t cs k e (tupD [strsT names, blD b]) (isCutB t cs k e names b)
  | notTup (R : Den) (s : String) (h : Ty K R (.type s)) (hk : kitB s "tuple" = some false) : CutArg K t cs k e R false
  | len (Rs : List Den) (h : Rs.length ≠ 2) : CutArg K t cs k e (tupD Rs) false
  | fst (A B : Den) (s : String) (h : Ty K A (.type s)) (hk : kitB s "tuple" = some false) : CutArg K t cs k e (tupD [A, B]) false
  | snd (names : List Str) (B : Den) (s : String) (h : Ty K B (.type s)) (hk : kitB s "bool" = some false) : CutArg K t cs k e (tupD [strsT names, B]) false
  | odd (R : Den) (h : NoStr K R) (b : Bool) : CutArg K t cs k e (tupD [tupD [R], blD b]) false
structure IcA where
  c : CnA
  R : Den
  b : Bool
structure okIc (K : PySem.W.Frag) (a : IcA) : Prop where
  c : okCn a.c
  big : ∀ p, p ∈ newsC a.c.t a.c.cs → p.2 ≤ 10 ^ 49
  arg : CutArg K a.c.t a.c.cs a.c.k a.c.e a.R a.b
theorem newsC_keys (t : ToA) (cs : Cs) : (newsC t cs).map (·.1) = Srt.srt t.mo.1 := by unfold newsC; rw [List.map_map]; exact List.map_id _
theorem newsC_in {t : ToA} {cs : Cs} {k : Str} (h : k ∈ t.mo.1) : k ∈ (newsC t cs).map (·.1) := by rw [newsC_keys]; exact Srt.mem_srt.mpr h
section
variable {P : Program} {w : World} {K : PySem.W.Frag} {mg : Str → Option Value} {base : Heap}
theorem kTup (s : String) : kitB "tuple" "tuple" = some true := by decide +kernel
abbrev r_is_cut (K : PySem.W.Frag) : List Den → Own → Own → Den → Prop := pu (okIc K) (fun a => [toldD K a.c.t, csA K a.c.cs a.c.b, strD a.c.k, strD (endS a.c.e), a.R]) (fun a => blD a.b)
theorem ok_is_cut (T : Txt K mg) : FnOk P w K mg base CX0 8 (a_is_cut K) (fdOf K (a_is_cut K)) ["told", "sizes", "link", "end", "value"] (DefSp (r_is_cut K)) := by
  refine ow_ok (F_is_cut T) sc_is_cut (fun _ => rfl) fun cdv A outer s H E hr => ⟨_, PSs.nox (pss_cons (ps_set (i := 5) sc_is_cut.nd rfl (Or.inl rfl) (pe_call (ok_checked_news T) (hr.mono (by decide)) rfl (g_checked_news T) (F_checked_news T).kp (b_checked_news T) .nil pass0 (pa_cons (pv 0) (pa_cons (pv 1) (pa_cons (pv 2) (pa_cons (pv 3) pa_nil))))))
  (pss_cons (ps_if (PW.pt (pw_or (pt_not (pt_val (pe_callB (call_isiK' (K := K)) (by rfl) (z_isinstance T) boot_isinstance (pa_cons (pv 4) (pa_cons (pe_bltn (by rfl) (z_tuple T) boot_tuple (rty _)) pa_nil))))) (pw_or (pt_cmpR op_ne (pe_callB (call_lenK (K := K)) (by rfl) (z_len T) boot_len (pa_cons (pv 4) pa_nil)) pe_int (nomark _)) (pw_or1 (pt_not (pt_val (pe_callB (call_isiK' (K := K)) (by rfl) (z_isinstance T) boot_isinstance (pa_cons (pe_ix (ix_tupK (K := K)) (pv 4) pe_int (fun _ _ => rfl)) (pa_cons (pe_bltn (by rfl) (z_tuple T) boot_tuple (rty _)) pa_nil))))))))) (pss_one (ps_ret pe_bl)) pss_nil)
  (pss_cons (ps_asg (pv 4) (pg_tupK (K := K) (n := 2) rfl (pgs_cons (pg_name (i := 6) sc_is_cut.nd rfl (Or.inl rfl)) (pgs_cons (pg_name (i := 7) sc_is_cut.nd rfl (Or.inl rfl)) pgs_nil))))
  (pss_cons (ps_asg (pe_tup (pa_cons (pe_meth (pe_prop (pv 0) (c_Told T) (po_Told_model T) (ok_Told_model T) (hr.mono (by decide)) (b_Told_model T) .nil pass0 rfl) (c_Model T) (m_Model_kind_at T) (ok_Model_kind_at T) (hr.mono (by decide)) (b_Model_kind_at T) .nil pass0 (pa_cons (pv 2) (pa_cons (pv 3) pa_nil))) (pa_cons (pe_meth (pe_prop (pv 0) (c_Told T) (po_Told_model T) (ok_Told_model T) (hr.mono (by decide)) (b_Told_model T) .nil pass0 rfl) (c_Model T) (m_Model_kind_at T) (ok_Model_kind_at T) (hr.mono (by decide)) (b_Model_kind_at T) .nil pass0 (pa_cons (pv 2) (pa_cons (pe_call (ok_other_end T) (hr.mono (by decide)) rfl (g_other_end T) (F_other_end T).kp (b_other_end T) .nil pass0 (pa_cons (pv 3) pa_nil)) pa_nil))) pa_nil))) (pg_tupK (K := K) (n := 2) rfl (pgs_cons (pg_name (i := 8) sc_is_cut.nd rfl (Or.inr rfl)) (pgs_cons (pg_name (i := 9) sc_is_cut.nd rfl (Or.inl rfl)) pgs_nil))))
  (pss_cons (ps_if (PW.pt (pw_or (pt_not (pt_val (pe_callB (call_isiK' (K := K)) (by rfl) (z_isinstance T) boot_isinstance (pa_cons (pv 7) (pa_cons (pe_bltn (by rfl) (z_bool T) boot_bool (rty _)) pa_nil))))) (pw_or1 (pt_not (pt_val (pe_callB (cr_allK (K := K) rfl) (by rfl) (z_all T) boot_all (pa_cons (pe_lc (own := [("name", 10)]) (by rfl) sc_is_cut.nd (pi_tupK (K := K) (pv 6)) (blkOk_by (N := n_is_cut) (sc := defScope s_is_cut) (by decide +kernel)) (fun _ _ _ _ _ => (pg_name (i := 10) sc_is_cut.nd rfl (Or.inl rfl))) (fun _ _ _ _ _ => pts_nil) (fun _ _ _ _ _ => (pe_cmpR (op_ownIn (oo_Told_contains T) (ok_Told_contains T) (hr.mono (by decide)) (b_Told_contains T)) (pe_tup (pa_cons (pv 8) (pa_cons (pv 10) pa_nil))) (pv 0) (by rfl)))) pa_nil))))))) (pss_one (ps_ret pe_bl)) pss_nil)
  (pss_cons (ps_if (pt_cmpR (op_neDK (K := K) (rm64 hr)) (pe_callTy (call_list_ofK (K := K)) (by rfl) (z_list T) boot_list (pa_cons (pv 6) pa_nil)) (pe_callB (cr_sortedSS rfl) (by rfl) (z_sorted T) boot_sorted (pa_cons (pe_callTy (cr_setS (K := K) rfl) (by rfl) (z_set T) boot_set (pa_cons (pe_lc (own := [("name", 10)]) (by rfl) sc_is_cut.nd (pi_tupK (K := K) (pv 6)) (blkOk_by (N := n_is_cut) (sc := defScope s_is_cut) (by decide +kernel)) (fun _ _ _ _ _ => (pg_name (i := 10) sc_is_cut.nd rfl (Or.inl rfl))) (fun _ _ _ _ _ => pts_nil) (fun _ _ _ _ _ => (pe_callTy SkE.call_str_str (by rfl) (z_str T) boot_str (pa_cons (pv 10) pa_nil)))) pa_nil)) pa_nil)) (nomark _)) (pss_one (ps_ret pe_bl)) pss_nil)
  (pss_one (ps_ret (pe_meth (pe_make (mk_Demand T) (ok_Demand_init T) (hr.mono (by decide)) rfl (g_Demand T) (b_Demand_init T) .nil pass0 (pa_cons (pv 0) (pa_cons (pv 2) (pa_cons (pv 3) pa_nil)))) (c_Demand T) (m_Demand_is_too_much T) (ok_Demand_is_too_much T) (hr.mono (by decide)) (b_Demand_is_too_much T) .nil pass0 (pa_cons (pv 6) (pa_cons (pe_op op_mulW (pe_dget (rm1 hr) (pv 5) (pv 8) (fun _ _ => rfl)) (pe_callTy call_int1 (by rfl) (z_int T) boot_int (pa_cons (pv 7) pa_nil))) (pa_cons (pe_dget (rm1 hr) (pv 5) (pv 9) (fun _ _ => rfl)) pa_nil)))))))))))), ?_⟩
  rintro ⟨⟨t, cs, cb, k, e⟩, R, b⟩ ⟨hc, hbig, harg⟩
  obtain ⟨h1, h2, h3, h4⟩ := id hc
  dsimp only at h1 h2 h3 h4 hbig harg ⊢
  refine sb_seq (sb_asg (A := csD (newsC t cs)) (ed_callP (α := CnA) ⟨t, cs, cb, k, e⟩ (ea_cons (ed_var rfl) (ea_cons (ed_var rfl) (ea_cons (ed_var rfl) (ea_cons (ed_var rfl) ea_nil)))) hc)) ?_
  cases harg with
  | notTup R s h hk => exact sb_ifs (b := true) (et_or (a := true) (b := false) (et_not (a := false) (et_B (ed_cb (ea_cons (ed_var rfl) (ea_cons ed_c ea_nil)) (cd_isi (b := false) h (.ty _) (kit_ty hk))))) fun z => nomatch z) (fun _ => sb_stop (sb_ret ed_c)) fun z => nomatch z
  | len Rs h => exact sb_ifs (b := true) (et_or (a := false) (b := true) (et_not (a := true) (et_B (ed_cb (ea_cons (ed_var rfl) (ea_cons ed_c ea_nil)) (cd_isiB (b := true) ty_tup)))) fun _ => et_or (a := true) (b := false) (et_test (ed_tt (ed_op (ed_cb (ea_cons (ed_var rfl) ea_nil) cd_lenT) ed_c od_neI) (by rw [decide_eq_false (by omega)]; rfl))) fun z => nomatch z) (fun _ => sb_stop (sb_ret ed_c)) fun z => nomatch z
  | fst A B s h hk => exact sb_ifs (b := true) (et_or (a := false) (b := true) (et_not (a := true) (et_B (ed_cb (ea_cons (ed_var rfl) (ea_cons ed_c ea_nil)) (cd_isiB (b := true) ty_tup)))) fun _ => et_or (a := false) (b := true) (et_test (ed_op (ed_cb (ea_cons (ed_var rfl) ea_nil) cd_lenT) ed_c od_neI)) fun _ => et_not (a := false) (et_B (ed_cb (ea_cons (ed_op (ed_var rfl) ed_c (od_ixT (i := 0) rfl)) (ea_cons ed_c ea_nil)) (cd_isi (b := false) h (.ty _) (kit_ty hk))))) (fun _ => sb_stop (sb_ret ed_c)) fun z => nomatch z
  | snd names B s h hk =>
    refine sb_ifs (b := false) (et_or (a := false) (b := false) (et_not (a := true) (et_B (ed_cb (ea_cons (ed_var rfl) (ea_cons ed_c ea_nil)) (cd_isiB (b := true) ty_tup)))) fun _ => et_or (a := false) (b := false) (et_test (ed_op (ed_cb (ea_cons (ed_var rfl) ea_nil) cd_lenT) ed_c od_neI)) fun _ => et_not (a := true) (et_B (ed_cb (ea_cons (ed_op (ed_var rfl) ed_c (od_ixT (i := 0) rfl)) (ea_cons ed_c ea_nil)) (cd_isiB (b := true) ty_tup)))) (fun z => nomatch z) fun _ => sb_skip ?_
    refine sb_seq (sb_asgG (ed_var rfl) (gd_tup2 gd_name gd_name)) ?_
    refine sb_seq (sb_asgG (A := tupD [strD (kindAt t.mo.2 k e), strD (kindAt t.mo.2 k !e)]) (ed_tup (ea_cons (ed_methP (α := AtA) ⟨t.mo, k, e⟩ (ed_mod (ed_var rfl)) (ea_cons (ed_var rfl) (ea_cons (ed_var rfl) ea_nil)) ⟨h1.mo, h4⟩) (ea_cons (ed_methP (α := AtA) ⟨t.mo, k, !e⟩ (ed_mod (ed_var rfl)) (ea_cons (ed_var rfl) (ea_cons (ed_callP (α := Bool) e (ea_cons (ed_var rfl) ea_nil) trivial) ea_nil)) ⟨h1.mo, h4⟩) ea_nil))) (gd_tup2 gd_name gd_name)) ?_
    exact sb_ifs (b := true) (et_or (a := true) (b := false) (et_not (a := false) (et_B (ed_cb (ea_cons (ed_var rfl) (ea_cons ed_c ea_nil)) (cd_isi (b := false) h (.ty _) (kit_ty hk))))) fun z => nomatch z) (fun _ => sb_stop (sb_ret ed_c)) fun z => nomatch z
  | odd R h b =>
    refine sb_ifs (b := false) (et_or (a := false) (b := false) (et_not (a := true) (et_B (ed_cb (ea_cons (ed_var rfl) (ea_cons ed_c ea_nil)) (cd_isiB (b := true) ty_tup)))) fun _ => et_or (a := false) (b := false) (et_test (ed_op (ed_cb (ea_cons (ed_var rfl) ea_nil) cd_lenT) ed_c od_neI)) fun _ => et_not (a := true) (et_B (ed_cb (ea_cons (ed_op (ed_var rfl) ed_c (od_ixT (i := 0) rfl)) (ea_cons ed_c ea_nil)) (cd_isiB (b := true) ty_tup)))) (fun z => nomatch z) fun _ => sb_skip ?_
    refine sb_seq (sb_asgG (ed_var rfl) (gd_tup2 gd_name gd_name)) ?_
    refine sb_seq (sb_asgG (A := tupD [strD (kindAt t.mo.2 k e), strD (kindAt t.mo.2 k !e)]) (ed_tup (ea_cons (ed_methP (α := AtA) ⟨t.mo, k, e⟩ (ed_mod (ed_var rfl)) (ea_cons (ed_var rfl) (ea_cons (ed_var rfl) ea_nil)) ⟨h1.mo, h4⟩) (ea_cons (ed_methP (α := AtA) ⟨t.mo, k, !e⟩ (ed_mod (ed_var rfl)) (ea_cons (ed_var rfl) (ea_cons (ed_callP (α := Bool) e (ea_cons (ed_var rfl) ea_nil) trivial) ea_nil)) ⟨h1.mo, h4⟩) ea_nil))) (gd_tup2 gd_name gd_name)) ?_
    have kn := h1.kind h4 e
    have hb : hasB ⟨t, kindAt t.mo.2 k e, .inr R⟩ = false := by
      unfold hasB resN
      rw [Bool.and_false]
      rfl
    refine sb_ifs (b := true) (et_or (a := false) (b := true) (et_not (a := true) (et_B (ed_cb (ea_cons (ed_var rfl) (ea_cons ed_c ea_nil)) (cd_isiB (b := true) ty_bl)))) fun _ => et_not (a := false) (et_B (ed_cb (ea_cons (ed_lc0 (xs := [R]) (d := fun R => R) (f := fun R => blD (hasB ⟨t, kindAt t.mo.2 k e, .inr R⟩)) (ei_tup (ed_var rfl)) (fun n _ => gd_name) (fun n hn => ?_) (by decide) (by show 1 ≤ 100000; omega)) ea_nil) cd_allM |> fun z => z.cast (by rw [List.all_cons, List.all_nil, hb]; rfl)))) (fun _ => sb_stop (sb_ret ed_c)) fun z => nomatch z
    have en := List.mem_singleton.mp hn
    subst en
    exact ed_op (ed_tup (ea_cons (ed_var rfl) (ea_cons (ed_var rfl) ea_nil))) (ed_var rfl) (od_ownIn (α := HasA) ⟨t, kindAt t.mo.2 k e, .inr n⟩ ⟨h1, Nat.le_trans kn.2.len.2 (by decide), h⟩)
  | main names b hn hl =>
    refine sb_ifs (b := false) (et_or (a := false) (b := false) (et_not (a := true) (et_B (ed_cb (ea_cons (ed_var rfl) (ea_cons ed_c ea_nil)) (cd_isiB (b := true) ty_tup)))) fun _ => et_or (a := false) (b := false) (et_test (ed_op (ed_cb (ea_cons (ed_var rfl) ea_nil) cd_lenT) ed_c od_neI)) fun _ => et_not (a := true) (et_B (ed_cb (ea_cons (ed_op (ed_var rfl) ed_c (od_ixT (i := 0) rfl)) (ea_cons ed_c ea_nil)) (cd_isiB (b := true) ty_tup)))) (fun z => nomatch z) fun _ => sb_skip ?_
    refine sb_seq (sb_asgG (ed_var rfl) (gd_tup2 gd_name gd_name)) ?_
    refine sb_seq (sb_asgG (A := tupD [strD (kindAt t.mo.2 k e), strD (kindAt t.mo.2 k !e)]) (ed_tup (ea_cons (ed_methP (α := AtA) ⟨t.mo, k, e⟩ (ed_mod (ed_var rfl)) (ea_cons (ed_var rfl) (ea_cons (ed_var rfl) ea_nil)) ⟨h1.mo, h4⟩) (ea_cons (ed_methP (α := AtA) ⟨t.mo, k, !e⟩ (ed_mod (ed_var rfl)) (ea_cons (ed_var rfl) (ea_cons (ed_callP (α := Bool) e (ea_cons (ed_var rfl) ea_nil) trivial) ea_nil)) ⟨h1.mo, h4⟩) ea_nil))) (gd_tup2 gd_name gd_name)) ?_
    have kn := h1.kind h4 e
    have kn' := h1.kind h4 !e
    have hb : ∀ n, n ∈ names → hasB ⟨t, kindAt t.mo.2 k e, .inl n⟩ = decide (n ∈ namesOf t.rows (kindAt t.mo.2 k e)) := fun n m => by
      unfold hasB resN inRows
      dsimp only
      rw [decide_eq_true kn.1, show nameB n = true from hn n m]
      exact decide_eq_decide.mpr mem_namesOf.symm
    have eall : (names.all fun n => hasB ⟨t, kindAt t.mo.2 k e, .inl n⟩) = names.all fun n => decide (n ∈ namesOf t.rows (kindAt t.mo.2 k e)) := by
      rw [Bool.eq_iff_iff, List.all_eq_true, List.all_eq_true]
      exact ⟨fun z n m => by rw [← hb n m]; exact z n m, fun z n m => by rw [hb n m]; exact z n m⟩
    have hall : ∀ {Γ : Dn.Ctx}, Γ[6]? = some (some (strsT names)) → ((wipeC Γ [10]).set 10 (some anyD))[8]? = some (some (strD (kindAt t.mo.2 k e))) → True := fun _ _ => trivial
    refine sb_ifs (b := !(names.all fun n => decide (n ∈ namesOf t.rows (kindAt t.mo.2 k e)))) (et_or (a := false) (b := !(names.all fun n => decide (n ∈ namesOf t.rows (kindAt t.mo.2 k e)))) (et_not (a := true) (et_B (ed_cb (ea_cons (ed_var rfl) (ea_cons ed_c ea_nil)) (cd_isiB (b := true) ty_bl)))) fun _ => et_not (et_B (ED.cast (ed_cb (ea_cons (ed_lc0 (f := fun n : Str => blD (hasB ⟨t, kindAt t.mo.2 k e, .inl n⟩)) (ei_tup (ed_var rfl)) (fun n _ => gd_name) (fun n hm => ed_op (ed_tup (ea_cons (ed_var rfl) (ea_cons (ed_var rfl) ea_nil))) (ed_var rfl) (od_ownIn (α := HasA) ⟨t, kindAt t.mo.2 k e, .inl n⟩ ⟨h1, Nat.le_trans kn.2.len.2 (by decide), (hn n hm).pre⟩)) (by decide) (by omega)) ea_nil) cd_allM) (by rw [eall])))) (fun z => sb_stop (sb_ret ed_c ⟨rfl, ?_⟩)) fun z => sb_skip ?_
    · have e1 : isCutB t cs k e names b = false := by
        unfold isCutB
        rw [Bool.not_eq_true'] at z
        rw [z]
        rfl
      rw [e1]
      exact .refl
    rw [Bool.not_eq_false'] at z
    have e2 : names.map (fun x => strD x) = names.map fun x => strD x := rfl
    refine sb_ifs (b := !decide (names = uq names)) (et_test (ed_op (ed_cb (ea_cons (ed_var rfl) ea_nil) cd_listT) (ed_cb (ea_cons (ed_cb (ea_cons (ed_lc0 (f := fun n : Str => strD n) (ei_tup (ed_var rfl)) (fun n _ => gd_name) (fun n _ => ed_cb (ea_cons (ed_var rfl) ea_nil) cd_str) (by decide) (by omega)) ea_nil) (cd_setS (by omega))) ea_nil) (cd_sortedSS (by omega))) (strs_eqD hn fun n m => hn n (mem_uq.mp m)))) (fun z2 => sb_stop (sb_ret ed_c ⟨rfl, ?_⟩)) fun z2 => sb_skip ?_
    · have e1 : isCutB t cs k e names b = false := by
        unfold isCutB
        rw [Bool.not_eq_true'] at z2
        rw [z2, Bool.false_and, Bool.and_false]
      rw [e1]
      exact .refl
    rw [Bool.not_eq_false'] at z2
    have e1 : isCutB t cs k e names b = tooB (deOf t k e) names (lk (newsC t cs) (kindAt t.mo.2 k e) * (if b then 1 else 0)) (lk (newsC t cs) (kindAt t.mo.2 k !e)) := by
      unfold isCutB
      rw [z, z2]
      rfl
    have hd := h1.de h4 e
    have hm1 := lk_mem (newsC_in (cs := cs) kn.1)
    have hm2 := lk_mem (newsC_in (cs := cs) kn'.1)
    have n1 := h3 _ hm1
    have n2 := hbig _ hm1
    have n3 := h3 _ hm2
    have n4 := hbig _ hm2
    dsimp only at n1 n2 n3 n4
    have nb : (0 : Int) ≤ lk (newsC t cs) (kindAt t.mo.2 k e) * (if b then 1 else 0) ∧ lk (newsC t cs) (kindAt t.mo.2 k e) * (if b then 1 else 0) ≤ 10 ^ 50 := by
      cases b with
      | false => exact ⟨by simp, by simp⟩
      | true => simp only [if_true, Int.mul_one]; omega
    refine sb_ret (R := blD (isCutB t cs k e names b)) ?_
    rw [e1]
    exact ed_methP (α := TmA) ⟨⟨deOf t k e, names, lk (newsC t cs) (kindAt t.mo.2 k e) * (if b then 1 else 0)⟩, lk (newsC t cs) (kindAt t.mo.2 k !e)⟩ (ed_make (ea_cons (ed_var rfl) (ea_cons (ed_var rfl) (ea_cons (ed_var rfl) ea_nil))) fun y => ⟨(y, ⟨t, k, e, k⟩), ⟨h1, h4⟩, rfl, rfl, rfl, rfl⟩) (ea_cons (ed_var rfl) (ea_cons (ed_op (dget_s (newsC_in kn.1) (ed_var rfl) (ed_var rfl)) (ed_cb (ea_cons (ed_var rfl) ea_nil) cd_intB) (od_mulW (by unfold sm; omega) (by unfold sm; split <;> omega))) (ea_cons (dget_s (newsC_in kn'.1) (ed_var rfl) (ed_var rfl)) ea_nil))) ⟨⟨hd, by dsimp only; omega, nb⟩, n3, by dsimp only; omega⟩
end
end Pr
/-! DJ -/
/-! Things of one's own read and written; while. -/
namespace Dn
open PySem PySem.Spec PyProof.Rows L2
theorem ps_frzB {X : Cx} {st : Stmt} {tb : TS} (i : Nat) (h : PS X st tb) : PS X st (tFrzB i tb) := ⟨fun pins s σ H D I hw => by
  obtain ⟨a, u, h1, h2, mu, q⟩ := hw
  obtain ⟨od, I2⟩ := I.lock h2 mu
  exact h.run pins s σ _ D I2 (q od)⟩
section
variable {K : PySem.W.Frag} {Os : Own} {Γ Γ' : Ctx} {ta tb te ti tk tv : TE} {t c : TT} {A B C R : Den} {g : TG} {sa : TS} {N : Own → Ctx → Prop} {O : Own → Den → Prop}
theorem ed_ixO {a : Addr} {Rs : List Den} {i : Nat} (h : ED Os te Γ (valD (.ref a))) (hi : ED Os ti Γ (intD (i : Nat))) (hm : (a, lstO Rs) ∈ Os) (e : Rs[i]? = some R) : ED Os (tOp (rIxL K) te ti) Γ R := fun σ H0 H e' s w Q q =>
  h σ H0 H e' s w _ fun x H1 H1' g1 hx => hi σ H1 H1' (e'.mono g1.s0) g1.sub g1.ow _ fun y H2 H2' g2 hy => by
    obtain ⟨_, o, eo, us, po, hf⟩ := g2.ow.at_ _ hm
    subst po
    obtain ⟨v, h1, h2⟩ := fits_get hf e
    exact ⟨a, us, i, v, hx, hy, .of eo, atI_nat h1, q v H2 H2' (g1.trans g2) h2⟩
theorem ed_lenO {a : Addr} {Rs : List Den} (h : ED Os te Γ (valD (.ref a))) (hm : (a, lstO Rs) ∈ Os) : ED Os (tCB (rLen K) (tCons te tNil)) Γ (intD (Rs.length : Nat)) := fun σ H0 H e' s w Q q =>
  h σ H0 H e' s w _ fun x H1 H1' g1 hx => by
    obtain ⟨_, o, eo, us, po, hf⟩ := g1.ow.at_ _ hm
    subst po
    exact ⟨x, us.length, rfl, by rw [show x = V.ref a from hx]; exact .inl ⟨us, .of eo, rfl⟩, q _ H1 H1' g1 (by rw [Paired.length hf]; rfl)⟩
theorem ed_dninO {a : Addr} {kvs : List (List Key × Den)} {k : List Key} (hk : KeyD A k) (hb : ED Os tk Γ A) (h : ED Os te Γ (valD (.ref a))) (hm : (a, dctO .dT kvs) ∈ Os) : ED Os (tDNotIn tk te) Γ (blD (!(look kvs k).isSome)) := fun σ H0 H e s w Q q =>
  hb σ H0 H e s w _ fun y H1 H1' g1 hy => h σ H1 H1' (e.mono g1.s0) g1.sub g1.ow _ fun x H2 H2' g2 hx => by
    obtain ⟨_, o, eo, us, po, hp⟩ := g2.ow.at_ _ hm
    subst po
    have e1 : (valV us k).isSome = (look kvs k).isSome := by
      cases z : look kvs k with
      | none => rw [(look_paired hp).2 z]; rfl
      | some R =>
        obtain ⟨v, h1, _⟩ := (look_paired hp).1 R z
        rw [h1]; rfl
    obtain ⟨b, eb, hb'⟩ := hk _ _ hy
    exact ⟨a, _, hx, .inr ⟨us, k, b, .inl eo, eb, g2.sub _ _ (g2.s0 _ _ hb'), rfl⟩, by rw [e1]; exact q _ H2 H2' (g1.trans g2) rfl⟩
/-- d[k] = v, a new key, d a dict of one's own -/
theorem sb_dputT {a : Addr} {kvs : List (List Key × Den)} {k : List Key} (hv : ED ((a, dctO .dT kvs) :: Os) tv Γ B) (h : ED ((a, dctO .dT kvs) :: Os) te Γ (valD (.ref a))) (hk : KeyD A k) (hb : ED ((a, dctO .dT kvs) :: Os) tk Γ A) (nk : k ∉ kvs.map (·.1)) (hl : kvs.length < 100000) (hn : N ((a, dctO .dT (kvs ++ [(k, B)])) :: Os) Γ) : SB ((a, dctO .dT kvs) :: Os) (sDPut te tk tv) Γ N O := fun σ H0 H D e s w q _ =>
  hv σ H0 H e s w _ fun v H1 H1' g1 hv1 => h σ H1 H1' (e.mono g1.s0) g1.sub g1.ow _ fun x H2 H2' g2 hx => hb σ H2 H2' ((e.mono g1.s0).mono g2.s0) g2.sub g2.ow _ fun y H3 H3' g3 hy => by
    obtain ⟨_, o, eo, us, po, hp⟩ := g3.ow.at_ _ List.mem_cons_self
    subst po
    obtain ⟨b, eb, hb'⟩ := hk _ _ hy
    refine ⟨a, _, hx, .inr ⟨us, k, b, eo, eb, g3.sub _ _ hb', sz_lt (by rw [← Paired.length hp]; exact hl), rfl⟩, q _ _ hn σ H3 _ (((g1.trans g2).trans g3).trans (grow_set g3.sub g3.ow ⟨_, rfl, put_new hp nk (B.mono (g2.s0.trans g3.s0) hv1)⟩)) (((e.mono g1.s0).mono g2.s0).mono g3.s0)⟩
/-- d[k] = v, a new key of texts -/
theorem sb_dputK {a : Addr} {kvs : List (Key × Den)} {k : Key} (hv : ED ((a, dctO .dK kvs) :: Os) tv Γ B) (h : ED ((a, dctO .dK kvs) :: Os) te Γ (valD (.ref a))) (hb : ED ((a, dctO .dK kvs) :: Os) tk Γ (valD (kV k))) (nk : k ∉ kvs.map (·.1)) (hl : kvs.length < 100000) (hn : N ((a, dctO .dK (kvs ++ [(k, B)])) :: Os) Γ) : SB ((a, dctO .dK kvs) :: Os) (sDPut te tk tv) Γ N O := fun σ H0 H D e s w q _ =>
  hv σ H0 H e s w _ fun v H1 H1' g1 hv1 => h σ H1 H1' (e.mono g1.s0) g1.sub g1.ow _ fun x H2 H2' g2 hx => hb σ H2 H2' ((e.mono g1.s0).mono g2.s0) g2.sub g2.ow _ fun y H3 H3' g3 hy => by
    obtain ⟨_, o, eo, us, po, hp⟩ := g3.ow.at_ _ List.mem_cons_self
    subst po
    refine ⟨a, _, hx, .inl ⟨us, k, eo, hy, sz_lt (by rw [← Paired.length hp]; exact hl), rfl⟩, q _ _ hn σ H3 _ (((g1.trans g2).trans g3).trans (grow_set g3.sub g3.ow ⟨_, rfl, put_new hp nk (B.mono (g2.s0.trans g3.s0) hv1)⟩)) (((e.mono g1.s0).mono g2.s0).mono g3.s0)⟩
theorem hold_swap {p q : Addr × Ow} {H0 H : Hp} (w : Hold (p :: q :: Os) H0 H) : Hold (q :: p :: Os) H0 H := by
  have nd : (p.1 :: q.1 :: ads Os).Nodup := w.nd
  refine ⟨(List.Perm.swap q.1 p.1 (ads Os)).nodup_iff.mp nd, fun r hr => w.at_ r ?_⟩
  rcases List.mem_cons.mp hr with z | z
  · rw [z]; exact List.mem_cons_of_mem _ List.mem_cons_self
  · rcases List.mem_cons.mp z with z | z
    · rw [z]; exact List.mem_cons_self
    · exact List.mem_cons_of_mem _ (List.mem_cons_of_mem _ z)
theorem ads_swap {p q : Addr × Ow} {b : Addr} : b ∈ ads (p :: q :: Os) ↔ b ∈ ads (q :: p :: Os) := (List.Perm.swap q.1 p.1 (ads Os)).mem_iff
/-- in the other order, ahead -/
theorem sb_swap {p q : Addr × Ow} (h : SB (q :: p :: Os) sa Γ N O) : SB (p :: q :: Os) sa Γ N O := fun σ H0 H D e s w qn qr =>
  h σ H0 H D e s (hold_swap w) (fun Os' Γ' m σ' H1 H1' g2 e2 => qn Os' Γ' m σ' H1 H1' ⟨g2.s0, fun b o hb => g2.s1 b o fun z => hb (ads_swap.mpr z), g2.sub, fun b o hb => g2.fr b o fun z => hb (ads_swap.mpr z), g2.ow, fun b hb => (g2.nw b hb).imp ads_swap.mpr id⟩ e2)
    fun Os' R' m v H1 H1' g2 hv => qr Os' R' m v H1 H1' ⟨g2.s0, fun b o hb => g2.s1 b o fun z => hb (ads_swap.mpr z), g2.sub, fun b o hb => g2.fr b o fun z => hb (ads_swap.mpr z), g2.ow, fun b hb => (g2.nw b hb).imp ads_swap.mpr id⟩ hv
/-- .. behind -/
theorem SB.swap {p q : Addr × Ow} {Os1 : Own} {Γ1 : Ctx} (h : SB Os1 sa Γ (to (p :: q :: Os) Γ1) O) : SB Os1 sa Γ (to (q :: p :: Os) Γ1) O := fun σ H0 H D e s w qn qr =>
  h σ H0 H D e s w (fun Os' Γ' m σ' H1 H1' g2 e2 => by
    obtain ⟨rfl, rfl⟩ := m
    exact qn _ _ ⟨rfl, rfl⟩ σ' H1 H1' ⟨g2.s0, g2.s1, g2.sub, g2.fr, hold_swap g2.ow, fun b hb => g2.nw b (ads_swap.mpr hb)⟩ e2) qr
/-- a thing of one's own that is not looked at any more -/
theorem sb_forget {p : Addr × Ow} (h : SB Os sa Γ N O) : SB (p :: Os) sa Γ N O := fun σ H0 H D e s w qn qr => by
  have nd : (p.1 :: ads Os).Nodup := w.nd
  have w2 : Hold Os H0 H := ⟨(List.nodup_cons.mp nd).2, fun r hr => w.at_ r (List.mem_cons_of_mem _ hr)⟩
  have ng : ∀ {Os' : Own} {H1 H1' : Hp}, Grow Os H0 H Os' H1 H1' → Grow (p :: Os) H0 H Os' H1 H1' := fun {Os' H1 H1'} g2 => ⟨g2.s0, fun b o hb => g2.s1 b o fun z => hb (List.mem_cons_of_mem _ z), g2.sub, fun b o hb => g2.fr b o fun z => hb (List.mem_cons_of_mem _ z), g2.ow, fun b hb => (g2.nw b hb).imp (List.mem_cons_of_mem _) id⟩
  exact h σ H0 H D e s w2 (fun Os' Γ' m σ' H1 H1' g2 e2 => qn Os' Γ' m σ' H1 H1' (ng g2) e2) fun Os' R' m v H1 H1' g2 hv => qr Os' R' m v H1 H1' (ng g2) hv
/-- while: states by ι, a measure, something told -/
theorem sb_while {ι : Type} {Oz : ι → Own} {Γs : ι → Ctx} {μ : ι → Nat} {I : ι → Prop} (i0 : ι) (h0 : I i0) (z0 : Oz i0 = Os) (l0 : Less (Γs i0) Γ) (za : ∀ i, ads (Oz i) = ads Os)
    (hs : ∀ i, I i → ∃ b, ET (Oz i) c (Γs i) b ∧ (b = false → N (Oz i) (Γs i)) ∧ (b = true → SB (Oz i) sa (Γs i) (fun o g => ∃ j, I j ∧ μ j < μ i ∧ o = Oz j ∧ Less (Γs j) g) O)) : SB Os (tWhile c sa) Γ N O := fun σ H0 H D e s w q r => by
  refine ⟨fun m σ' H' => ∃ i, I i ∧ m = μ i ∧ ∃ H1, Grow Os H0 H (Oz i) H1 H' ∧ Env H1 (Γs i) σ', ⟨μ i0, i0, h0, rfl, H0, by rw [z0]; exact .refl s w, e.less l0⟩, ?_⟩
  rintro m σ1 H1' ⟨i, hI, rfl, H1, g1, e1⟩
  obtain ⟨b, ht, hf, hb⟩ := hs i hI
  refine ht σ1 H1 H1' e1 g1.sub g1.ow _ fun H2 H2' g2 => ?_
  cases b with
  | false =>
    show D.nx σ1 H2'
    exact q _ _ (hf rfl) σ1 H2 H2' (g1.trans g2) (e1.mono g2.s0)
  | true =>
    show ∃ _, _
    refine ⟨fun σ' H' => ∃ j, I j ∧ μ j < μ i ∧ ∃ H3, Grow Os H0 H (Oz j) H3 H' ∧ Env H3 (Γs j) σ', fun σ' H' ⟨j, hj, hm, H3, g3, e3⟩ => ⟨μ j, hm, j, hj, rfl, H3, g3, e3⟩, ?_⟩
    refine hb rfl σ1 H2 H2' _ (e1.mono g2.s0) g2.sub g2.ow (fun Os' Γ' m σ' H3 H3' g3 e3 => ?_) fun Os' R' m v H3 H3' g3 hv => r Os' R' m v H3 H3' ((g1.trans g2).trans g3) hv
    obtain ⟨j, j1, j2, j3, j4⟩ := m
    subst j3
    exact ⟨j, j1, j2, H3, (g1.trans g2).trans g3, e3.less j4⟩
end
end Dn
/-! FlowA -/
/-! Sums over 0 .. n-1, flows of a table, the greatest one and its closed set. -/
namespace Fl
def sumN (g : Nat → Int) : Nat → Int
  | 0 => 0
  | k + 1 => sumN g k + g k
theorem sumN_congr {g h : Nat → Int} : ∀ {n : Nat}, (∀ i, i < n → g i = h i) → sumN g n = sumN h n
  | 0, _ => rfl
  | n + 1, e => by
    show sumN g n + g n = sumN h n + h n
    rw [sumN_congr (fun i hi => e i (Nat.lt_succ_of_lt hi)), e n (Nat.lt_succ_self n)]
theorem sumN_le {g h : Nat → Int} : ∀ {n : Nat}, (∀ i, i < n → g i ≤ h i) → sumN g n ≤ sumN h n
  | 0, _ => Int.le_refl _
  | n + 1, e => by
    have a := sumN_le (fun i hi => e i (Nat.lt_succ_of_lt hi))
    have b := e n (Nat.lt_succ_self n)
    show sumN g n + g n ≤ sumN h n + h n
    omega
theorem sumN_zero {g : Nat → Int} : ∀ {n : Nat}, (∀ i, i < n → g i = 0) → sumN g n = 0
  | 0, _ => rfl
  | n + 1, e => by
    have a := sumN_zero (fun i hi => e i (Nat.lt_succ_of_lt hi))
    have b := e n (Nat.lt_succ_self n)
    show sumN g n + g n = 0
    omega
theorem sumN_nonneg {g : Nat → Int} {n : Nat} (h : ∀ i, i < n → 0 ≤ g i) : 0 ≤ sumN g n := by
  have a := sumN_le (g := fun _ => 0) (h := g) h
  rw [sumN_zero (fun _ _ => rfl)] at a
  exact a
theorem sumN_add (g h : Nat → Int) : ∀ n, sumN (fun i => g i + h i) n = sumN g n + sumN h n
  | 0 => rfl
  | n + 1 => by
    show sumN (fun i => g i + h i) n + (g n + h n) = sumN g n + g n + (sumN h n + h n)
    rw [sumN_add g h n]
    omega
theorem sumN_sub (g h : Nat → Int) : ∀ n, sumN (fun i => g i - h i) n = sumN g n - sumN h n
  | 0 => rfl
  | n + 1 => by
    show sumN (fun i => g i - h i) n + (g n - h n) = sumN g n + g n - (sumN h n + h n)
    rw [sumN_sub g h n]
    omega
theorem sumN_mul (k : Int) (g : Nat → Int) : ∀ n, sumN (fun i => k * g i) n = k * sumN g n
  | 0 => (Int.mul_zero k).symm
  | n + 1 => by
    show sumN (fun i => k * g i) n + k * g n = k * (sumN g n + g n)
    rw [sumN_mul k g n, Int.mul_add]
theorem sumN_swap (f : Nat → Nat → Int) (m : Nat) : ∀ n, sumN (fun i => sumN (f i) m) n = sumN (fun j => sumN (fun i => f i j) n) m
  | 0 => (sumN_zero (fun _ _ => rfl)).symm
  | n + 1 => by
    show sumN (fun i => sumN (f i) m) n + sumN (f n) m = sumN (fun j => sumN (fun i => f i j) n + f n j) m
    rw [sumN_swap f m n, sumN_add]
/-- one place changed -/
theorem sumN_one {g h : Nat → Int} {p : Nat} : ∀ {n : Nat}, p < n → (∀ i, i < n → i ≠ p → h i = g i) → sumN h n = sumN g n + (h p - g p)
  | 0, hp, _ => absurd hp (Nat.not_lt_zero _)
  | n + 1, hp, e => by
    show sumN h n + h n = sumN g n + g n + (h p - g p)
    by_cases q : p = n
    · subst q
      rw [sumN_congr (g := h) (h := g) fun i hi => e i (Nat.lt_succ_of_lt hi) (Nat.ne_of_lt hi)]
      omega
    · have a := sumN_one (g := g) (h := h) (n := n) (p := p) (by omega) fun i hi => e i (Nat.lt_succ_of_lt hi)
      have b := e n (Nat.lt_succ_self n) (fun z => q z.symm)
      omega
theorem sumN_ite_congr {g h : Nat → Int} {S : Nat → Bool} {n : Nat} (e : ∀ i, i < n → S i = true → g i = h i) : sumN (fun i => if S i = true then g i else 0) n = sumN (fun i => if S i = true then h i else 0) n :=
  sumN_congr fun i hi => by
    by_cases s : S i = true
    · rw [if_pos s, if_pos s, e i hi s]
    · rw [if_neg s, if_neg s]

/-- a flow within the caps, the needs, the rooms -/
structure Feas (n m : Nat) (need room : Nat → Int) (c f : Nat → Nat → Int) : Prop where
  lo : ∀ i j, i < n → j < m → 0 ≤ f i j
  hi : ∀ i j, i < n → j < m → f i j ≤ c i j
  row : ∀ i, i < n → sumN (f i) m ≤ need i
  col : ∀ j, j < m → sumN (fun i => f i j) n ≤ room j
/-- what a set of rows asks for above what can be given -/
def dem (n : Nat) (need : Nat → Int) (S : Nat → Bool) : Int := sumN (fun i => if S i = true then need i else 0) n
def capS (n : Nat) (c : Nat → Nat → Int) (S : Nat → Bool) (j : Nat) : Int := sumN (fun i => if S i = true then c i j else 0) n
def give (n m : Nat) (room : Nat → Int) (c : Nat → Nat → Int) (S : Nat → Bool) : Int := sumN (fun j => min (room j) (capS n c S j)) m
/-- rows R, columns C that nothing leaves -/
structure Closed (n m : Nat) (need room : Nat → Int) (c f : Nat → Nat → Int) (R C : Nat → Bool) : Prop where
  sat : ∀ i, i < n → R i = false → sumN (f i) m = need i
  full : ∀ i j, i < n → j < m → R i = true → C j = false → f i j = c i j
  none : ∀ i j, i < n → j < m → R i = false → C j = true → f i j = 0
  used : ∀ j, j < m → C j = true → sumN (fun i => f i j) n = room j
theorem best {n m : Nat} {need room : Nat → Int} {c f : Nat → Nat → Int} {R C : Nat → Bool} (F : Feas n m need room c f) (K : Closed n m need room c f R C) (S : Nat → Bool) :
    dem n need S - give n m room c S ≤ dem n need R - give n m room c R := by
  have swp : ∀ T : Nat → Bool, sumN (fun i => if T i = true then sumN (f i) m else 0) n = sumN (fun j => sumN (fun i => if T i = true then f i j else 0) n) m := fun T => by
    rw [← sumN_swap (fun i j => if T i = true then f i j else 0) m n]
    refine sumN_congr fun i hi => ?_
    by_cases t : T i = true
    · rw [if_pos t]
      exact sumN_congr fun j _ => (if_pos t).symm
    · rw [if_neg t]
      exact (sumN_zero fun j _ => if_neg t).symm
  have dif : ∀ T : Nat → Bool, dem n need T - sumN (fun i => if T i = true then sumN (f i) m else 0) n = sumN (fun i => if T i = true then need i - sumN (f i) m else 0) n := fun T => by
    unfold dem
    rw [← sumN_sub]
    refine sumN_congr fun i _ => ?_
    by_cases t : T i = true
    · rw [if_pos t, if_pos t, if_pos t]
    · rw [if_neg t, if_neg t, if_neg t]; rfl
  -- any set asks at most for what is lacking at all
  have h1 : sumN (fun i => if S i = true then need i - sumN (f i) m else 0) n ≤ sumN (fun i => if R i = true then need i - sumN (f i) m else 0) n := by
    refine sumN_le fun i hi => ?_
    have a := F.row i hi
    by_cases r : R i = true
    · rw [if_pos r]
      by_cases t : S i = true
      · rw [if_pos t]; exact Int.le_refl _
      · rw [if_neg t]; omega
    · rw [if_neg r]
      have e := K.sat i hi (by simpa using r)
      by_cases t : S i = true
      · rw [if_pos t]; omega
      · rw [if_neg t]; exact Int.le_refl _
  have h2 : sumN (fun j => sumN (fun i => if S i = true then f i j else 0) n) m ≤ give n m room c S := by
    refine sumN_le fun j hj => ?_
    have a : sumN (fun i => if S i = true then f i j else 0) n ≤ sumN (fun i => f i j) n := sumN_le fun i hi => by
      have := F.lo i j hi hj
      by_cases t : S i = true
      · rw [if_pos t]; exact Int.le_refl _
      · rw [if_neg t]; exact this
    have b : sumN (fun i => if S i = true then f i j else 0) n ≤ capS n c S j := sumN_le fun i hi => by
      have := F.hi i j hi hj
      by_cases t : S i = true
      · rw [if_pos t, if_pos t]; exact this
      · rw [if_neg t, if_neg t]; exact Int.le_refl _
    have d := F.col j hj
    omega
  have h3 : give n m room c R ≤ sumN (fun j => sumN (fun i => if R i = true then f i j else 0) n) m := by
    refine sumN_le fun j hj => ?_
    by_cases q : C j = true
    · have e : sumN (fun i => if R i = true then f i j else 0) n = sumN (fun i => f i j) n := sumN_congr fun i hi => by
        by_cases t : R i = true
        · rw [if_pos t]
        · rw [if_neg t]; exact (K.none i j hi hj (by simpa using t) q).symm
      rw [e, K.used j hj q]
      omega
    · have e : sumN (fun i => if R i = true then f i j else 0) n = capS n c R j := sumN_ite_congr fun i hi t => K.full i j hi hj t (by simpa using q)
      rw [e]
      omega
  have a1 := dif S
  have a2 := dif R
  have a3 := swp S
  have a4 := swp R
  omega
end Fl
/-! FlowB -/
/-! A search's tree, what is closed at its end, a push on its way. -/
namespace Fl
/-- a row is (0, i), a column (1, j) -/
abbrev Node := Nat × Nat
def Valid (n m : Nat) (x : Node) : Prop := (x.1 = 0 ∧ x.2 < n) ∨ (x.1 = 1 ∧ x.2 < m)
/-- from p to x there is something left -/
def Edge (c f : Nat → Nat → Int) (p x : Node) : Prop := (p.1 = 0 ∧ x.1 = 1 ∧ f p.2 x.2 < c p.2 x.2) ∨ (p.1 = 1 ∧ x.1 = 0 ∧ 0 < f x.2 p.2)
abbrev Tr := List (Node × Option Node)
structure Tree (n m : Nat) (need : Nat → Int) (c f : Nat → Nat → Int) (L : Tr) : Prop where
  nd : (L.map (·.1)).Nodup
  val : ∀ x p, (x, p) ∈ L → Valid n m x
  root : ∀ x, (x, none) ∈ L → x.1 = 0 ∧ sumN (f x.2) m < need x.2
  step : ∀ (q : Nat) x p, L[q]? = some (x, some p) → Edge c f p x ∧ ∃ k, k < q ∧ ∃ z, L[k]? = some (p, z)
  src : ∀ i, i < n → sumN (f i) m < need i → (0, i) ∈ L.map (·.1)
/-- all that the first k reach is there -/
def Done (n m : Nat) (room : Nat → Int) (c f : Nat → Nat → Int) (L : Tr) (k : Nat) : Prop :=
  ∀ (q : Nat) x p, q < k → L[q]? = some (x, p) → (x.1 = 1 → room x.2 ≤ sumN (fun i => f i x.2) n) ∧ ∀ y, Valid n m y → Edge c f x y → y ∈ L.map (·.1)
section
variable {n m : Nat} {need room : Nat → Int} {c f : Nat → Nat → Int} {L : Tr}
theorem Tree.add (T : Tree n m need c f L) {x p : Node} (hx : x ∉ L.map (·.1)) (hv : Valid n m x) (he : Edge c f p x) (hp : p ∈ L.map (·.1)) : Tree n m need c f (L ++ [(x, some p)]) where
  nd := by
    rw [List.map_append, List.nodup_append]
    refine ⟨T.nd, by simp, fun a ha b hb => ?_⟩
    simp at hb
    intro e
    rw [e, hb] at ha
    exact hx ha
  val := fun y q h => by
    rcases List.mem_append.mp h with h | h
    · exact T.val y q h
    · simp at h; rw [h.1]; exact hv
  root := fun y h => by
    rcases List.mem_append.mp h with h | h
    · exact T.root y h
    · simp at h
  step := fun q y p' h => by
    rcases Nat.lt_or_ge q L.length with hq | hq
    · rw [List.getElem?_append_left hq] at h
      obtain ⟨e, k, hk, z, hz⟩ := T.step q y p' h
      exact ⟨e, k, hk, z, by rw [List.getElem?_append_left (by omega)]; exact hz⟩
    · have e0 : q = L.length := by
        have := (List.getElem?_eq_some_iff.mp h).1
        simp at this
        omega
      subst e0
      simp at h
      obtain ⟨rfl, rfl⟩ := h
      obtain ⟨⟨p1, z⟩, hz, rfl⟩ := List.mem_map.mp hp
      obtain ⟨k, hk⟩ := List.mem_iff_getElem?.mp hz
      have hk2 := (List.getElem?_eq_some_iff.mp hk).1
      exact ⟨he, k, hk2, z, by rw [List.getElem?_append_left hk2]; exact hk⟩
  src := fun i hi h => by
    rw [List.map_append]
    exact List.mem_append_left _ (T.src i hi h)
theorem Done.grow {k : Nat} {L' : Tr} (D : Done n m room c f L k) (hk : k ≤ L.length) : Done n m room c f (L ++ L') k := fun q x p hq h => by
  rw [List.getElem?_append_left (by omega)] at h
  obtain ⟨a, b⟩ := D q x p hq h
  exact ⟨a, fun y v e => by rw [List.map_append]; exact List.mem_append_left _ (b y v e)⟩
theorem Done.next {k : Nat} {x : Node} {p : Option Node} (D : Done n m room c f L k) (h : L[k]? = some (x, p)) (h1 : x.1 = 1 → room x.2 ≤ sumN (fun i => f i x.2) n) (h2 : ∀ y, Valid n m y → Edge c f x y → y ∈ L.map (·.1)) : Done n m room c f L (k + 1) := fun q y r hq hy => by
  by_cases e : q = k
  · subst e
    rw [h] at hy
    cases hy
    exact ⟨h1, h2⟩
  · exact D q y r (by omega) hy
def rowIn (L : Tr) (i : Nat) : Bool := decide ((0, i) ∈ L.map (·.1))
def colIn (L : Tr) (j : Nat) : Bool := decide ((1, j) ∈ L.map (·.1))
theorem Tree.closed (F : Feas n m need room c f) (T : Tree n m need c f L) (D : Done n m room c f L L.length) : Closed n m need room c f (rowIn L) (colIn L) := by
  have at_ : ∀ x, x ∈ L.map (·.1) → ∃ q p, q < L.length ∧ L[q]? = some (x, p) := fun x hx => by
    obtain ⟨⟨y, p⟩, hz, rfl⟩ := List.mem_map.mp hx
    obtain ⟨k, hk⟩ := List.mem_iff_getElem?.mp hz
    exact ⟨k, p, (List.getElem?_eq_some_iff.mp hk).1, hk⟩
  refine ⟨fun i hi h => ?_, fun i j hi hj h1 h2 => ?_, fun i j hi hj h1 h2 => ?_, fun j hj h => ?_⟩
  · have h' : ¬ (0, i) ∈ L.map (·.1) := of_decide_eq_false h
    have a := F.row i hi
    rcases Int.lt_or_le (sumN (f i) m) (need i) with z | z
    · exact absurd (T.src i hi z) h'
    · omega
  · obtain ⟨q, p, hq, e⟩ := at_ _ (of_decide_eq_true h1)
    have h2' : ¬ (1, j) ∈ L.map (·.1) := of_decide_eq_false h2
    have a := F.hi i j hi hj
    rcases Int.lt_or_le (f i j) (c i j) with z | z
    · exact absurd ((D q _ p hq e).2 (1, j) (.inr ⟨rfl, hj⟩) (.inl ⟨rfl, rfl, z⟩)) h2'
    · omega
  · obtain ⟨q, p, hq, e⟩ := at_ _ (of_decide_eq_true h2)
    have h1' : ¬ (0, i) ∈ L.map (·.1) := of_decide_eq_false h1
    have a := F.lo i j hi hj
    rcases Int.lt_or_le 0 (f i j) with z | z
    · exact absurd ((D q _ p hq e).2 (0, i) (.inl ⟨rfl, hi⟩) (.inr ⟨rfl, rfl, z⟩)) h1'
    · omega
  · obtain ⟨q, p, hq, e⟩ := at_ _ (of_decide_eq_true h)
    have a : room j ≤ sumN (fun i => f i j) n := (D q _ p hq e).1 rfl
    have b := F.col j hj
    omega

/-! ### a push -/
def cnt : List Node → Nat → Nat → Int
  | [], _, _ => 0
  | x :: r, i, j => (if x = (i, j) then 1 else 0) + cnt r i j
theorem cnt_app : ∀ (l l' : List Node) (i j : Nat), cnt (l ++ l') i j = cnt l i j + cnt l' i j
  | [], l', i, j => (Int.zero_add _).symm
  | x :: r, l', i, j => by
    show (if x = (i, j) then 1 else 0) + cnt (r ++ l') i j = (if x = (i, j) then 1 else 0) + cnt r i j + cnt l' i j
    rw [cnt_app r l' i j]
    omega
def delta (fo ba : List Node) (i j : Nat) : Int := cnt fo i j - cnt ba i j
/-- on the way, at place p of the tree -/
structure OnWay (n m : Nat) (room : Nat → Int) (c f : Nat → Nat → Int) (L : Tr) (c0 : Nat) (p : Nat) (x : Node) (fo ba : List Node) (most : Int) : Prop where
  at_ : ∃ z, L[p]? = some (x, z)
  row_ : ∀ i j, i < n → j < m → delta fo ba i j ≠ 0 → ∃ q, p ≤ q ∧ ∃ z, L[q]? = some ((0, i), z)
  col_ : ∀ i j, i < n → j < m → delta fo ba i j ≠ 0 → ∃ q, p ≤ q ∧ ∃ z, L[q]? = some ((1, j), z)
  rs : ∀ i, i < n → sumN (delta fo ba i) m = if x = (0, i) then 1 else 0
  cs : ∀ j, j < m → sumN (fun i => delta fo ba i j) n = (if j = c0 then 1 else 0) - (if x = (1, j) then 1 else 0)
  bd : ∀ i j, i < n → j < m → delta fo ba i j = 0 ∨ (delta fo ba i j = 1 ∧ most ≤ c i j - f i j) ∨ (delta fo ba i j = -1 ∧ most ≤ f i j)
  pos : 1 ≤ most
  le : most ≤ room c0 - sumN (fun i => f i c0) n
  end_ : ∃ q, p ≤ q ∧ ∃ z, L[q]? = some ((1, c0), z)
  in_ : (∀ e, e ∈ fo → e.1 < n ∧ e.2 < m) ∧ ∀ e, e ∈ ba → e.1 < n ∧ e.2 < m
theorem nd_at {L : Tr} (h : (L.map (·.1)).Nodup) {p q : Nat} {x : Node} {z z' : Option Node} (a : L[p]? = some (x, z)) (b : L[q]? = some (x, z')) : p = q := by
  have a' : (L.map (·.1))[p]? = some x := by rw [List.getElem?_map, a]; rfl
  have b' : (L.map (·.1))[q]? = some x := by rw [List.getElem?_map, b]; rfl
  obtain ⟨h1, e1⟩ := List.getElem?_eq_some_iff.mp a'
  obtain ⟨h2, e2⟩ := List.getElem?_eq_some_iff.mp b'
  exact (List.getElem_inj h).mp (e1.trans e2.symm)
theorem OnWay.start (T : Tree n m need c f L) {c0 p : Nat} {z : Option Node} (h : L[p]? = some ((1, c0), z)) (hr : sumN (fun i => f i c0) n < room c0) : OnWay n m room c f L c0 p (1, c0) [] [] (room c0 - sumN (fun i => f i c0) n) where
  at_ := ⟨z, h⟩
  row_ := fun i j _ _ e => absurd rfl e
  col_ := fun i j _ _ e => absurd rfl e
  rs := fun i _ => by
    rw [if_neg (by intro e; cases e)]
    exact sumN_zero fun _ _ => rfl
  cs := fun j _ => by
    have e : sumN (fun i => delta [] [] i j) n = 0 := sumN_zero fun _ _ => rfl
    rw [e]
    by_cases q : j = c0
    · subst q; simp
    · rw [if_neg q, if_neg (by intro e; cases e; exact q rfl)]; rfl
  bd := fun i j _ _ => .inl rfl
  pos := by omega
  le := Int.le_refl _
  end_ := ⟨p, Nat.le_refl _, z, h⟩
  in_ := ⟨fun e h => (nomatch h), fun e h => (nomatch h)⟩
theorem delta_fo (fo ba : List Node) (r cc i j : Nat) : delta (fo ++ [(r, cc)]) ba i j = delta fo ba i j + (if i = r ∧ j = cc then 1 else 0) := by
  unfold delta
  rw [cnt_app]
  have e : cnt [(r, cc)] i j = if i = r ∧ j = cc then 1 else 0 := by
    show (if ((r, cc) : Node) = (i, j) then 1 else 0) + 0 = _
    by_cases h : i = r ∧ j = cc
    · rw [if_pos h, if_pos (by rw [h.1, h.2])]; rfl
    · rw [if_neg h, if_neg (by intro e; cases e; exact h ⟨rfl, rfl⟩)]; rfl
  rw [e]
  omega
theorem delta_ba (fo ba : List Node) (r cc i j : Nat) : delta fo (ba ++ [(r, cc)]) i j = delta fo ba i j - (if i = r ∧ j = cc then 1 else 0) := by
  unfold delta
  rw [cnt_app]
  have e : cnt [(r, cc)] i j = if i = r ∧ j = cc then 1 else 0 := by
    show (if ((r, cc) : Node) = (i, j) then 1 else 0) + 0 = _
    by_cases h : i = r ∧ j = cc
    · rw [if_pos h, if_pos (by rw [h.1, h.2])]; rfl
    · rw [if_neg h, if_neg (by intro e; cases e; exact h ⟨rfl, rfl⟩)]; rfl
  rw [e]
  omega
/-- from a column to the row that it was reached from -/
theorem OnWay.forth (T : Tree n m need c f L) {c0 p : Nat} {cc : Nat} {pr : Node} {fo ba : List Node} {most : Int} (W : OnWay n m room c f L c0 p (1, cc) fo ba most) (h : L[p]? = some ((1, cc), some pr)) :
    ∃ r q, pr = (0, r) ∧ r < n ∧ q < p ∧ cc < m ∧ OnWay n m room c f L c0 q (0, r) (fo ++ [(r, cc)]) ba (min most (c r cc - f r cc)) := by
  obtain ⟨e, q, hq, z, hz⟩ := T.step p _ _ h
  have hcc : cc < m := by
    rcases T.val _ _ (List.mem_of_getElem? h) with v | v
    · cases v.1
    · exact v.2
  obtain ⟨pr1, r⟩ := pr
  rcases e with ⟨e1, _, e3⟩ | ⟨_, e2, _⟩
  · dsimp at e1 e3
    subst e1
    have hr : r < n := by
      rcases T.val _ _ (List.mem_of_getElem? hz) with v | v
      · exact v.2
      · cases v.1
    refine ⟨r, q, rfl, hr, hq, hcc, ?_⟩
    -- row r is untouched
    have r0 : ∀ j, j < m → delta fo ba r j = 0 := fun j hj => by
      by_cases d : delta fo ba r j = 0
      · exact d
      · obtain ⟨q', h1, z', h2⟩ := W.row_ r j hr hj d
        have := nd_at T.nd hz h2
        omega
    refine ⟨⟨z, hz⟩, fun i j hi hj d => ?_, fun i j hi hj d => ?_, fun i hi => ?_, fun j hj => ?_, fun i j hi hj => ?_, ?_, ?_, ?_, ?_⟩
    · rw [delta_fo] at d
      by_cases e : i = r ∧ j = cc
      · rw [e.1]; exact ⟨q, Nat.le_refl _, z, hz⟩
      · rw [if_neg e, Int.add_zero] at d
        obtain ⟨q', h1, z', h2⟩ := W.row_ i j hi hj d
        exact ⟨q', by omega, z', h2⟩
    · rw [delta_fo] at d
      by_cases e : i = r ∧ j = cc
      · rw [e.2]; exact ⟨p, Nat.le_of_lt hq, _, h⟩
      · rw [if_neg e, Int.add_zero] at d
        obtain ⟨q', h1, z', h2⟩ := W.col_ i j hi hj d
        exact ⟨q', by omega, z', h2⟩
    · have a := W.rs i hi
      rw [if_neg (by intro e; cases e)] at a
      by_cases e : i = r
      · subst e
        rw [if_pos rfl]
        rw [sumN_one (g := delta fo ba i) (p := cc) hcc (fun j _ hj => by rw [delta_fo, if_neg (fun z => hj z.2)]; omega), a, delta_fo, if_pos ⟨rfl, rfl⟩]
        omega
      · rw [if_neg (by intro z; cases z; exact e rfl), ← a]
        exact sumN_congr fun j _ => by rw [delta_fo, if_neg (fun z => e z.1)]; omega
    · have a := W.cs j hj
      rw [if_neg (show ¬ ((0, r) : Node) = (1, j) by intro e; cases e)]
      by_cases e : j = cc
      · subst e
        rw [if_pos (rfl : ((1, j) : Node) = (1, j))] at a
        rw [sumN_one (g := fun i => delta fo ba i j) (p := r) hr (fun i _ hi => by rw [delta_fo, if_neg (fun z => hi z.1)]; omega), a, delta_fo, if_pos (show r = r ∧ j = j from ⟨rfl, rfl⟩)]
        omega
      · rw [if_neg (show ¬ ((1, cc) : Node) = (1, j) by intro z; cases z; exact e rfl)] at a
        rw [← a]
        exact sumN_congr fun i _ => by rw [delta_fo, if_neg (fun z => e z.2)]; omega
    · rw [delta_fo]
      by_cases e : i = r ∧ j = cc
      · obtain ⟨rfl, rfl⟩ := e
        rw [if_pos ⟨rfl, rfl⟩, r0 j hj]
        exact .inr (.inl ⟨rfl, by omega⟩)
      · rw [if_neg e, Int.add_zero]
        rcases W.bd i j hi hj with b | ⟨b1, b2⟩ | ⟨b1, b2⟩
        · exact .inl b
        · exact .inr (.inl ⟨b1, by omega⟩)
        · exact .inr (.inr ⟨b1, by omega⟩)
    · have := W.pos; omega
    · have := W.le; omega
    · obtain ⟨q', h1, z', h2⟩ := W.end_
      exact ⟨q', by omega, z', h2⟩
    · refine ⟨fun e he => ?_, W.in_.2⟩
      rcases List.mem_append.mp he with he | he
      · exact W.in_.1 e he
      · simp at he; rw [he]; exact ⟨hr, hcc⟩
  · cases e2
/-- from a row to the column that it was reached from -/
theorem OnWay.back (T : Tree n m need c f L) {c0 p : Nat} {r : Nat} {pr : Node} {fo ba : List Node} {most : Int} (W : OnWay n m room c f L c0 p (0, r) fo ba most) (h : L[p]? = some ((0, r), some pr)) :
    ∃ cc q, pr = (1, cc) ∧ cc < m ∧ q < p ∧ r < n ∧ OnWay n m room c f L c0 q (1, cc) fo (ba ++ [(r, cc)]) (min most (f r cc)) := by
  obtain ⟨e, q, hq, z, hz⟩ := T.step p _ _ h
  have hr : r < n := by
    rcases T.val _ _ (List.mem_of_getElem? h) with v | v
    · exact v.2
    · cases v.1
  obtain ⟨pr1, cc⟩ := pr
  rcases e with ⟨_, e2, _⟩ | ⟨e1, _, e3⟩
  · cases e2
  · dsimp at e1 e3
    subst e1
    have hcc : cc < m := by
      rcases T.val _ _ (List.mem_of_getElem? hz) with v | v
      · cases v.1
      · exact v.2
    refine ⟨cc, q, rfl, hcc, hq, hr, ?_⟩
    -- column cc is untouched
    have c0' : ∀ i, i < n → delta fo ba i cc = 0 := fun i hi => by
      by_cases d : delta fo ba i cc = 0
      · exact d
      · obtain ⟨q', h1, z', h2⟩ := W.col_ i cc hi hcc d
        have := nd_at T.nd hz h2
        omega
    have ne0 : cc ≠ c0 := fun e => by
      obtain ⟨q', h1, z', h2⟩ := W.end_
      rw [← e] at h2
      have := nd_at T.nd hz h2
      omega
    refine ⟨⟨z, hz⟩, fun i j hi hj d => ?_, fun i j hi hj d => ?_, fun i hi => ?_, fun j hj => ?_, fun i j hi hj => ?_, ?_, ?_, ?_, ?_⟩
    · rw [delta_ba] at d
      by_cases e : i = r ∧ j = cc
      · rw [e.1]; exact ⟨p, Nat.le_of_lt hq, _, h⟩
      · rw [if_neg e, Int.sub_zero] at d
        obtain ⟨q', h1, z', h2⟩ := W.row_ i j hi hj d
        exact ⟨q', by omega, z', h2⟩
    · rw [delta_ba] at d
      by_cases e : i = r ∧ j = cc
      · rw [e.2]; exact ⟨q, Nat.le_refl _, _, hz⟩
      · rw [if_neg e, Int.sub_zero] at d
        obtain ⟨q', h1, z', h2⟩ := W.col_ i j hi hj d
        exact ⟨q', by omega, z', h2⟩
    · have a := W.rs i hi
      rw [if_neg (show ¬ ((1, cc) : Node) = (0, i) by intro e; cases e)]
      by_cases e : i = r
      · subst e
        rw [if_pos rfl] at a
        rw [sumN_one (g := delta fo ba i) (p := cc) hcc (fun j _ hj => by rw [delta_ba, if_neg (fun z => hj z.2)]; omega), a, delta_ba, if_pos ⟨rfl, rfl⟩]
        omega
      · rw [if_neg (show ¬ ((0, r) : Node) = (0, i) by intro z; cases z; exact e rfl)] at a
        rw [← a]
        exact sumN_congr fun j _ => by rw [delta_ba, if_neg (fun z => e z.1)]; omega
    · have a := W.cs j hj
      rw [if_neg (show ¬ ((0, r) : Node) = (1, j) by intro e; cases e)] at a
      by_cases e : j = cc
      · subst e
        rw [if_pos (rfl : ((1, j) : Node) = (1, j))]
        rw [if_neg ne0] at a
        rw [if_neg ne0]
        rw [sumN_one (g := fun i => delta fo ba i j) (p := r) hr (fun i _ hi => by rw [delta_ba, if_neg (fun z => hi z.1)]; omega), a, delta_ba, if_pos (show r = r ∧ j = j from ⟨rfl, rfl⟩)]
        omega
      · rw [if_neg (show ¬ ((1, cc) : Node) = (1, j) by intro z; cases z; exact e rfl), ← a]
        exact sumN_congr fun i _ => by rw [delta_ba, if_neg (fun z => e z.2)]; omega
    · rw [delta_ba]
      by_cases e : i = r ∧ j = cc
      · obtain ⟨rfl, rfl⟩ := e
        rw [if_pos (show i = i ∧ j = j from ⟨rfl, rfl⟩), c0' i hi]
        exact .inr (.inr ⟨rfl, by omega⟩)
      · rw [if_neg e, Int.sub_zero]
        rcases W.bd i j hi hj with b | ⟨b1, b2⟩ | ⟨b1, b2⟩
        · exact .inl b
        · exact .inr (.inl ⟨b1, by omega⟩)
        · exact .inr (.inr ⟨b1, by omega⟩)
    · have := W.pos; omega
    · have := W.le; omega
    · obtain ⟨q', h1, z', h2⟩ := W.end_
      exact ⟨q', by omega, z', h2⟩
    · refine ⟨W.in_.1, fun e he => ?_⟩
      rcases List.mem_append.mp he with he | he
      · exact W.in_.2 e he
      · simp at he; rw [he]; exact ⟨hr, hcc⟩
/-- at the way's beginning: the flow is more -/
theorem OnWay.done (F : Feas n m need room c f) (T : Tree n m need c f L) {c0 p : Nat} {x : Node} {fo ba : List Node} {most : Int} (W : OnWay n m room c f L c0 p x fo ba most) (h : L[p]? = some (x, none)) :
    ∃ r, x = (0, r) ∧ r < n ∧ 1 ≤ min most (need r - sumN (f r) m) ∧ Feas n m need room c (fun i j => f i j + min most (need r - sumN (f r) m) * delta fo ba i j) ∧
      sumN (fun i => sumN (fun j => f i j + min most (need r - sumN (f r) m) * delta fo ba i j) m) n = sumN (fun i => sumN (f i) m) n + min most (need r - sumN (f r) m) := by
  obtain ⟨x1, r⟩ := x
  obtain ⟨e1, e2⟩ := T.root _ (List.mem_of_getElem? h)
  dsimp at e1 e2
  subst e1
  have hr : r < n := by
    rcases T.val _ _ (List.mem_of_getElem? h) with v | v
    · exact v.2
    · cases v.1
  refine ⟨r, rfl, hr, ?_, ?_, ?_⟩
  · have := W.pos; omega
  · have bd : ∀ i j, i < n → j < m → 0 ≤ f i j + min most (need r - sumN (f r) m) * delta fo ba i j ∧ f i j + min most (need r - sumN (f r) m) * delta fo ba i j ≤ c i j := fun i j hi hj => by
      have a := F.lo i j hi hj
      have b := F.hi i j hi hj
      have p1 := W.pos
      rcases W.bd i j hi hj with d | ⟨d, e⟩ | ⟨d, e⟩
      · rw [d, Int.mul_zero]; omega
      · rw [d, Int.mul_one]; omega
      · rw [d, Int.mul_neg, Int.mul_one]; omega
    refine ⟨fun i j hi hj => (bd i j hi hj).1, fun i j hi hj => (bd i j hi hj).2, fun i hi => ?_, fun j hj => ?_⟩
    · have e := sumN_add (f i) (fun j => min most (need r - sumN (f r) m) * delta fo ba i j) m
      rw [e, sumN_mul, W.rs i hi]
      have a := F.row i hi
      by_cases q : i = r
      · subst q; rw [if_pos rfl, Int.mul_one]; omega
      · rw [if_neg (by intro z; cases z; exact q rfl), Int.mul_zero]; omega
    · have e := sumN_add (fun i => f i j) (fun i => min most (need r - sumN (f r) m) * delta fo ba i j) n
      rw [e, sumN_mul, W.cs j hj, if_neg (show ¬ ((0, r) : Node) = (1, j) by intro z; cases z)]
      have a := F.col j hj
      have b := W.le
      by_cases q : j = c0
      · subst q; rw [if_pos rfl, Int.sub_zero, Int.mul_one]; omega
      · rw [if_neg q, Int.sub_zero, Int.mul_zero]; omega
  · have e : ∀ i, i < n → sumN (fun j => f i j + min most (need r - sumN (f r) m) * delta fo ba i j) m = sumN (f i) m + (if i = r then min most (need r - sumN (f r) m) else 0) := fun i hi => by
      rw [sumN_add (f i) (fun j => min most (need r - sumN (f r) m) * delta fo ba i j) m, sumN_mul, W.rs i hi]
      by_cases q : i = r
      · subst q; rw [if_pos rfl, if_pos rfl, Int.mul_one]
      · rw [if_neg (by intro z; cases z; exact q rfl), if_neg q, Int.mul_zero]
    rw [sumN_congr e, sumN_add]
    have e3 : sumN (fun i => if i = r then min most (need r - sumN (f r) m) else 0) n = min most (need r - sumN (f r) m) := by
      rw [sumN_one (g := fun _ => 0) (p := r) hr (fun i _ hi => if_neg hi), sumN_zero (fun _ _ => rfl), if_pos rfl]
      omega
    rw [e3]
end
end Fl
/-! VJ -/
namespace Pr
open PySem PySem.Spec PyProof.Rows L2 Dn Rb
/-- a stream's data: rows, columns, needs, rooms, caps, flows -/
structure StA where
  n : Nat
  m : Nat
  need : Nat → Int
  room : Nat → Int
  c : Nat → Nat → Int
  f : Nat → Nat → Int
structure okSt (s : StA) : Prop where
  n : s.n ≤ 100
  m : s.m ≤ 100
  feas : Fl.Feas s.n s.m s.need s.room s.c s.f
abbrev vecD (n : Nat) (g : Nat → Int) : Den := lstD ((List.range n).map fun i => intD (g i))
abbrev matD (n m : Nat) (g : Nat → Nat → Int) : Den := lstD ((List.range n).map fun i => vecD m (g i))
abbrev strF (s : StA) (fl : Den) : List (Str × Den) := [("own_needs", vecD s.n s.need), ("own_rooms", vecD s.m s.room), ("own_caps", matD s.n s.m s.c), ("own_flows", fl)]
abbrev streamD (K : PySem.W.Frag) (s : StA) : Den := insD (C_Stream K) (strF s (matD s.n s.m s.f))
abbrev nodD (x : Fl.Node) : Den := tupD [intD (x.1 : Nat), intD (x.2 : Nat)]
abbrev nodK (x : Fl.Node) : List Key := [Sum.inl (x.1 : Nat), Sum.inl (x.2 : Nat)]
def nodO : Option Fl.Node → Den
  | none => nonD
  | some x => nodD x
abbrev cameL (L : Fl.Tr) : List (List Key × Den) := L.map fun q => (nodK q.1, nodO q.2)
abbrev cameD (L : Fl.Tr) : Den := dtD (cameL L)
theorem key_nod (x : Fl.Node) : KeyD (nodD x) (nodK x) := key_tup (nodK x)
theorem nodK_inj {x y : Fl.Node} (h : nodK x = nodK y) : x = y := by
  injection h with h1 h2
  injection h2 with h2 _
  injection h1 with h1
  injection h2 with h2
  obtain ⟨a, b⟩ := x
  obtain ⟨c, d⟩ := y
  dsimp at h1 h2
  have e1 : a = c := by omega
  have e2 : b = d := by omega
  rw [e1, e2]
theorem sum_range (g : Nat → Int) : ∀ n, ((List.range n).map g).sum = Fl.sumN g n
  | 0 => rfl
  | n + 1 => by
    rw [List.range_succ, List.map_append, List.sum_append, sum_range g n]
    show Fl.sumN g n + (g n + 0) = Fl.sumN g n + g n
    omega
theorem vec_at {n i : Nat} {g : Nat → Int} (h : i < n) : ((List.range n).map fun i => Dn.intD (g i))[i]? = some (Dn.intD (g i)) := by
  rw [List.getElem?_map, List.getElem?_range h]
  rfl
theorem mat_at {n m i : Nat} {g : Nat → Nat → Int} (h : i < n) : ((List.range n).map fun i => vecD m (g i))[i]? = some (vecD m (g i)) := by
  rw [List.getElem?_map, List.getElem?_range h]
  rfl
section
variable {P : Program} {w : World} {K : PySem.W.Frag} {mg : Str → Option Value} {base : Heap}
theorem ed_sum {te : TE} {Γ : Dn.Ctx} {Os : Own} {m : Nat} {g : Nat → Int} (h : ED Os te Γ (vecD m g)) : ED Os (tCB (rSum K) (tCons te tNil)) Γ (intD (Fl.sumN g m)) := by
  have e : (List.range m).map (fun i => Dn.intD (g i)) = ((List.range m).map g).map fun b => Dn.intD b := by rw [List.map_map]; rfl
  rw [← sum_range]
  exact ed_cb (ea_cons (h.cast (congrArg lstD e)) ea_nil) cd_sum
abbrev r_Stream_row_left (K : PySem.W.Frag) : List Den → Own → Own → Den → Prop := pu (fun a : StA × Nat => a.2 < a.1.n) (fun a => [streamD K a.1, intD (a.2 : Nat)]) (fun a => intD (a.1.need a.2 - Fl.sumN (a.1.f a.2) a.1.m))
theorem ok_Stream_row_left (T : Txt K mg) : FnOk P w K mg base CX0 1 (a_Stream_row_left K) (fdOf K (a_Stream_row_left K)) ["self", "row"] (DefSp (r_Stream_row_left K)) := by
  refine ow_ok (F_Stream_row_left T) sc_Stream_row_left (fun _ => rfl) fun cdv A outer s H E hr => ⟨_, PSs.nox (pss_one (ps_ret (pe_op op_sub (pe_ix (ix_listK (K := K)) (pe_fldK (K := K) (pv 0)) (pv 1) (fun _ _ => rfl)) (pe_callB (cr_sumK (K := K) rfl) (by rfl) (z_sum T) boot_sum (pa_cons (pe_ix (ix_listK (K := K)) (pe_fldK (K := K) (pv 0)) (pv 1) (fun _ _ => rfl)) pa_nil))))), ?_⟩
  rintro ⟨s, i⟩ h
  dsimp only at h ⊢
  exact sb_ret (ed_op (ed_op (ed_fld (ed_var rfl) (c_Stream T) (na_Stream_own_needs T) rfl) (ed_var rfl) (od_ixL (vec_at h))) (ed_sum (ed_op (ed_fld (ed_var rfl) (c_Stream T) (na_Stream_own_flows T) rfl) (ed_var rfl) (od_ixL (mat_at h)))) od_sub)
abbrev r_Stream_column_left (K : PySem.W.Frag) : List Den → Own → Own → Den → Prop := pu (fun a : StA × Nat => a.2 < a.1.m ∧ a.1.n ≤ 100) (fun a => [streamD K a.1, intD (a.2 : Nat)]) (fun a => intD (a.1.room a.2 - Fl.sumN (fun i => a.1.f i a.2) a.1.n))
theorem ok_Stream_column_left (T : Txt K mg) : FnOk P w K mg base CX0 1 (a_Stream_column_left K) (fdOf K (a_Stream_column_left K)) ["self", "column"] (DefSp (r_Stream_column_left K)) := by
  refine ow_ok (F_Stream_column_left T) sc_Stream_column_left (fun _ => rfl) fun cdv A outer s H E hr => ⟨_, PSs.nox (pss_one (ps_ret (pe_op op_sub (pe_ix (ix_listK (K := K)) (pe_fldK (K := K) (pv 0)) (pv 1) (fun _ _ => rfl)) (pe_callB (cr_sumK (K := K) rfl) (by rfl) (z_sum T) boot_sum (pa_cons (pe_lc (own := [("amounts", 2)]) (by rfl) sc_Stream_column_left.nd (pi_listK (K := K) (pe_fldK (K := K) (pv 0))) (blkOk_by (N := n_Stream_column_left) (sc := defScope s_Stream_column_left) (by decide +kernel)) (fun _ _ _ _ _ => (pg_name (i := 2) sc_Stream_column_left.nd rfl (Or.inl rfl))) (fun _ _ _ _ _ => pts_nil) (fun _ _ _ _ _ => (pe_ix (ix_listK (K := K)) (pv 2) (pv 1) (fun _ _ => rfl)))) pa_nil))))), ?_⟩
  rintro ⟨s, j⟩ ⟨h, hn⟩
  dsimp only at h hn ⊢
  exact sb_ret (ed_op (ed_op (ed_fld (ed_var rfl) (c_Stream T) (na_Stream_own_rooms T) rfl) (ed_var rfl) (od_ixL (vec_at h))) (ed_sum (ed_lc0 (xs := List.range s.n) (f := fun i => intD (s.f i j)) (ei_list (ed_fld (ed_var rfl) (c_Stream T) (na_Stream_own_flows T) rfl)) (fun i _ => gd_name) (fun i _ => ed_op (ed_var rfl) (ed_var rfl) (od_ixL (vec_at h))) (by decide) (by rw [List.length_range]; omega))) od_sub)
def nexts (s : StA) (x : Fl.Node) : List Fl.Node := if x.1 = 0 then ((List.range s.m).filter fun j => decide (s.f x.2 j < s.c x.2 j)).map fun j => (1, j) else ((List.range s.n).filter fun i => decide (0 < s.f i x.2)).map fun i => (0, i)
theorem zip_range {α : Type} {g : Nat → α} {n : Nat} : ((List.range n).map g).zipIdx = (List.range n).map fun i => (g i, i) := by
  apply List.ext_getElem?
  intro i
  rw [List.getElem?_zipIdx, List.getElem?_map, List.getElem?_map]
  by_cases h : i < n
  · rw [List.getElem?_range h]
    show some (g i, 0 + i) = some (g i, i)
    rw [Nat.zero_add]
  · rw [List.getElem?_eq_none (by rw [List.length_range]; omega)]
    rfl
theorem ei_enumR {te : TE} {Γ : Dn.Ctx} {Os : Own} {n : Nat} {g : Nat → Den} (h : ED Os te Γ (lstD ((List.range n).map g))) : EI Os (iEnum K (tCons te tNil)) Γ (· = (List.range n).map fun i => tupD [intD (i : Nat), g i]) := by
  have z := ei_enum (K := K) (ea_cons h ea_nil)
  rw [zip_range, List.map_map] at z
  exact z
abbrev r_Stream_next_nodes (K : PySem.W.Frag) : List Den → Own → Own → Den → Prop := pu (fun a : StA × Fl.Node => a.1.n ≤ 100 ∧ a.1.m ≤ 100 ∧ Fl.Valid a.1.n a.1.m a.2) (fun a => [streamD K a.1, intD (a.2.1 : Nat), intD (a.2.2 : Nat)]) (fun a => lstD ((nexts a.1 a.2).map fun x => nodD x))
theorem ok_Stream_next_nodes (T : Txt K mg) : FnOk P w K mg base CX0 1 (a_Stream_next_nodes K) (fdOf K (a_Stream_next_nodes K)) ["self", "side", "place"] (DefSp (r_Stream_next_nodes K)) := by
  refine ow_ok (F_Stream_next_nodes T) sc_Stream_next_nodes (fun _ => rfl) fun cdv A outer s H E hr => ⟨_, PSs.nox (pss_cons (ps_if (pt_cmpR op_eq (pv 1) (pe_glob rfl (gt_ROW T) (rx_ROW T)) (nomark _)) (pss_cons (ps_set (i := 3) sc_Stream_next_nodes.nd rfl (Or.inr rfl) (pe_ix (ix_listK (K := K)) (pe_fldK (K := K) (pv 0)) (pv 2) (fun _ _ => rfl)))
  (pss_one (ps_ret (pe_lc (own := [("at", 4), ("amount", 6)]) (by rfl) sc_Stream_next_nodes.nd (pi_enumK (K := K) (by rfl) (z_enumerate T) (pa_cons (pe_ix (ix_listK (K := K)) (pe_fldK (K := K) (pv 0)) (pv 2) (fun _ _ => rfl)) pa_nil)) (blkOk_by (N := n_Stream_next_nodes) (sc := defScope s_Stream_next_nodes) (by decide +kernel)) (fun _ _ _ _ _ => (pg_tupK (K := K) (n := 2) rfl (pgs_cons (pg_name (i := 4) sc_Stream_next_nodes.nd rfl (Or.inl rfl)) (pgs_cons (pg_name (i := 6) sc_Stream_next_nodes.nd rfl (Or.inl rfl)) pgs_nil)))) (fun _ _ _ _ _ => (pts_one (pt_cmpR op_lt (pv 6) (pe_ix (ix_listK (K := K)) (pv 3) (pv 4) (fun _ _ => rfl)) (nomark _)))) (fun _ _ _ _ _ => (pe_tup (pa_cons (pe_glob rfl (gt_COLUMN T) (rx_COLUMN T)) (pa_cons (pv 4) pa_nil)))))))) pss_nil)
  (pss_one (ps_ret (pe_lc (own := [("at", 4), ("amounts", 5)]) (by rfl) sc_Stream_next_nodes.nd (pi_enumK (K := K) (by rfl) (z_enumerate T) (pa_cons (pe_fldK (K := K) (pv 0)) pa_nil)) (blkOk_by (N := n_Stream_next_nodes) (sc := defScope s_Stream_next_nodes) (by decide +kernel)) (fun _ _ _ _ _ => (pg_tupK (K := K) (n := 2) rfl (pgs_cons (pg_name (i := 4) sc_Stream_next_nodes.nd rfl (Or.inl rfl)) (pgs_cons (pg_name (i := 5) sc_Stream_next_nodes.nd rfl (Or.inl rfl)) pgs_nil)))) (fun _ _ _ _ _ => (pts_one (pt_cmpR op_gt (pe_ix (ix_listK (K := K)) (pv 5) (pv 2) (fun _ _ => rfl)) pe_int (nomark _)))) (fun _ _ _ _ _ => (pe_tup (pa_cons (pe_glob rfl (gt_ROW T) (rx_ROW T)) (pa_cons (pv 4) pa_nil)))))))), ?_⟩
  rintro ⟨s, x, y⟩ ⟨hn, hm, hv⟩
  dsimp only at hn hm hv ⊢
  rcases hv with ⟨h1, h2⟩ | ⟨h1, h2⟩
  · dsimp only at h1 h2
    subst h1
    have e : (nexts s (0, y)).map (fun x => nodD x) = ((List.range s.m).filter fun j => decide (s.f y j < s.c y j)).map fun j => nodD (1, j) := by
      unfold nexts
      rw [if_pos rfl, List.map_map]
      rfl
    rw [e]
    refine sb_ifs (b := true) (et_test (ed_op (ed_var rfl) ed_c od_eqI)) (fun _ => sb_stop ?_) fun z => nomatch z
    refine sb_seq (sb_asg (ed_op (ed_fld (ed_var rfl) (c_Stream T) (na_Stream_own_caps T) rfl) (ed_var rfl) (od_ixL (mat_at h2)))) ?_
    exact sb_ret (ed_lc (xs := List.range s.m) (d := fun j => tupD [intD (j : Nat), intD (s.f y j)]) (f := fun j => nodD (1, j)) (ei_enumR (ed_op (ed_fld (ed_var rfl) (c_Stream T) (na_Stream_own_flows T) rfl) (ed_var rfl) (od_ixL (mat_at h2)))) (fun j _ => gd_tup2 gd_name gd_name) (fun j hj => et_test (ed_op (ed_var rfl) (ed_op (ed_var rfl) (ed_var rfl) (od_ixL (vec_at (List.mem_range.mp hj)))) od_lt)) (fun j _ _ => ed_tup (ea_cons ed_c (ea_cons (ed_var rfl) ea_nil))) (by decide) (by rw [List.length_range]; omega))
  · dsimp only at h1 h2
    subst h1
    have e : (nexts s (1, y)).map (fun x => nodD x) = ((List.range s.n).filter fun i => decide (0 < s.f i y)).map fun i => nodD (0, i) := by
      unfold nexts
      rw [if_neg (by intro z; cases z), List.map_map]
      rfl
    rw [e]
    refine sb_ifs (b := false) (et_test (ed_op (ed_var rfl) ed_c od_eqI)) (fun z => nomatch z) fun _ => sb_skip ?_
    exact sb_ret (ed_lc (xs := List.range s.n) (d := fun i => tupD [intD (i : Nat), vecD s.m (s.f i)]) (f := fun i => nodD (0, i)) (ei_enumR (ed_fld (ed_var rfl) (c_Stream T) (na_Stream_own_flows T) rfl)) (fun j _ => gd_tup2 gd_name gd_name) (fun j hj => et_test (ed_op (ed_op (ed_var rfl) (ed_var rfl) (od_ixL (vec_at h2))) ed_c od_gt)) (fun j _ _ => ed_tup (ea_cons ed_c (ea_cons (ed_var rfl) ea_nil))) (by decide) (by rw [List.length_range]; omega))
end
end Pr
/-! VK -/
namespace Pr
open PySem PySem.Spec PyProof.Rows L2 Dn Rb Fl
def optN : Option Nat → Den
  | none => nonD
  | some j => intD (j : Nat)
def SrchOk (s : StA) (r : Tr × Option Nat) : Prop := Tree s.n s.m s.need s.c s.f r.1 ∧ match r.2 with
  | none => Done s.n s.m s.room s.c s.f r.1 r.1.length
  | some j => j < s.m ∧ (1, j) ∈ r.1.map (·.1) ∧ 0 < s.room j - sumN (fun i => s.f i j) s.n
def startL (s : StA) : Tr := ((List.range s.n).filter fun i => decide (0 < s.need i - sumN (s.f i) s.m)).map fun i => ((0, i), none)
theorem start_mem {s : StA} {x : Node} {p : Option Node} (h : (x, p) ∈ startL s) : p = none ∧ x.1 = 0 ∧ x.2 < s.n ∧ sumN (s.f x.2) s.m < s.need x.2 := by
  obtain ⟨i, hi, e⟩ := List.mem_map.mp h
  obtain ⟨h1, h2⟩ := List.mem_filter.mp hi
  have h3 := List.mem_range.mp h1
  have h4 := of_decide_eq_true h2
  injection e with e1 e2
  subst e1 e2
  exact ⟨rfl, rfl, h3, by dsimp only; omega⟩
theorem start_tree (s : StA) : Tree s.n s.m s.need s.c s.f (startL s) where
  nd := by
    unfold startL
    rw [List.map_map]
    exact List.Pairwise.map _ (fun a b n e => n (by injection e)) (List.nodup_range.filter _)
  val := fun x p h => by
    obtain ⟨_, h1, h2, _⟩ := start_mem h
    exact .inl ⟨h1, h2⟩
  root := fun x h => by
    obtain ⟨_, h1, _, h3⟩ := start_mem h
    exact ⟨h1, h3⟩
  step := fun q x p h => by
    obtain ⟨h1, _⟩ := start_mem (List.mem_of_getElem? h)
    cases h1
  src := fun i hi h => List.mem_map.mpr ⟨((0, i), none), List.mem_map.mpr ⟨i, List.mem_filter.mpr ⟨List.mem_range.mpr hi, decide_eq_true (by omega)⟩, rfl⟩, rfl⟩
theorem tree_len {n m : Nat} {need : Nat → Int} {c f : Nat → Nat → Int} {L : Tr} (T : Tree n m need c f L) : L.length ≤ n + m := by
  have h := len_le (l := L.map (·.1)) (xs := (List.range n).map (fun i => ((0, i) : Node)) ++ (List.range m).map fun j => ((1, j) : Node)) T.nd fun x hx => by
    obtain ⟨⟨y, p⟩, hq, e⟩ := List.mem_map.mp hx
    dsimp at e
    subst e
    obtain ⟨a, b⟩ := y
    rcases T.val _ _ hq with ⟨h1, h2⟩ | ⟨h1, h2⟩
    · dsimp at h1 h2; subst h1
      exact List.mem_append_left _ (List.mem_map.mpr ⟨b, List.mem_range.mpr h2, rfl⟩)
    · dsimp at h1 h2; subst h1
      exact List.mem_append_right _ (List.mem_map.mpr ⟨b, List.mem_range.mpr h2, rfl⟩)
  rw [List.length_map, List.length_append, List.length_map, List.length_map, List.length_range, List.length_range] at h
  exact h
theorem mem_nexts {s : StA} {x y : Node} (hv : Valid s.n s.m x) : y ∈ nexts s x ↔ Valid s.n s.m y ∧ Edge s.c s.f x y := by
  obtain ⟨a, b⟩ := x
  obtain ⟨c, d⟩ := y
  unfold nexts Valid Edge
  dsimp only
  rcases hv with ⟨h1, h2⟩ | ⟨h1, h2⟩
  · dsimp at h1 h2
    subst h1
    rw [if_pos rfl, List.mem_map]
    constructor
    · rintro ⟨j, hj, e⟩
      obtain ⟨j1, j2⟩ := List.mem_filter.mp hj
      injection e with e1 e2
      subst e1 e2
      exact ⟨.inr ⟨rfl, List.mem_range.mp j1⟩, .inl ⟨rfl, rfl, of_decide_eq_true j2⟩⟩
    · rintro ⟨hv, he⟩
      rcases he with ⟨_, e1, e2⟩ | ⟨e0, _⟩
      · subst e1
        rcases hv with ⟨z, _⟩ | ⟨_, z⟩
        · cases z
        · exact ⟨d, List.mem_filter.mpr ⟨List.mem_range.mpr z, decide_eq_true e2⟩, rfl⟩
      · cases e0
  · dsimp at h1 h2
    subst h1
    rw [if_neg (by intro z; cases z), List.mem_map]
    constructor
    · rintro ⟨j, hj, e⟩
      obtain ⟨j1, j2⟩ := List.mem_filter.mp hj
      injection e with e1 e2
      subst e1 e2
      exact ⟨.inl ⟨rfl, List.mem_range.mp j1⟩, .inr ⟨rfl, rfl, of_decide_eq_true j2⟩⟩
    · rintro ⟨hv, he⟩
      rcases he with ⟨e0, _⟩ | ⟨_, e1, e2⟩
      · cases e0
      · subst e1
        rcases hv with ⟨_, z⟩ | ⟨z, _⟩
        · exact ⟨d, List.mem_filter.mpr ⟨List.mem_range.mpr z, decide_eq_true e2⟩, rfl⟩
        · cases z
def addN (x : Node) (L : Tr) (ys : List Node) : Tr := ys.foldl (fun L y => if y ∈ L.map (·.1) then L else L ++ [(y, some x)]) L
theorem addN_snoc (x : Node) (L : Tr) (ys : List Node) (y : Node) : addN x L (ys ++ [y]) = if y ∈ (addN x L ys).map (·.1) then addN x L ys else addN x L ys ++ [(y, some x)] := by
  unfold addN
  rw [List.foldl_append]
  rfl
structure AddOk (s : StA) (x : Node) (L : Tr) (ys : List Node) : Prop where
  tree : Tree s.n s.m s.need s.c s.f (addN x L ys)
  pre : ∃ t, addN x L ys = L ++ t
  all : ∀ y, y ∈ ys → y ∈ (addN x L ys).map (·.1)
theorem AddOk.more {s : StA} {x : Node} {L : Tr} {ys : List Node} {y : Node} (h : AddOk s x L ys) (hx : x ∈ L.map (·.1)) (hy : Valid s.n s.m y ∧ Edge s.c s.f x y) : AddOk s x L (ys ++ [y]) := by
  obtain ⟨t, ht⟩ := h.pre
  by_cases m : y ∈ (addN x L ys).map (·.1)
  · have e : addN x L (ys ++ [y]) = addN x L ys := by rw [addN_snoc, if_pos m]
    refine ⟨by rw [e]; exact h.tree, by rw [e]; exact h.pre, fun z hz => ?_⟩
    rw [e]
    rcases List.mem_append.mp hz with q | q
    · exact h.all z q
    · rw [List.mem_singleton.mp q]; exact m
  · have e : addN x L (ys ++ [y]) = addN x L ys ++ [(y, some x)] := by rw [addN_snoc, if_neg m]
    refine ⟨by rw [e]; exact h.tree.add m hy.1 hy.2 (by rw [ht, List.map_append]; exact List.mem_append_left _ hx), ⟨t ++ [(y, some x)], by rw [e, ht, List.append_assoc]⟩, fun z hz => ?_⟩
    rw [e, List.map_append]
    rcases List.mem_append.mp hz with q | q
    · exact List.mem_append_left _ (h.all z q)
    · rw [List.mem_singleton.mp q]; exact List.mem_append_right _ List.mem_cons_self
theorem came_keys (L : Tr) : (cameL L).map (·.1) = (L.map (·.1)).map nodK := by rw [List.map_map, List.map_map]; rfl
theorem came_in {L : Tr} {y : Node} : nodK y ∈ (cameL L).map (·.1) ↔ y ∈ L.map (·.1) := by
  rw [came_keys]
  constructor
  · intro h
    obtain ⟨z, hz, e⟩ := List.mem_map.mp h
    rw [← nodK_inj e]
    exact hz
  · intro h
    exact List.mem_map.mpr ⟨y, h, rfl⟩
theorem look_came {L : Tr} {y : Node} : (look (cameL L) (nodK y)).isSome = decide (y ∈ L.map (·.1)) := by
  unfold look
  rw [Option.isSome_map]
  by_cases h : y ∈ L.map (·.1)
  · rw [decide_eq_true h, List.find?_isSome]
    obtain ⟨q, hq, e⟩ := List.mem_map.mp (came_in.mpr h)
    exact ⟨q, hq, decide_eq_true e⟩
  · rw [decide_eq_false h]
    cases z : (cameL L).find? (fun p => decide (p.1 = nodK y)) with
    | none => rfl
    | some q => exact absurd (came_in.mp (List.mem_map.mpr ⟨q, List.mem_of_find?_eq_some z, of_decide_eq_true (List.find?_some (p := fun p : List Key × Den => decide (p.1 = nodK y)) z)⟩)) h
section
variable {P : Program} {w : World} {K : PySem.W.Frag} {mg : Str → Option Value} {base : Heap}
def srchO (wa ca : Addr) (L : Tr) : Own := [(ca, dctO .dT (cameL L)), (wa, lstO (L.map fun q => nodD q.1))]
abbrev r_Stream_searched (K : PySem.W.Frag) : List Den → Own → Own → Den → Prop := pu (fun s : StA => okSt s) (fun s => [streamD K s]) (fun s => exD (SrchOk s) fun r => tupD [cameD r.1, optN r.2])
theorem ok_Stream_searched (T : Txt K mg) : FnOk P w K mg base CX0 2 (a_Stream_searched K) (fdOf K (a_Stream_searched K)) ["self"] (DefSp (r_Stream_searched K)) := by
  refine ow_ok (F_Stream_searched T) sc_Stream_searched (fun _ => rfl) fun cdv A outer s H E hr => ⟨_, PSs.nox (pss_cons (ps_setLc (i := 1) (own := [("row", 7)]) (by rfl) sc_Stream_searched.nd rfl rfl (sw_true rfl rfl rfl (by decide +kernel)) (pi_range1 rfl (z_range T) (pa_cons (pe_callB (call_lenK (K := K)) (by rfl) (z_len T) boot_len (pa_cons (pe_fldK (K := K) (pv 0)) pa_nil)) pa_nil)) (blkOk_by (N := n_Stream_searched) (sc := defScope s_Stream_searched) (by decide +kernel)) (fun _ _ _ _ _ => (pg_name (i := 7) sc_Stream_searched.nd rfl (Or.inl rfl))) (fun _ _ _ _ _ => (pts_one (pt_cmpR op_gt (pe_meth (pv 0) (c_Stream T) (m_Stream_row_left T) (ok_Stream_row_left T) (hr.mono (by decide)) (b_Stream_row_left T) .nil pass0 (pa_cons (pv 7) pa_nil)) pe_int (nomark _)))) (fun _ _ _ _ _ => (pe_tup (pa_cons (pe_glob rfl (gt_ROW T) (rx_ROW T)) (pa_cons (pv 7) pa_nil)))))
  (pss_cons (Rb.ps_setDcT (rm1 hr) (i := 2) (own := [("node", 4)]) (by rfl) sc_Stream_searched.nd rfl rfl (Rb.sw_trueD rfl rfl rfl (by decide +kernel)) (pi_listK (K := K) (pv 1)) (blkOk_by (N := n_Stream_searched) (sc := defScope s_Stream_searched) (by decide +kernel)) (fun _ _ _ _ _ => (pg_name (i := 4) sc_Stream_searched.nd rfl (Or.inl rfl))) (fun _ _ _ _ _ => pts_nil) (fun _ _ _ _ _ => (pv 4)) (fun _ _ _ _ _ => pe_non))
  (pss_cons (ps_set (i := 3) sc_Stream_searched.nd rfl (Or.inl rfl) pe_int)
  (pss_cons (ps_while PassesOwn.never (pt_cmpR op_lt (pv 3) (pe_callB (call_lenK (K := K)) (by rfl) (z_len T) boot_len (pa_cons (pv 1) pa_nil)) (nomark _))
  (pss_cons (ps_asg (pe_ix (ix_listK (K := K)) (pv 1) (pv 3) (fun _ _ => rfl)) (pg_tupK (K := K) (n := 2) rfl (pgs_cons (pg_name (i := 5) sc_Stream_searched.nd rfl (Or.inl rfl)) (pgs_cons (pg_name (i := 6) sc_Stream_searched.nd rfl (Or.inl rfl)) pgs_nil))))
  (pss_cons (ps_if (PW.pt (pw_and (pt_cmpR op_eq (pv 5) (pe_glob rfl (gt_COLUMN T) (rx_COLUMN T)) (nomark _)) (pw_and1 (pt_cmpR op_gt (pe_meth (pv 0) (c_Stream T) (m_Stream_column_left T) (ok_Stream_column_left T) (hr.mono (by decide)) (b_Stream_column_left T) .nil pass0 (pa_cons (pv 6) pa_nil)) pe_int (nomark _))))) (pss_one (ps_frzB 2 (ps_ret (pe_tup (pa_cons (pv 2) (pa_cons (pv 6) pa_nil)))))) pss_nil)
  (pss_cons (ps_for PassesOwn.never rfl (pi_listK (K := K) (pe_meth (pv 0) (c_Stream T) (m_Stream_next_nodes T) (ok_Stream_next_nodes T) (hr.mono (by decide)) (b_Stream_next_nodes T) .nil pass0 (pa_cons (pv 5) (pa_cons (pv 6) pa_nil)))) (pg_name (i := 4) sc_Stream_searched.nd rfl (Or.inl rfl))
  (pss_one (ps_if (pt_cmp (pc_dnotin (rm1 hr) (pv 4) (pv 2))) (pss_cons (ps_dput (rm1 hr) (pv 2) (pv 4) (pe_tup (pa_cons (pv 5) (pa_cons (pv 6) pa_nil))) rfl)
  (pss_one (ps_expr (pe_bm PySem.F.plainAttrs_list PySem.F.slot_list_append PySem.F.type_list_append mt_append (pv 1) (pa_cons (pv 4) pa_nil))))) pss_nil)))
  (pss_one (ps_aug (i := 3) sc_Stream_searched.nd rfl (Or.inl rfl) pe_int ip_add))))))
  (pss_one (ps_frzB 2 (ps_ret (pe_tup (pa_cons (pv 2) (pa_cons pe_non pa_nil)))))))))), ?_⟩
  intro s h
  have hn := h.n
  have hm := h.m
  have e0 : (startL s).map (fun q => nodD q.1) = ((List.range s.n).filter fun i => decide (0 < s.need i - sumN (s.f i) s.m)).map fun i => nodD (0, i) := by unfold startL; rw [List.map_map]; rfl
  have elen : (((List.range s.n).map fun i => Dn.intD (s.need i)).length : Int) = ((s.n : Nat) : Int) := by rw [List.length_map, List.length_range]
  refine sb_seqG (M := fun o g => ∃ wa, o = [(wa, lstO ((startL s).map fun q => nodD q.1))] ∧ g = [some (streamD K s), some (valD (.ref wa)), none, none, none, none, none, none]) (sb_newLc (xs := List.range s.n) (d := fun i => intD (i : Nat)) (p := fun i => decide (0 < s.need i - sumN (s.f i) s.m)) (f := fun i => nodD (0, i)) (EI.o (by
    have z := ei_range (Os := []) (Γ := ctx n_Stream_searched.length [streamD K s]) (tA := tCons (tCB (rLen K) (tCons (tFld K (tVar 0) "own_needs") tNil)) tNil) (n := ((s.n : Nat) : Int)) (ea_cons ((ed_cb (ea_cons (ed_fld (ed_var rfl) (c_Stream T) (na_Stream_own_needs T) rfl) ea_nil) (cd_len (by rw [List.length_map, List.length_range]; omega))).cast (by rw [elen])) ea_nil) (by omega) (by omega)
    rw [Int.toNat_natCast] at z
    exact z)) (fun i _ => gd_name) (fun i hi => et_test (ed_op (ed_methP (α := StA × Nat) (s, i) (ed_var rfl) (ea_cons (ed_var rfl) ea_nil) (List.mem_range.mp hi)) ed_c od_gt)) (fun i _ _ => ed_tup (ea_cons ed_c (ea_cons (ed_var rfl) ea_nil))) (by decide) (by rw [List.length_range]; omega) fun wa => ⟨wa, by rw [e0], rfl⟩) fun o g m => ?_
  obtain ⟨wa, rfl, rfl⟩ := m
  have T0 := start_tree s
  have e1 : cameL (startL s) = (startL s).map fun q => (nodK q.1, nonD) := List.map_congr_left fun q hq => by
    obtain ⟨x, p⟩ := q
    have := (start_mem hq).1
    subst this
    rfl
  refine sb_seqG (M := fun o g => ∃ ca, o = srchO wa ca (startL s) ∧ g = [some (streamD K s), some (valD (.ref wa)), some (valD (.ref ca)), none, none, none, none, none]) (sb_newDcT (xs := startL s) (d := fun q => nodD q.1) (e' := fun q => nodD q.1) (f := fun _ => nonD) (key := fun q => nodK q.1) (eio_list (ed_var rfl) List.mem_cons_self) (fun q _ => gd_name) (fun q _ => ed_var rfl) (fun q => key_nod q.1) (fun q _ => ed_c) ?_ (by decide) (by have := tree_len T0; omega) fun ca => ⟨ca, by unfold srchO; rw [e1], rfl⟩) fun o g m => ?_
  · have e2 : (startL s).map (fun q => nodK q.1) = ((startL s).map (·.1)).map nodK := by rw [List.map_map]; rfl
    rw [e2]
    exact List.Pairwise.map _ (fun a b n e => n (nodK_inj e)) T0.nd
  obtain ⟨ca, rfl, rfl⟩ := m
  refine sb_seq (sb_asg ed_c) ?_
  refine sb_seqG (M := fun o g => ∃ L, Tree s.n s.m s.need s.c s.f L ∧ Done s.n s.m s.room s.c s.f L L.length ∧ o = srchO wa ca L ∧ g = [some (streamD K s), some (valD (.ref wa)), some (valD (.ref ca)), some (intD (L.length : Nat)), none, none, none, none]) (sb_while (ι := Tr × Nat) (Oz := fun i => srchO wa ca i.1) (Γs := fun i => [some (streamD K s), some (valD (.ref wa)), some (valD (.ref ca)), some (intD (i.2 : Nat)), none, none, none, none]) (μ := fun i => s.n + s.m + 1 - i.2) (I := fun i => Tree s.n s.m s.need s.c s.f i.1 ∧ Done s.n s.m s.room s.c s.f i.1 i.2 ∧ i.2 ≤ i.1.length) (startL s, 0) ⟨T0, fun q x p hq => absurd hq (Nat.not_lt_zero _), Nat.zero_le _⟩ rfl .refl (fun i => rfl) ?_) fun o g m => ?_
  · rintro ⟨L, k⟩ ⟨hT, hD, hk⟩
    dsimp only at hT hD hk ⊢
    have hL := tree_len hT
    have elL : ((L.map fun q => nodD q.1).length : Int) = ((L.length : Nat) : Int) := by rw [List.length_map]
    refine ⟨decide (k < L.length), ?_, fun hb => ?_, fun hb => ?_⟩
    · refine et_test (ED.cast (ed_op (ed_var rfl) (ed_lenO (ed_var rfl) (List.mem_cons_of_mem _ List.mem_cons_self)) od_lt) ?_)
      rw [elL]
      exact congrArg _ (decide_eq_decide.mpr (by omega))
    · have := of_decide_eq_false hb
      have e : k = L.length := by omega
      subst e
      exact ⟨L, hT, hD, rfl, rfl⟩
    have hlt := of_decide_eq_true hb
    obtain ⟨⟨x, p⟩, hx⟩ : ∃ q, L[k]? = some q := ⟨L[k], List.getElem?_eq_getElem hlt⟩
    have hxm := List.mem_of_getElem? hx
    have hxL : x ∈ L.map (·.1) := List.mem_map.mpr ⟨_, hxm, rfl⟩
    have hv := hT.val _ _ hxm
    refine sb_seq (sb_asgG (A := nodD x) (ed_ixO (ed_var rfl) (ed_var rfl) (List.mem_cons_of_mem _ List.mem_cons_self) (by rw [List.getElem?_map, hx]; rfl)) (gd_tup2 gd_name gd_name)) ?_
    refine sb_ifs (b := decide (((x.1 : Nat) : Int) = 1) && decide (0 < s.room x.2 - sumN (fun i => s.f i x.2) s.n)) (et_and (et_test (ed_op (ed_var rfl) ed_c od_eqI)) fun h1 => et_test (ed_op (ed_methP (α := StA × Nat) (s, x.2) (ed_var rfl) (ea_cons (ed_var rfl) ea_nil) ⟨?_, hn⟩) ed_c od_gt)) (fun hr => ?_) fun hr => ?_
    · have := of_decide_eq_true h1
      rcases hv with ⟨z, _⟩ | ⟨_, z⟩
      · omega
      · exact z
    · rw [Bool.and_eq_true] at hr
      have r1 := of_decide_eq_true hr.1
      have r2 := of_decide_eq_true hr.2
      have x1 : x.1 = 1 := by omega
      have x2 : x.2 < s.m := by
        rcases hv with ⟨z, _⟩ | ⟨_, z⟩
        · omega
        · exact z
      refine sb_stop (sb_frz (fun _ => trivial) rfl (sb_forget (sb_ret (ed_tup (ea_cons (ed_var rfl) (ea_cons (ed_var rfl) ea_nil))) ⟨rfl, fun H v hv => ⟨(L, some x.2), ⟨hT, x2, ?_, r2⟩, hv⟩⟩)))
      rw [← x1]
      exact hxL
    · refine sb_skip ?_
      have hfull : x.1 = 1 → s.room x.2 ≤ sumN (fun i => s.f i x.2) s.n := fun x1 => by
        rw [decide_eq_true (by omega), Bool.true_and] at hr
        have := of_decide_eq_false hr
        omega
      refine sb_seqG (M := fun o g => (AddOk s x L (nexts s x)) ∧ o = srchO wa ca (addN x L (nexts s x)) ∧ Less [some (streamD K s), some (valD (.ref wa)), some (valD (.ref ca)), some (intD (k : Nat)), none, some (intD (x.1 : Nat)), some (intD (x.2 : Nat)), none] g) (sb_forI (xs := nexts s x) (d := fun y => nodD y) (Oz := fun pre => srchO wa ca (addN x L pre)) (Γs := fun _ => [some (streamD K s), some (valD (.ref wa)), some (valD (.ref ca)), some (intD (k : Nat)), none, some (intD (x.1 : Nat)), some (intD (x.2 : Nat)), none]) (AddOk s x L) (ei_list (ed_methP (α := StA × Node) (s, x) (ed_var rfl) (ea_cons (ed_var rfl) (ea_cons (ed_var rfl) ea_nil)) ⟨hn, hm, hv⟩)) ⟨hT, ⟨[], (List.append_nil _).symm⟩, fun y z => nomatch z⟩ rfl (fun _ => rfl) .refl (fun pre y post sp hA => ⟨_, _, gd_name, ?_⟩) fun hA => ⟨hA, rfl, .refl⟩) fun o g m => ?_
      · have hy := (mem_nexts hv).mp (show y ∈ nexts s x by rw [sp]; exact List.mem_append_right _ List.mem_cons_self)
        have hA' := hA.more hxL hy
        have hl := tree_len hA.tree
        have hless : Less [some (streamD K s), some (valD (.ref wa)), some (valD (.ref ca)), some (intD (k : Nat)), none, some (intD (x.1 : Nat)), some (intD (x.2 : Nat)), none] [some (streamD K s), some (valD (.ref wa)), some (valD (.ref ca)), some (intD (k : Nat)), some (nodD y), some (intD (x.1 : Nat)), some (intD (x.2 : Nat)), none] := .keep (.keep (.keep (.keep (.drop (.keep (.keep (.drop .nil)))))))
        by_cases hm' : y ∈ (addN x L pre).map (·.1)
        · have e : addN x L (pre ++ [y]) = addN x L pre := by rw [addN_snoc, if_pos hm']
          refine sb_if (b := false) (et_B (ed_ff (ed_dninO (k := nodK y) (key_nod y) (ed_var rfl) (ed_var rfl) List.mem_cons_self) (by rw [look_came, decide_eq_true hm']; rfl))) (fun z => nomatch z) fun _ => sb_next ⟨hA', by rw [e], hless⟩
        · have e : addN x L (pre ++ [y]) = addN x L pre ++ [(y, some x)] := by rw [addN_snoc, if_neg hm']
          refine sb_if (b := true) (et_B (ed_tt (ed_dninO (k := nodK y) (key_nod y) (ed_var rfl) (ed_var rfl) List.mem_cons_self) (by rw [look_came, decide_eq_false hm']; rfl))) (fun _ => ?_) fun z => nomatch z
          have e3 : cameL (addN x L pre ++ [(y, some x)]) = cameL (addN x L pre) ++ [(nodK y, nodD x)] := by unfold cameL; rw [List.map_append]; rfl
          have e4 : (addN x L pre ++ [(y, some x)]).map (fun q => nodD q.1) = (addN x L pre).map (fun q => nodD q.1) ++ [nodD y] := by rw [List.map_append]; rfl
          refine sb_seq (sb_dputT (B := nodD x) (ed_tup (ea_cons (ed_var rfl) (ea_cons (ed_var rfl) ea_nil))) (ed_var rfl) (key_nod y) (ed_var rfl) (fun z => hm' (came_in.mp z)) (by rw [List.length_map]; omega) ⟨rfl, rfl⟩) ?_
          refine sb_swap ?_
          refine SB.impG (SB.swap (Os := []) (sb_app (A := nodD y) (ed_var rfl) (ea_cons (ed_var rfl) ea_nil) (by rw [List.length_map]; omega) ⟨rfl, rfl⟩)) (fun o g m => ?_) fun _ _ z => z
          obtain ⟨rfl, rfl⟩ := m
          exact ⟨_, ⟨hA', by unfold srchO; rw [e, e3, e4], hless⟩, .refl⟩
      · obtain ⟨hA, rfl, hl⟩ := m
        refine SB.pre ?_ hl
        refine SB.impG (sb_aug (a := (k : Int)) (b := 1) rfl ed_c (N := to _ _) ⟨rfl, rfl⟩) (fun o g m => ?_) fun _ _ z => z
        obtain ⟨rfl, rfl⟩ := m
        obtain ⟨t, ht⟩ := hA.pre
        refine ⟨_, ⟨(addN x L (nexts s x), k + 1), ⟨hA.tree, ?_, ?_⟩, ?_, rfl, ?_⟩, .refl⟩
        · have hD' : Done s.n s.m s.room s.c s.f (addN x L (nexts s x)) k := by rw [ht]; exact hD.grow hk
          refine hD'.next (x := x) (p := p) (by rw [ht, List.getElem?_append_left hlt]; exact hx) hfull fun y hy1 hy2 => hA.all y ((mem_nexts hv).mpr ⟨hy1, hy2⟩)
        · show k + 1 ≤ (addN x L (nexts s x)).length
          rw [ht, List.length_append]
          omega
        · show s.n + s.m + 1 - (k + 1) < s.n + s.m + 1 - k
          omega
        · exact .keep (.keep (.keep (.keep (.drop (.drop (.drop (.drop .nil)))))))
  · obtain ⟨L, hT, hD, rfl, rfl⟩ := m
    exact sb_frz (fun _ => trivial) rfl (sb_forget (sb_ret (ed_tup (ea_cons (ed_var rfl) (ea_cons ed_c ea_nil))) ⟨rfl, fun H v hv => ⟨(L, none), ⟨hT, hD⟩, hv⟩⟩))
end
end Pr
/-! DK -/
/-! Promises that leave open what they leave behind; lists of one's own lent to a reading. -/
namespace Dn
open PySem PySem.Spec PyProof.Rows L2
/-- a def's promise that leaves open which of some states it leaves -/
def DefN (rel : List Den → Own → (Own → Den → Prop) → Prop) : Sp := fun vs H Q _ => ∃ (H0 : Hp) (Os : Own) (Rs : List Den) (N : Own → Den → Prop), Same H0 H ∧ Hold Os H0 H ∧ Fits H0 Rs vs ∧ rel Rs Os N ∧ ∀ Os' R v H0' H', N Os' R → Grow Os H0 H Os' H0' H' → R.p H0' v → Q v H'
def owN {α : Type} (Pr : α → Prop) (args : α → List Den) (os : α → Own) (N : α → Own → Den → Prop) : List Den → Own → (Own → Den → Prop) → Prop := fun Rs Os M => ∃ a, Pr a ∧ Rs = args a ∧ Os = os a ∧ M = N a
section
variable {P : Program} {w : World} {K : PySem.W.Frag} {mg : Str → Option Value} {base : Heap} {x qual : Str} {params : Arguments} {body : List Stmt} {scope : Scope} {dvs : List V} {kws : List (Str × V)} {f : Addr} {fd : FuncData}
theorem owN_ok {N ps : List Str} {k : Nat} {α : Type} {Pr : α → Prop} {args : α → List Den} {os : α → Own} {M : α → Own → Den → Prop} (F : FunD K x qual params body scope dvs kws f fd) (S : FnScope N ps scope) (hl : ∀ a, (args a).length = ps.length)
    (hb : ∀ (cdv : Value) (A : Around) (outer : List PySem.Env) (s : Shared) (H : Hp) (E : XK), Room k (A.deeper (envOfC qual scope s.heap.objs.size f cdv)) →
      ∃ t, PSs (cxOf CX0 P w K mg base N qual scope f cdv A outer s H E) body t ∧ ∀ a, Pr a → SB (os a) t (ctx N.length (args a)) (fun o _ => ∃ R, M a o R ∧ Sub nonD R) (fun o d => ∃ R, M a o R ∧ Sub d R)) : FnOk P w K mg base CX0 (k + 1) f fd ps (DefN (owN Pr args os M)) := by
  refine F.ok S (fun vs H Q E h => ?_) fun cdv A outer s H vs Q E hr h => ?_
  · obtain ⟨H0, Os, Rs, N, _, _, hf, ⟨a, _, e, _⟩, _⟩ := h
    rw [← Paired.length hf, e]
    exact hl a
  · obtain ⟨t, ht, hb⟩ := hb cdv A outer s H E hr
    refine ⟨t, ht, ?_⟩
    obtain ⟨H0, Os, Rs, M', sm, hw, hf, ⟨a, ha, e1, e2, e3⟩, q⟩ := h
    subst e1 e2 e3
    exact hb a ha (L2.start N vs) H0 H _ (Env.start hf) sm hw (fun o g ⟨R, m, su⟩ σ' H0' H' gr _ => q o R _ H0' H' m gr (su _ _ rfl)) fun o d ⟨R, m, su⟩ v H0' H' gr hv => q o R v H0' H' m gr (su _ _ hv)
end
/-- a reading that changes one's own -/
def EX (Os : Own) (te : TE) (Γ : Ctx) (N : Own → Den → Prop) : Prop := ∀ (σ : L2.St) (H0 H : Hp), Env H0 Γ σ → Same H0 H → Hold Os H0 H → ∀ Q : VK, (∀ Os' R v H0' H', N Os' R → Grow Os H0 H Os' H0' H' → R.p H0' v → Q v H') → te σ H Q
section
variable {K : PySem.W.Frag} {Os Os1 : Own} {Γ Γ' : Ctx} {te : TE} {A B C R : Den} {g : TG} {sa : TS} {M : Own → Den → Prop} {N : Own → Ctx → Prop} {O : Own → Den → Prop}
theorem ED.x (h : ED Os te Γ R) (m : M Os R) : EX Os te Γ M := fun σ H0 H e s w Q q => h σ H0 H e s w Q fun v H0' H' gr hv => q Os R v H0' H' m gr hv
theorem sb_dropX (h : EX Os te Γ M) (hn : ∀ o r, M o r → N o Γ) : SB Os (tDrop te) Γ N O := fun σ H0 H D e s w q _ => h σ H0 H e s w _ fun o r v H0' H' m gr _ => q _ _ (hn o r m) σ H0' H' gr (e.mono gr.s0)
theorem sb_asgM (h : EX Os te Γ M) (hg : ∀ o r, M o r → ∃ Γ1 is, GD g Γ r Γ1 is ∧ N o Γ1) : SB Os (tAsg te g) Γ N O := fun σ H0 H D e s w q _ => h σ H0 H e s w _ fun o r v H1 H1' m gr hv => by
  obtain ⟨Γ1, is, h1, h2⟩ := hg o r m
  exact h1 σ H1 H1' v (e.mono gr.s0) gr.sub hv _ fun σ' H2 H2' g2 e2 _ => q _ _ h2 _ H2 H2' (gr.trans (g2.up gr.ow)) e2
theorem sb_retX (h : EX Os te Γ M) (hr : ∀ o r, M o r → O o r) : SB Os (tRet te) Γ N O := fun σ H0 H D e s w _ q => h σ H0 H e s w _ fun o r v H0' H' m gr hv => q _ _ (hr o r m) v H0' H' gr hv
theorem ex_methN {C : Addr} {fs : List (Str × Den)} {m : Str} {rel : List Den → Own → (Own → Den → Prop) → Prop} {tA : TA} {Rs : List Den} (h : ED Os te Γ (insD C fs)) (l : fs.lookup m = none) (ha : EA Os tA Γ Rs) (hr : rel (insD C fs :: Rs) Os M) : EX Os (tMeth C m (DefN rel) [] E0 te tA) Γ M := fun σ H0 H e s w Q q =>
  h σ H0 H e s w _ fun x H1 H1' g1 hx => by
    obtain ⟨a, dx, us, ex, ea, p⟩ := id hx
    refine ⟨a, dx, us, ex, g1.sub _ _ ea, (lookup_paired p).2 l, ha σ H1 H1' (e.mono g1.s0) g1.sub g1.ow _ fun vs H2 H2' g2 h2 => ?_⟩
    rw [List.append_nil]
    exact ⟨H2, Os, _, M, g2.sub, g2.ow, .cons ((insD C fs).mono g2.s0 hx) h2, hr, fun Os' R v H3 H3' m g3 hv => q Os' R v H3 H3' m ((g1.trans g2).trans g3) hv⟩
end
/-! ### lending -/
def allL (Os : Own) : Prop := ∀ q, q ∈ Os → ∀ H o, q.2.p H o → ∃ xs, o = .lst xs
/-- told without lists -/
def Stays (R : Den) : Prop := ∀ (H H' : Hp) (v : V), (∀ a o, H a = some o → (∀ xs, o ≠ .lst xs) → H' a = some o) → R.p H v → R.p H' v
theorem stays_val {v : V} : Stays (valD v) := fun _ _ _ _ h => h
theorem stays_ex {α : Type} {P : α → Prop} {R : α → Den} (h : ∀ x, Stays (R x)) : Stays (exD P R) := fun H H' v e ⟨x, h1, h2⟩ => ⟨x, h1, h x H H' v e h2⟩
theorem stays_fits {H H' : Hp} (e : ∀ a o, H a = some o → (∀ xs, o ≠ .lst xs) → H' a = some o) : ∀ {Rs : List Den} {vs : List V}, (∀ R, R ∈ Rs → Stays R) → Fits H Rs vs → Fits H' Rs vs
  | _, _, _, .nil => .nil
  | _, _, h, .cons r t => .cons (h _ List.mem_cons_self H H' _ e r) (stays_fits e (fun R hR => h R (List.mem_cons_of_mem _ hR)) t)
theorem stays_kvs {κ : Type} {H H' : Hp} (e : ∀ a o, H a = some o → (∀ xs, o ≠ .lst xs) → H' a = some o) : ∀ {kvs : List (κ × Den)} {us : List (κ × V)}, (∀ p, p ∈ kvs → Stays p.2) → Paired (fun (p : κ × Den) (q : κ × V) => p.1 = q.1 ∧ p.2.p H q.2) kvs us → Paired (fun (p : κ × Den) (q : κ × V) => p.1 = q.1 ∧ p.2.p H' q.2) kvs us
  | _, _, _, .nil => .nil
  | _, _, h, .cons r t => .cons ⟨r.1, h _ List.mem_cons_self H H' _ e r.2⟩ (stays_kvs e (fun p hp => h p (List.mem_cons_of_mem _ hp)) t)
theorem stays_tup {Rs : List Den} (h : ∀ R, R ∈ Rs → Stays R) : Stays (tupD Rs) := fun H H' v e ⟨a, vs, h1, h2, h3⟩ => ⟨a, vs, h1, e _ _ h2 (fun xs z => nomatch z), stays_fits e h h3⟩
theorem stays_dct {κ : Type} {mk : List (κ × V) → HO} {kvs : List (κ × Den)} (h : ∀ p, p ∈ kvs → Stays p.2) : Stays (dctD mk kvs) := fun H H' v e ⟨a, o, us, h1, h2, h3⟩ => ⟨a, o, us, h1, e _ _ h2 (fun xs z => nomatch z), stays_kvs e h h3⟩
open Classical in
noncomputable def lend (Os : Own) (H0 H : Hp) : Hp := fun a => if a ∈ ads Os then H a else H0 a
section
variable {K : PySem.W.Frag} {Os : Own} {Γ Γb : Ctx} {te : TE} {R : Den}
theorem lend_in {H0 H : Hp} {a : Addr} (h : a ∈ ads Os) : lend Os H0 H a = H a := if_pos h
theorem lend_out {H0 H : Hp} {a : Addr} (h : a ∉ ads Os) : lend Os H0 H a = H0 a := if_neg h
theorem lend_up {H0 H : Hp} (w : Hold Os H0 H) : Same H0 (lend Os H0 H) := fun a u h => by
  have n : a ∉ ads Os := fun m => by
    obtain ⟨O, hO⟩ := mem_ads m
    rw [(w.at_ _ hO).1] at h
    cases h
  rw [lend_out n]; exact h
theorem lend_sub {H0 H : Hp} (s : Same H0 H) : Same (lend Os H0 H) H := fun a u h => by
  by_cases m : a ∈ ads Os
  · rw [lend_in m] at h; exact h
  · rw [lend_out m] at h; exact s _ _ h
theorem ed_lend (al : allL Os) (st : Stays R) (hΓ : ∀ (H0 H : Hp) (σ : L2.St), Env H0 Γ σ → Same H0 H → Hold Os H0 H → Env (lend Os H0 H) Γb σ) (h : ED [] te Γb R) : ED Os te Γ R := fun σ H0 H e s w Q q =>
  h σ (lend Os H0 H) H (hΓ H0 H σ e s w) (lend_sub s) .nil Q fun v Hb H' gr hv => by
    have s0 : Same H0 (lend Os Hb (fun _ => none)) := fun a u hu => by
      have n : a ∉ ads Os := fun m => by
        obtain ⟨O, hO⟩ := mem_ads m
        rw [(w.at_ _ hO).1] at hu
        cases hu
      rw [lend_out n]
      exact gr.s0 _ _ (by rw [lend_out n]; exact hu)
    have su : Same (lend Os Hb (fun _ => none)) Hb := fun a u hu => by
      by_cases m : a ∈ ads Os
      · rw [lend_in m] at hu; cases hu
      · rw [lend_out m] at hu; exact hu
    refine q v (lend Os Hb fun _ => none) H' ⟨s0, fun b o _ hb => gr.s1 b o (fun z => nomatch z) hb, su.trans gr.sub, fun b o nb hb n => ?_, ⟨w.nd, fun p hp => ?_⟩, fun b hb => .inl hb⟩ ?_
    · rw [lend_out nb]
      exact gr.fr b o (fun z => nomatch z) hb (by rw [lend_out nb]; exact n)
    · obtain ⟨n, o, eo, po⟩ := w.at_ p hp
      exact ⟨by rw [lend_in (ads_mem hp)], o, gr.s1 _ _ (fun z => nomatch z) eo, p.2.mono s0 po⟩
    · refine st Hb _ v (fun a o ha no => ?_) hv
      by_cases m : a ∈ ads Os
      · obtain ⟨O, hO⟩ := mem_ads m
        obtain ⟨_, u, eu, pu⟩ := w.at_ _ hO
        obtain ⟨xs, ex⟩ := al _ hO _ _ pu
        have e1 := gr.s0 _ _ (show lend Os H0 H a = some u by rw [lend_in m]; exact eu)
        rw [ha] at e1
        cases e1
        exact absurd ex (no xs)
      · rw [lend_out m]; exact ha
/-- one's own, one of them written -/
theorem grow_upd {Os' : Own} {H0 H : Hp} {a : Addr} {o' : HO} (ea : ads Os' = ads Os) (s : Same H0 H) (w : Hold Os H0 H) (h : ∀ q, q ∈ Os' → q.1 ≠ a → q ∈ Os) (ha : ∀ q, q ∈ Os' → q.1 = a → q.2.p H0 o') (hm : a ∈ ads Os) : Grow Os H0 H Os' H0 (upd H a o') := by
  have na : H0 a = none := by
    obtain ⟨O, hO⟩ := mem_ads hm
    exact (w.at_ _ hO).1
  refine ⟨.refl _, fun b o nb hb => ?_, fun b o hb => ?_, fun b o _ _ n => n, ⟨by rw [ea]; exact w.nd, fun q hq => ?_⟩, fun b hb => .inl (by rw [← ea]; exact hb)⟩
  · rw [upd_ne fun z => nb (by rw [z]; exact hm)]; exact hb
  · rw [upd_ne (ne_of_none hb na)]; exact s b o hb
  · by_cases z : q.1 = a
    · refine ⟨by rw [z]; exact na, o', by rw [z]; exact upd_same, ha q hq z⟩
    · obtain ⟨n, o, eo, po⟩ := w.at_ _ (h q hq z)
      exact ⟨n, o, by rw [upd_ne z]; exact eo, po⟩
end
/-! ### rows of one's own -/
abbrev rowO (m : Nat) (g : Nat → Int) : Ow := eqO (.lst ((List.range m).map fun j => .int (g j)))
def RO (r : Nat → Addr) (n m : Nat) (f : Nat → Nat → Int) : Own := (List.range n).map fun i => (r i, rowO m (f i))
theorem ads_RO {r : Nat → Addr} {n m : Nat} {f : Nat → Nat → Int} : ads (RO r n m f) = (List.range n).map r := by unfold ads RO; rw [List.map_map]; rfl
theorem RO_mem {r : Nat → Addr} {n m i : Nat} {f : Nat → Nat → Int} (h : i < n) : (r i, rowO m (f i)) ∈ RO r n m f := List.mem_map.mpr ⟨i, List.mem_range.mpr h, rfl⟩
theorem RO_all {r : Nat → Addr} {n m : Nat} {f : Nat → Nat → Int} : allL (RO r n m f) := fun q hq H o h => by
  obtain ⟨i, _, e⟩ := List.mem_map.mp hq
  subst e
  exact ⟨_, h⟩
theorem RO_congr {r : Nat → Addr} {n m : Nat} {f f' : Nat → Nat → Int} (h : ∀ i j, i < n → j < m → f i j = f' i j) : RO r n m f = RO r n m f' := by
  unfold RO
  refine List.map_congr_left fun i hi => ?_
  have e : ((List.range m).map fun j => V.int (f i j)) = (List.range m).map fun j => V.int (f' i j) := List.map_congr_left fun j hj => by rw [h i j (List.mem_range.mp hi) (List.mem_range.mp hj)]
  unfold rowO
  rw [e]
def putF (f : Nat → Nat → Int) (i j : Nat) (d : Int) (a b : Nat) : Int := f a b + if a = i ∧ b = j then d else 0
theorem RO_nd {r : Nat → Addr} {n m : Nat} {f : Nat → Nat → Int} {Os2 : Own} {H0 H : Hp} (w : Hold (RO r n m f ++ Os2) H0 H) {i j : Nat} (hi : i < n) (hj : j < n) (e : r i = r j) : i = j := by
  have nd := w.nd
  rw [show ads (RO r n m f ++ Os2) = ads (RO r n m f) ++ ads Os2 from List.map_append, ads_RO, List.nodup_append] at nd
  have n1 := nd.1
  have a1 : ((List.range n).map r)[i]? = some (r i) := by rw [List.getElem?_map, List.getElem?_range hi]; rfl
  have a2 : ((List.range n).map r)[j]? = some (r j) := by rw [List.getElem?_map, List.getElem?_range hj]; rfl
  obtain ⟨h1, e1⟩ := List.getElem?_eq_some_iff.mp a1
  obtain ⟨h2, e2⟩ := List.getElem?_eq_some_iff.mp a2
  exact (List.getElem_inj n1).mp (e1.trans (e.trans e2.symm))
section
variable {K : PySem.W.Frag} {Os2 : Own} {Γ : Ctx} {to ti te : TE} {N : Own → Ctx → Prop} {O : Own → Den → Prop}
/-- rows[i][j] op= d -/
theorem sb_augRow {r : Nat → Addr} {n m i j : Nat} {f : Nat → Nat → Int} {g : Int → Int → Int} {d d' : Int} (hi : i < n) (hj : j < m) (hm : m ≤ 100000) (ho : ED (RO r n m f ++ Os2) to Γ (valD (.ref (r i)))) (hx : ED (RO r n m f ++ Os2) ti Γ (intD (j : Nat))) (hd : ED (RO r n m f ++ Os2) te Γ (intD d)) (e : g (f i j) d = f i j + d')
    (hn : N (RO r n m (putF f i j d') ++ Os2) Γ) : SB (RO r n m f ++ Os2) (tAugS to ti te rGetL (ipI g) rSetL) Γ N O := fun σ H0 H D e' s w q _ =>
  ho σ H0 H e' s w _ fun x H1 H1' g1 hx1 => hx σ H1 H1' (e'.mono g1.s0) g1.sub g1.ow _ fun y H2 H2' g2 hy => by
    have ex : x = .ref (r i) := hx1
    have ey : y = .int (j : Nat) := hy
    subst ex ey
    have row : ∀ {h0 h : Hp}, Hold (RO r n m f ++ Os2) h0 h → h (r i) = some (.lst ((List.range m).map fun j => .int (f i j))) := fun {h0 h} w' => by
      obtain ⟨_, o, eo, po⟩ := w'.at_ _ (List.mem_append_left _ (RO_mem hi))
      rw [eo, show o = _ from po]
    refine ⟨r i, _, (j : Nat), .int (f i j), rfl, rfl, row g2.ow, by omega, by omega, by rw [Int.toNat_natCast, List.getElem?_map, List.getElem?_range hj]; rfl, ?_⟩
    refine hd σ H2 H2' ((e'.mono g1.s0).mono g2.s0) g2.sub g2.ow _ fun z H3 H3' g3 hz => ?_
    have ez : z = .int d := hz
    subst ez
    refine ⟨f i j, d, rfl, rfl, ?_⟩
    have hs : (((List.range m).map fun j => V.int (f i j)).set j (.int (g (f i j) d))) = (List.range m).map fun b => V.int (putF f i j d' i b) := by
      apply List.ext_getElem?
      intro b
      rw [List.getElem?_map]
      by_cases hb : b < m
      · rw [List.getElem?_range hb]
        by_cases z : b = j
        · subst z
          rw [List.getElem?_set_self (by rw [List.length_map, List.length_range]; exact hb)]
          show some (V.int _) = some (V.int _)
          unfold putF
          rw [if_pos ⟨rfl, rfl⟩, e]
        · rw [List.getElem?_set_ne (Ne.symm z), List.getElem?_map, List.getElem?_range hb]
          show some (V.int _) = some (V.int _)
          unfold putF
          rw [if_neg (fun w => z w.2), Int.add_zero]
      · rw [List.getElem?_eq_none (by rw [List.length_set, List.length_map, List.length_range]; omega), List.getElem?_eq_none (by rw [List.length_range]; omega)]
        rfl
    refine ⟨r i, _, (j : Nat), j, rfl, rfl, row g3.ow, ?_, ?_⟩
    · rw [List.length_map, List.length_range]
      unfold ixN
      rw [if_pos (by omega)]
      simp
      omega
    · rw [hs]
      refine q _ _ hn σ H3 _ (((g1.trans g2).trans g3).trans (grow_upd ?_ g3.sub g3.ow (fun p hp np => ?_) (fun p hp ep => ?_) ?_)) (((e'.mono g1.s0).mono g2.s0).mono g3.s0)
      · show (RO r n m _ ++ Os2).map (·.1) = (RO r n m _ ++ Os2).map (·.1)
        rw [List.map_append, List.map_append]
        exact congrArg (· ++ _) (ads_RO.trans ads_RO.symm)
      · rcases List.mem_append.mp hp with hp | hp
        · obtain ⟨a, ha, ea⟩ := List.mem_map.mp hp
          subst ea
          refine List.mem_append_left _ (List.mem_map.mpr ⟨a, ha, ?_⟩)
          have na : a ≠ i := fun z => np (by rw [z])
          have e9 : ((List.range m).map fun j_1 => V.int (putF f i j d' a j_1)) = (List.range m).map fun j_1 => V.int (f a j_1) := List.map_congr_left fun b _ => by unfold putF; rw [if_neg (fun w => na w.1), Int.add_zero]
          unfold rowO
          rw [e9]
        · exact List.mem_append_right _ hp
      · rcases List.mem_append.mp hp with hp' | hp'
        · obtain ⟨a, ha, ea⟩ := List.mem_map.mp hp'
          subst ea
          have ai : a = i := RO_nd g3.ow (List.mem_range.mp ha) hi ep
          subst ai
          exact rfl
        · exfalso
          have nd := g3.ow.nd
          rw [show ads (RO r n m f ++ Os2) = ads (RO r n m f) ++ ads Os2 from List.map_append, List.nodup_append] at nd
          exact nd.2.2 (r i) (ads_mem (RO_mem hi)) p.1 (ads_mem hp') ep.symm
      · exact ads_mem (List.mem_append_left _ (RO_mem hi))
theorem dget_t {kvs : List (List Key × Den)} {k : List Key} {ta tb : TE} {Os : Own} {A R : Den} (hk : KeyD A k) (h : look kvs k = some R) (ha : ED Os ta Γ (dtD kvs)) (hb : ED Os tb Γ A) : ED Os (tDGet ta tb) Γ R := fun σ H0 H e s w Q q =>
  ha σ H0 H e s w _ fun x H1 H1' g1 ⟨a, o, us, ex, hx, hp⟩ => hb σ H1 H1' (e.mono g1.s0) g1.sub g1.ow _ fun y H2 H2' g2 hy => by
    obtain ⟨v, h1, h2⟩ := (look_paired hp).1 R h
    obtain ⟨b, eb, hb'⟩ := hk _ _ hy
    exact ⟨a, v, ex, .inr ⟨us, k, b, .inr ⟨o, g2.sub _ _ (g2.s0 _ _ hx)⟩, eb, g2.sub _ _ hb', h1.symm⟩, q v H2 H2' (g1.trans g2) (R.mono g2.s0 h2)⟩
/-- a text or tuple, and two new lists of one's own -/
theorem sb_par3 {i j l : Nat} {t1 : TE} {A : Den} {Os : Own} (h : ED Os t1 Γ A) (hn : ∀ a b, N ((b, lstO []) :: (a, lstO []) :: Os) (((Γ.set i (some A)).set j (some (valD (.ref a)))).set l (some (valD (.ref b))))) : SB Os (tPar3 i j l (tCons t1 (tCons (tLst tNil) (tCons (tLst tNil) tNil)))) Γ N O := fun σ H0 H D e s w q _ =>
  h σ H0 H e s w _ fun v H1 H1' g1 hv => ⟨sz_of (Nat.zero_le _), fun a ha => ⟨sz_of (Nat.zero_le _), fun b hb => by
    have nd1 : a ∉ ads Os := g1.ow.out ha
    have s1 : ∀ u, H1 a ≠ some u := fun u z => by rw [g1.sub _ _ z] at ha; cases ha
    have n1 : H1 a = none := g1.sub.free ha
    have ga : Grow Os H1 H1' ((a, lstO []) :: Os) H1 (upd H1' a (.lst [])) := ⟨.refl _, fun c o _ hc => same_upd ha c o hc, g1.sub.trans (same_upd ha), fun c o _ _ n => n, ⟨List.nodup_cons.mpr ⟨nd1, g1.ow.nd⟩, fun p hp => by
      rcases List.mem_cons.mp hp with z | z
      · subst z; exact ⟨n1, _, upd_same, [], rfl, .nil⟩
      · obtain ⟨n, o, eo, po⟩ := g1.ow.at_ p z
        exact ⟨n, o, same_upd ha _ _ eo, po⟩⟩, fun c hc => (List.mem_cons.mp hc).elim (fun z => .inr (by rw [z]; exact ha)) .inl⟩
    have nd2 : b ∉ ads ((a, lstO []) :: Os) := ga.ow.out hb
    have n2 : H1 b = none := ga.sub.free hb
    have gb : Grow ((a, lstO []) :: Os) H1 (upd H1' a (.lst [])) ((b, lstO []) :: (a, lstO []) :: Os) H1 (upd (upd H1' a (.lst [])) b (.lst [])) := ⟨.refl _, fun c o _ hc => same_upd hb c o hc, ga.sub.trans (same_upd hb), fun c o _ _ n => n, ⟨List.nodup_cons.mpr ⟨nd2, ga.ow.nd⟩, fun p hp => by
      rcases List.mem_cons.mp hp with z | z
      · subst z; exact ⟨n2, _, upd_same, [], rfl, .nil⟩
      · obtain ⟨n, o, eo, po⟩ := ga.ow.at_ p z
        exact ⟨n, o, same_upd hb _ _ eo, po⟩⟩, fun c hc => (List.mem_cons.mp hc).elim (fun z => .inr (by rw [z]; exact hb)) .inl⟩
    refine ⟨v, .ref a, .ref b, rfl, q _ _ (hn a b) _ H1 _ ((g1.trans ga).trans gb) ((((e.mono g1.s0).set i hv).set j rfl).set l rfl)⟩⟩⟩
end
/-- what is walked, with its target -/
def EIG {α : Type} (Os : Own) (wi : TI) (g : TG) (vs : List Nat) (Γ : Ctx) (xs : List α) (Γ1 : α → Ctx) : Prop := ∀ (σ : L2.St) (H0 H : Hp), Env H0 Γ σ → Same H0 H → Hold Os H0 H → ∀ R : It → Hp → Prop, (∀ J H1 H1', Grow Os H0 H Os H1 H1' → (∀ H2 H2', Same H1 H2 → Same H2 H2' → Hold Os H2 H2' →
  (∀ i, i < xs.length → J.go i H2') ∧ J.stop xs.length H2' ∧ ∀ i x H3' (hlt : i < xs.length), J.yld i H2' x H3' → ∀ Q : L2.St → Hp → Prop, (∀ σ' H4 H4', Grow Os H2 H2' Os H4 H4' → Env H4 (Γ1 xs[i]) σ' → wipe σ' vs = wipe σ vs → Q σ' H4') → g x (wipe σ vs) H3' Q) → R J H1') → wi σ H R
section
variable {K : PySem.W.Frag} {Os : Own} {Γ : Ctx} {td te tk tv : TE} {wi : TI} {g : TG} {t : TT}
theorem acc_walkG {Hz : Hp} {α : Type} {xs : List α} {Γ1 : α → Ctx} {vs : List Nat} {o0 : HO} {bd : Addr → L2.St → Hp → (Hp → Prop) → Prop} {pb : α → Bool → Prop} (Acc : Hp → List α → HO → Prop) (am : ∀ {H H' : Hp} {ys o}, Same H H' → Acc H ys o → Acc H' ys o) (a0 : ∀ H, Same Hz H → Acc H [] o0)
    (hi : EIG Os wi g vs Γ xs Γ1) (ht : ∀ x, x ∈ xs → ETP Os t (Γ1 x) (pb x))
    (hsk : ∀ H pre x o, x ∈ xs → pb x false → Acc H pre o → Acc H (pre ++ [x]) o)
    (hs : ∀ pre x post, xs = pre ++ x :: post → pb x true → ∀ (σ : L2.St) (H0 H : Hp) (D : Addr) (o : HO), Env H0 (Γ1 x) σ → Same H0 H → Hold Os H0 H → H0 D = none → D ∉ ads Os → H D = some o → Acc H0 pre o → ∀ Nx : Hp → Prop, (∀ H0' H' o', Grow Os H0 H Os H0' H' → Acc H0' (pre ++ [x]) o' → Nx (upd H' D o')) → bd D σ H Nx) : ∀ (σ : L2.St) (H0 H : Hp), Same Hz H0 → Env H0 Γ σ → Same H0 H → Hold Os H0 H → ∀ Q : VK, (∀ D o H0' H', Grow Os H0 H Os H0' H' → H0' D = none → D ∉ ads Os → (∀ u, H D ≠ some u) → H' D = some o → Acc H0' xs o → Q (.ref D) H') → tAcc wi g t o0 bd vs σ H Q := fun σ H0 H hz e s w Q q => by
  refine hi σ H0 H e s w _ fun J H1 H1' g1 it Dl hD => ?_
  have hD0 : H1 Dl = none := g1.sub.free hD
  have hDo : Dl ∉ ads Os := g1.ow.out hD
  have hDH : ∀ u, H Dl ≠ some u := fun u z => by
    have := g1.s1 _ _ hDo z
    rw [hD] at this
    cases this
  refine ⟨fun i m H' => m = xs.length - i ∧ i ≤ xs.length ∧ ∃ (H2 : Hp) (o : HO), Grow Os H1 H1' Os H2 H' ∧ H2 Dl = none ∧ H' Dl = some o ∧ Acc H2 (xs.take i) o, ⟨_, rfl, Nat.zero_le _, H1, o0, ⟨Same.refl _, fun b o _ hb => same_upd hD b o hb, g1.sub.trans (same_upd hD), fun b o _ hb n => n, ⟨g1.ow.nd, fun q hq => ?_⟩, fun b hb => .inl hb⟩, hD0, upd_same, a0 _ (hz.trans g1.s0)⟩, ?_⟩
  · obtain ⟨n, o, eo, po⟩ := g1.ow.at_ q hq
    exact ⟨n, o, same_upd hD _ _ eo, po⟩
  rintro i m H2' ⟨rfl, hle, H2, o, g2, n2, hl, hf⟩
  obtain ⟨go, stop, yld⟩ := it H2 H2' g2.s0 g2.sub g2.ow
  by_cases hlt : i < xs.length
  · refine .inr ⟨go i hlt, fun H' => ∃ (H3 : Hp) (o : HO), Grow Os H1 H1' Os H3 H' ∧ H3 Dl = none ∧ H' Dl = some o ∧ Acc H3 (xs.take (i + 1)) o, fun H' ⟨H3, ws, h⟩ => ⟨_, Nat.sub_lt_sub_left hlt (Nat.lt_succ_self i), rfl, hlt, H3, ws, h⟩, fun x H3' hy => ?_⟩
    have hm := List.getElem_mem hlt
    have tk : xs.take (i + 1) = xs.take i ++ [xs[i]] := by rw [List.take_add_one, List.getElem?_eq_getElem hlt] <;> rfl
    have sp : xs = xs.take i ++ xs[i] :: xs.drop (i + 1) := by rw [List.getElem_cons_drop, List.take_append_drop]
    refine yld i x H3' hlt hy _ fun σ4 H4 H4' g4 e4 w4 => ⟨w4, ?_⟩
    · have g4u := g4
      have n4 : H4 Dl = none := g4u.fr Dl _ hDo hl n2
      have l4 : H4' Dl = some o := g4u.s1 _ _ hDo hl
      refine ht _ hm σ4 H4 H4' e4 g4.sub g4u.ow _ fun b H5 H5' hp g5 => ?_
      have n5 : H5 Dl = none := g5.fr Dl _ hDo l4 n4
      have l5 := g5.s1 _ _ hDo l4
      have g25 := g2.trans (g4u.trans g5)
      have a5 : Acc H5 (xs.take i) o := am (g4.s0.trans g5.s0) hf
      cases b with
      | true =>
        show bd Dl σ4 H5' _
        refine hs _ _ _ sp hp σ4 H5 H5' Dl o (e4.mono g5.s0) g5.sub g5.ow n5 hDo l5 a5 _ fun H6 H6' o' g6 ha => ?_
        rw [tk]
        have n6 : H6 Dl = none := g6.fr Dl _ hDo l5 n5
        have g26 := g25.trans g6
        refine ⟨H6, o', ⟨g26.s0, fun b o hb eb => ?_, fun b o hb => ?_, g26.fr, ⟨g26.ow.nd, fun q hq => ?_⟩, g26.nw⟩, n6, upd_same, ha⟩
        · rw [upd_ne (ne_of_none eb hD)]; exact g26.s1 b o hb eb
        · rw [upd_ne (ne_of_none hb n6)]; exact g26.sub b o hb
        · obtain ⟨n, o, eo, po⟩ := g26.ow.at_ q hq
          exact ⟨n, o, by rw [upd_ne fun z => hDo (by rw [← z]; exact ads_mem hq)]; exact eo, po⟩
      | false =>
        show ∃ _, _
        rw [tk]
        exact ⟨H5, o, g25, n5, l5, hsk _ _ _ _ hm hp a5⟩
  · have ei : i = xs.length := by omega
    subst ei
    rw [List.take_length] at hf
    exact .inl ⟨stop, q Dl o H2 H2' (g1.trans g2) n2 hDo hDH hl hf⟩
theorem eig_of {α : Type} {xs : List α} {d : α → Den} {Γ1 : α → Ctx} {vs is : List Nat} (hi : EIO Os wi Γ (· = xs.map d)) (hg : ∀ x, x ∈ xs → GD g (wipeC Γ vs) (d x) (Γ1 x) is) (hv : (is.all fun i => vs.contains i) = true) : EIG Os wi g vs Γ xs Γ1 := fun σ H0 H e s w R q =>
  hi σ H0 H e s w R fun J H1 H1' Rs hRs g1 it => q J H1 H1' g1 fun H2 H2' s0 s2 w2 => by
    obtain ⟨go, stop, yld⟩ := it H2 H2' s0 s2 w2
    rw [hRs, List.length_map] at go stop
    refine ⟨go, stop, fun i x H3' hlt hy Q qq => ?_⟩
    have hR : Rs[i]? = some (d xs[i]) := by rw [hRs, List.getElem?_map, List.getElem?_eq_getElem hlt] <;> rfl
    obtain ⟨H3, g3, hx⟩ := yld i x H3' hy _ hR
    have g3u := g3.up w2
    refine hg _ (List.getElem_mem hlt) (L2.wipe σ vs) H3 H3' x (((e.mono g1.s0).mono (s0.trans g3.s0)).wipe vs) g3.sub hx _ fun σ4 H4 H4' g4 e4 w4 => qq σ4 H4 H4' (g3u.trans (g4.up g3u.ow)) e4 ?_
    rw [w4 vs (mem_sub hv)]
    exact wipe_wipe fun i hi => hi
/-- [e for a, b in d if t], d a dict of pairs -/
theorem eig_keysT {α : Type} {xs : List α} {k1 k2 : α → Key} {f : α → Den} {i j : Nat} {vs : List Nat} (hd : ED Os td Γ (dtD (xs.map fun x => ([k1 x, k2 x], f x)))) (hv : ([i, j].all fun i => vs.contains i) = true := by decide) : EIG Os (iKeys td) (gTup K 2 (gCons (gName i) (gCons (gName j) gNil))) vs Γ xs (fun x => ((wipeC Γ vs).set i (some (valD (kV (k1 x))))).set j (some (valD (kV (k2 x))))) := fun σ H0 H e s w R q =>
  hd σ H0 H e s w _ fun v H1 H1' g1 ⟨a, o, us, ex, ha, hp⟩ => ⟨a, o, ex, .inr ⟨us, g1.sub _ _ ha, q _ H1 H1' g1 fun H2 H2' s0 s2 w2 => by
    have l2 : H2' a = some (.frz o (.dT us)) := s2 _ _ (s0 _ _ ha)
    have len : xs.length = us.length := by have := Paired.length hp; rw [List.length_map] at this; exact this
    have wk := walk_keysT (d := a) (o := o) (kvs := us)
    refine ⟨fun i hi => wk.goes i H2' (by omega) l2, by rw [len]; exact wk.stops H2' l2, fun n x H3' hlt hy Q qq => ?_⟩
    obtain ⟨e1, k, z, b, e2, e3, e4⟩ := wk.yields n H2' x H3' (by omega) l2 hy
    subst e1
    have hx : (xs.map fun x => ([k1 x, k2 x], f x))[n]? = some ([k1 xs[n], k2 xs[n]], f xs[n]) := by rw [List.getElem?_map, List.getElem?_eq_getElem hlt]; rfl
    obtain ⟨u, hu, eu, _⟩ := Paired.get' hp hx
    rw [e2] at hu
    cases hu
    have ek : k = [k1 xs[n], k2 xs[n]] := eu.symm
    subst ek
    refine ⟨b, _, e3, .of e4, rfl, _, _, rfl, _, _, rfl, rfl, qq _ H2 H3' (.refl s2 w2) (((((e.mono g1.s0).mono s0).wipe vs).set i (R := valD (kV (k1 xs[n]))) rfl).set j (R := valD (kV (k2 xs[n]))) rfl) ?_⟩
    rw [wipe_mem (mem_sub hv j (List.mem_cons_of_mem _ List.mem_cons_self)), wipe_mem (mem_sub hv i List.mem_cons_self)]
    exact wipe_wipe fun i hi => hi⟩⟩
theorem ed_lcG {α : Type} {xs : List α} {f : α → Den} {p : α → Bool} {Γ1 : α → Ctx} {vs : List Nat} (hi : EIG Os wi g vs Γ xs Γ1) (ht : ∀ x, x ∈ xs → ET Os t (Γ1 x) (p x))
    (he : ∀ x, x ∈ xs → p x = true → ED Os te (Γ1 x) (f x)) (hz : xs.length ≤ 100000 := by first | decide | omega) : ED Os (tLc wi g t te vs) Γ (lstD ((xs.filter p).map f)) := fun σ H0 H e s w Q q =>
  acc_walkG (Hz := fun _ => none) (o0 := .lst []) (bd := fun D σ2 H3 Nx => te σ2 H3 fun y H4 => ∃ acc, H4 D = some (.lst acc) ∧ acc.length < sizeLine ∧ Nx (upd H4 D (.lst (acc ++ [y])))) (pb := fun x b => b = p x)
    (fun H pre o => ∃ us : List V, o = .lst us ∧ Fits H ((pre.filter p).map f) us) (fun sm ⟨us, h2, h3⟩ => ⟨us, h2, h3.mono sm⟩) (fun H _ => ⟨[], rfl, .nil⟩) hi (fun x hx => fun σ H0 H e s w Q q => ht x hx σ H0 H e s w Q fun H0' H' gr => q _ H0' H' rfl gr)
    (fun H pre x o _ hp ⟨us, h2, h3⟩ => ⟨us, h2, by
      rw [List.filter_append, List.map_append, List.filter_cons, if_neg (by rw [← hp]; decide), List.filter_nil, List.map_nil, List.append_nil]
      exact h3⟩)
    (fun pre x post sp hp σ H0 H D o e s w nD nO eD ⟨us, h2, h3⟩ Nx q => by
      subst h2
      refine he x (by rw [sp]; exact List.mem_append_right _ List.mem_cons_self) hp.symm σ H0 H e s w _ fun v H0' H' gr hv => ⟨us, gr.s1 _ _ nO eD, sz_lt ?_, q H0' H' _ gr ⟨us ++ [v], rfl, ?_⟩⟩
      · have l1 : us.length = ((pre.filter p).map f).length := (Paired.length h3).symm
        have l2 := List.length_filter_le p pre
        rw [List.length_map] at l1
        have l3 : xs.length = pre.length + (post.length + 1) := by rw [sp, List.length_append, List.length_cons]
        omega
      · rw [List.filter_append, List.map_append, List.filter_cons, if_pos hp.symm]
        exact fits_app (h3.mono gr.s0) (.cons hv .nil)) σ H0 H (fun _ _ z => nomatch z) e s w Q fun D o H0' H' g1 n no nH eo ⟨us, h2, h3⟩ => q _ _ H' (acc_keep g1 n no nH eo) ⟨D, us, rfl, by rw [upd_same, h2], h3.mono (same_upd n)⟩
end
end Dn
/-! VL -/
namespace Pr
open PySem PySem.Spec PyProof.Rows L2 Dn Rb Fl
/-- rows of one's own, by where they lie -/
abbrev refsD (n : Nat) (r : Nat → Addr) : Den := lstD ((List.range n).map fun i => valD (.ref (r i)))
abbrev stR (K : PySem.W.Frag) (s : StA) (r : Nat → Addr) : Den := insD (C_Stream K) (strF s (refsD s.n r))
abbrev withF (s : StA) (f : Nat → Nat → Int) : StA := { s with f := f }
section
variable {P : Program} {w : World} {K : PySem.W.Frag} {mg : Str → Option Value} {base : Heap}
theorem lent {s : StA} {r : Nat → Addr} {Os : Own} {H0 H : Hp} {x : V} (sub : ∀ q, q ∈ RO r s.n s.m s.f → q ∈ Os) (sm : Same H0 H) (w : Hold Os H0 H) (h : (stR K s r).p H0 x) : (streamD K s).p (lend Os H0 H) x := by
  obtain ⟨a, dx, us, ex, ea, hp⟩ := h
  have up : Same H0 (lend Os H0 H) := lend_up w
  refine ⟨a, dx, us, ex, up _ _ ea, ?_⟩
  cases hp with
  | cons r1 t1 => cases t1 with
    | cons r2 t2 => cases t2 with
      | cons r3 t3 => cases t3 with
        | cons r4 t4 =>
          cases t4
          refine .cons ⟨r1.1, Den.mono _ up r1.2⟩ (.cons ⟨r2.1, Den.mono _ up r2.2⟩ (.cons ⟨r3.1, Den.mono _ up r3.2⟩ (.cons ⟨r4.1, ?_⟩ .nil)))
          obtain ⟨b, vs, eb, hb, hf⟩ := r4.2
          refine ⟨b, vs, eb, up _ _ hb, ?_⟩
          have e2 : ((List.range s.n).map fun i => valD (.ref (r i))) = ((List.range s.n).map fun i => V.ref (r i)).map valD := by rw [List.map_map]; rfl
          rw [e2] at hf
          have e3 := Fits.vals hf
          subst e3
          refine Fits.map (fun i y hy => ?_) (by rw [List.length_map])
          have hi : i < s.n := by
            have := (List.getElem?_eq_some_iff.mp hy).1
            rw [List.length_range] at this
            exact this
          rw [List.getElem?_range hi] at hy
          cases hy
          refine ⟨.ref (r i), by rw [List.getElem?_map, List.getElem?_range hi]; rfl, ?_⟩
          obtain ⟨_, o, eo, po⟩ := w.at_ _ (sub _ (RO_mem hi))
          refine ⟨r i, (List.range s.m).map fun j => .int (s.f i j), rfl, ?_, ?_⟩
          · rw [lend_in (ads_mem (sub _ (RO_mem hi)))]
            rw [eo, show o = _ from po]
          · have e4 : ((List.range s.m).map fun j => Dn.intD (s.f i j)) = ((List.range s.m).map fun j => V.int (s.f i j)).map valD := by rw [List.map_map]; rfl
            rw [e4]
            exact Fits.of_vals _
theorem ed_rows {i : Nat} {s : StA} {r : Nat → Addr} {Os : Own} {Γ : Dn.Ctx} {te : TE} {R : Den} (h0 : Γ[i]? = some (some (stR K s r))) (sub : ∀ q, q ∈ RO r s.n s.m s.f → q ∈ Os) (al : allL Os) (st : Stays R) (h : ED [] te (Γ.set i (some (streamD K s))) R) : ED Os te Γ R :=
  ed_lend al st (fun H0 H σ e sm w => by
    obtain ⟨x, hx, rx⟩ := e.get h0
    have z := (e.mono (lend_up w)).set i (R := streamD K s) (v := x) (lent sub sm w rx)
    have e3 : σ.set i (some x) = σ := by
      apply List.ext_getElem?
      intro j
      by_cases hj : j = i
      · subst hj
        have hlt := (List.getElem?_eq_some_iff.mp hx).1
        rw [List.getElem?_set_self hlt, hx]
      · rw [List.getElem?_set_ne (Ne.symm hj)]
    rw [e3] at z
    exact z) h
theorem sb_augRow0 {Γ : Dn.Ctx} {to ti te : TE} {N : Own → Dn.Ctx → Prop} {O : Own → Den → Prop} {r : Nat → Addr} {n m i j : Nat} {f : Nat → Nat → Int} {g : Int → Int → Int} {d d' : Int} (hi : i < n) (hj : j < m) (hm : m ≤ 100000) (ho : ED (RO r n m f) to Γ (valD (.ref (r i)))) (hx : ED (RO r n m f) ti Γ (intD (j : Nat))) (hd : ED (RO r n m f) te Γ (intD d)) (e : g (f i j) d = f i j + d')
    (hn : N (RO r n m (Dn.putF f i j d')) Γ) : SB (RO r n m f) (tAugS to ti te rGetL (ipI g) rSetL) Γ N O := by
  have z := sb_augRow (Os2 := []) (Γ := Γ) (to := to) (ti := ti) (te := te) (N := N) (O := O) (r := r) (n := n) (m := m) (i := i) (j := j) (f := f) (g := g) (d := d) (d' := d') hi hj hm
  rw [List.append_nil, List.append_nil] at z
  exact z ho hx hd e hn
theorem look_at {L : Tr} (nd : (L.map (·.1)).Nodup) {p : Nat} {x : Node} {z : Option Node} (h : L[p]? = some (x, z)) : look (cameL L) (nodK x) = some (nodO z) := by
  unfold look
  have e : (cameL L).find? (fun q => decide (q.1 = nodK x)) = some (nodK x, nodO z) := by
    cases hf : (cameL L).find? (fun q => decide (q.1 = nodK x)) with
    | none =>
      have := List.find?_eq_none.mp hf (nodK x, nodO z) (List.mem_map.mpr ⟨(x, z), List.mem_of_getElem? h, rfl⟩)
      simp at this
    | some q =>
      have hq := List.mem_of_find?_eq_some hf
      have eq := of_decide_eq_true (List.find?_some (p := fun q : List Key × Den => decide (q.1 = nodK x)) hf)
      obtain ⟨⟨y, z'⟩, hm, ey⟩ := List.mem_map.mp hq
      subst ey
      have exy : y = x := nodK_inj eq
      subst exy
      obtain ⟨p', hp'⟩ := List.mem_iff_getElem?.mp hm
      have := nd_at nd h hp'
      subst this
      rw [h] at hp'
      cases hp'
      rfl
  rw [e]
  rfl
structure WayS where
  p : Nat
  x : Node
  fo : List Node
  ba : List Node
  most : Int
abbrev wayO (s : StA) (r : Nat → Addr) (a b : Addr) (i : WayS) : Own := (b, lstO (i.ba.map nodD)) :: (a, lstO (i.fo.map nodD)) :: RO r s.n s.m s.f
abbrev wayG (K : PySem.W.Frag) (s : StA) (r : Nat → Addr) (L : Tr) (c0 : Nat) (a b : Addr) (i : WayS) : Dn.Ctx := [some (stR K s r), some (cameD L), some (intD (c0 : Nat)), some (intD i.most), some (nodD i.x), some (valD (.ref a)), some (valD (.ref b)), none, none, none]
def total (n m : Nat) (f : Nat → Nat → Int) : Int := sumN (fun i => sumN (f i) m) n
theorem wayAll {s : StA} {r : Nat → Addr} {a b : Addr} {i : WayS} : allL (wayO s r a b i) := fun q hq H o h => by
  rcases List.mem_cons.mp hq with z | z
  · subst z; obtain ⟨us, e, _⟩ := h; exact ⟨us, e⟩
  · rcases List.mem_cons.mp z with z | z
    · subst z; obtain ⟨us, e, _⟩ := h; exact ⟨us, e⟩
    · exact RO_all q z H o h
theorem wayRO {s : StA} {r : Nat → Addr} {a b : Addr} {i : WayS} : ∀ q, q ∈ RO r s.n s.m s.f → q ∈ wayO s r a b i := fun q h => List.mem_cons_of_mem _ (List.mem_cons_of_mem _ h)
abbrev r_Stream_push (K : PySem.W.Frag) : List Den → Own → (Own → Den → Prop) → Prop := owN (fun a : StA × (Nat → Addr) × Tr × Nat => okSt a.1 ∧ SrchOk a.1 (a.2.2.1, some a.2.2.2)) (fun a => [stR K a.1 a.2.1, cameD a.2.2.1, intD (a.2.2.2 : Nat)]) (fun a => RO a.2.1 a.1.n a.1.m a.1.f) (fun a o R => R = nonD ∧ ∃ f', Feas a.1.n a.1.m a.1.need a.1.room a.1.c f' ∧ total a.1.n a.1.m a.1.f + 1 ≤ total a.1.n a.1.m f' ∧ o = RO a.2.1 a.1.n a.1.m f')
theorem ok_Stream_push (T : Txt K mg) : FnOk P w K mg base CX0 2 (a_Stream_push K) (fdOf K (a_Stream_push K)) ["self", "came", "column"] (DefN (r_Stream_push K)) := by
  refine owN_ok (F_Stream_push T) sc_Stream_push (fun _ => rfl) fun cdv A outer s H E hr => ⟨_, PSs.nox (pss_cons (ps_par3 (i := 4) (j := 5) (l := 6) (by rfl) sc_Stream_push.nd rfl rfl rfl (by decide) (by decide) (by decide) rfl rfl rfl (pa_cons (pe_tup (pa_cons (pe_glob rfl (gt_COLUMN T) (rx_COLUMN T)) (pa_cons (pv 2) pa_nil))) (pa_cons (pe_lst pa_nil) (pa_cons (pe_lst pa_nil) pa_nil))) (by rfl))
  (pss_cons (ps_set (i := 3) sc_Stream_push.nd rfl (Or.inl rfl) (pe_meth (pv 0) (c_Stream T) (m_Stream_column_left T) (ok_Stream_column_left T) (hr.mono (by decide)) (b_Stream_column_left T) .nil pass0 (pa_cons (pv 2) pa_nil)))
  (pss_cons (ps_while PassesOwn.never (pt_cmpR op_notN (pe_dget (rm1 hr) (pv 1) (pv 4) (fun _ _ => rfl)) pe_non (nomark _))
  (pss_cons (ps_set (i := 7) sc_Stream_push.nd rfl (Or.inl rfl) (pe_dget (rm1 hr) (pv 1) (pv 4) (fun _ _ => rfl)))
  (pss_cons (ps_if (pt_cmpR op_eq (pe_ix (ix_tupK (K := K)) (pv 4) pe_int (fun _ _ => rfl)) (pe_glob rfl (gt_COLUMN T) (rx_COLUMN T)) (nomark _)) (pss_cons (ps_expr (pe_bm PySem.F.plainAttrs_list PySem.F.slot_list_append PySem.F.type_list_append mt_append (pv 5) (pa_cons (pe_tup (pa_cons (pe_ix (ix_tupK (K := K)) (pv 7) pe_int (fun _ _ => rfl)) (pa_cons (pe_ix (ix_tupK (K := K)) (pv 4) pe_int (fun _ _ => rfl)) pa_nil))) pa_nil)))
  (pss_one (ps_set (i := 3) sc_Stream_push.nd rfl (Or.inl rfl) (pe_callB (call_min2 rfl) (by rfl) (z_min T) boot_min (pa_cons (pv 3) (pa_cons (pe_op op_sub (pe_ix (ix_listK (K := K)) (pe_ix (ix_listK (K := K)) (pe_fldK (K := K) (pv 0)) (pe_ix (ix_tupK (K := K)) (pv 7) pe_int (fun _ _ => rfl)) (fun _ _ => rfl)) (pe_ix (ix_tupK (K := K)) (pv 4) pe_int (fun _ _ => rfl)) (fun _ _ => rfl)) (pe_ix (ix_listK (K := K)) (pe_ix (ix_listK (K := K)) (pe_fldK (K := K) (pv 0)) (pe_ix (ix_tupK (K := K)) (pv 7) pe_int (fun _ _ => rfl)) (fun _ _ => rfl)) (pe_ix (ix_tupK (K := K)) (pv 4) pe_int (fun _ _ => rfl)) (fun _ _ => rfl))) pa_nil)))))) (pss_cons (ps_expr (pe_bm PySem.F.plainAttrs_list PySem.F.slot_list_append PySem.F.type_list_append mt_append (pv 6) (pa_cons (pe_tup (pa_cons (pe_ix (ix_tupK (K := K)) (pv 4) pe_int (fun _ _ => rfl)) (pa_cons (pe_ix (ix_tupK (K := K)) (pv 7) pe_int (fun _ _ => rfl)) pa_nil))) pa_nil)))
  (pss_one (ps_set (i := 3) sc_Stream_push.nd rfl (Or.inl rfl) (pe_callB (call_min2 rfl) (by rfl) (z_min T) boot_min (pa_cons (pv 3) (pa_cons (pe_ix (ix_listK (K := K)) (pe_ix (ix_listK (K := K)) (pe_fldK (K := K) (pv 0)) (pe_ix (ix_tupK (K := K)) (pv 4) pe_int (fun _ _ => rfl)) (fun _ _ => rfl)) (pe_ix (ix_tupK (K := K)) (pv 7) pe_int (fun _ _ => rfl)) (fun _ _ => rfl)) pa_nil)))))))
  (pss_one (ps_set (i := 4) sc_Stream_push.nd rfl (Or.inl rfl) (pv 7))))))
  (pss_cons (ps_set (i := 3) sc_Stream_push.nd rfl (Or.inl rfl) (pe_callB (call_min2 rfl) (by rfl) (z_min T) boot_min (pa_cons (pv 3) (pa_cons (pe_meth (pv 0) (c_Stream T) (m_Stream_row_left T) (ok_Stream_row_left T) (hr.mono (by decide)) (b_Stream_row_left T) .nil pass0 (pa_cons (pe_ix (ix_tupK (K := K)) (pv 4) pe_int (fun _ _ => rfl)) pa_nil)) pa_nil))))
  (pss_cons (ps_for PassesOwn.never rfl (pi_listK (K := K) (pv 5)) (pg_tupK (K := K) (n := 2) rfl (pgs_cons (pg_name (i := 8) sc_Stream_push.nd rfl (Or.inl rfl)) (pgs_cons (pg_name (i := 9) sc_Stream_push.nd rfl (Or.inl rfl)) pgs_nil)))
  (pss_one (ps_augS (pe_ix (ix_listK (K := K)) (pe_fldK (K := K) (pv 0)) (pv 8) (fun _ _ => rfl)) (pv 9) get_list (pv 3) ip_add set_list)))
  (pss_one (ps_for PassesOwn.never rfl (pi_listK (K := K) (pv 6)) (pg_tupK (K := K) (n := 2) rfl (pgs_cons (pg_name (i := 8) sc_Stream_push.nd rfl (Or.inl rfl)) (pgs_cons (pg_name (i := 9) sc_Stream_push.nd rfl (Or.inl rfl)) pgs_nil)))
  (pss_one (ps_augS (pe_ix (ix_listK (K := K)) (pe_fldK (K := K) (pv 0)) (pv 8) (fun _ _ => rfl)) (pv 9) get_list (pv 3) ip_sub set_list))))))))), ?_⟩
  rintro ⟨s, r, L, c0⟩ ⟨ok, TR, hc0, hin, hroom⟩
  dsimp only at ok TR hc0 hin hroom ⊢
  have hn := ok.n
  have hm := ok.m
  obtain ⟨⟨x0, z0⟩, hx0, ex0⟩ := List.mem_map.mp hin
  dsimp only at ex0
  subst ex0
  obtain ⟨p0, hp0⟩ := List.mem_iff_getElem?.mp hx0
  have W0 := OnWay.start (room := s.room) (f := s.f) TR hp0 (by omega)
  refine sb_seqG (M := fun o g => ∃ a b, o = (b, lstO []) :: (a, lstO []) :: RO r s.n s.m s.f ∧ g = [some (stR K s r), some (cameD L), some (intD (c0 : Nat)), none, some (nodD (1, c0)), some (valD (.ref a)), some (valD (.ref b)), none, none, none]) (sb_par3 (A := nodD (1, c0)) (ed_tup (ea_cons ed_c (ea_cons (ed_var rfl) ea_nil))) fun a b => ⟨a, b, rfl, rfl⟩) fun o g m => ?_
  obtain ⟨a, b, rfl, rfl⟩ := m
  refine sb_seq (sb_asg (A := intD (s.room c0 - sumN (fun i => s.f i c0) s.n)) (ed_rows (i := 0) rfl (wayRO (i := ⟨0, (0, 0), [], [], 0⟩)) (wayAll (i := ⟨0, (0, 0), [], [], 0⟩)) stays_val (ed_methP (α := StA × Nat) (s, c0) (ed_var rfl) (ea_cons (ed_var rfl) ea_nil) ⟨hc0, hn⟩))) ?_
  have hp0L : p0 < L.length := (List.getElem?_eq_some_iff.mp hp0).1
  have hLl := tree_len TR
  refine sb_seqG (M := fun o g => ∃ i : WayS, OnWay s.n s.m s.room s.c s.f L c0 i.p i.x i.fo i.ba i.most ∧ L[i.p]? = some (i.x, none) ∧ o = wayO s r a b i ∧ g = wayG K s r L c0 a b i) (sb_while (ι := WayS) (Oz := fun i => wayO s r a b i) (Γs := fun i => wayG K s r L c0 a b i) (μ := fun i => i.p) (I := fun i => OnWay s.n s.m s.room s.c s.f L c0 i.p i.x i.fo i.ba i.most ∧ i.fo.length + i.ba.length + i.p ≤ p0) ⟨p0, (1, c0), [], [], s.room c0 - sumN (fun i => s.f i c0) s.n⟩ ⟨W0, by show 0 + 0 + p0 ≤ p0; omega⟩ rfl .refl (fun i => rfl) ?_) fun o g m => ?_
  · rintro ⟨p, x, fo, ba, most⟩ ⟨hW, hlen⟩
    dsimp only at hW hlen
    obtain ⟨z, hz⟩ := hW.at_
    have lk := look_at TR.nd hz
    cases z with
    | none => exact ⟨false, et_test (ed_op (dget_t (key_nod x) lk (ed_var rfl) (ed_var rfl)) ed_c od_notN), fun _ => ⟨_, hW, hz, rfl, rfl⟩, fun z => nomatch z⟩
    | some pr =>
      refine ⟨true, et_test (ed_op (dget_t (key_nod x) lk (ed_var rfl) (ed_var rfl)) ed_c (od_notN' (A := nodD pr) notN_tup)), (fun z => nomatch z), fun _ => ?_⟩
      refine sb_seq (sb_asg (A := nodD pr) (dget_t (key_nod x) lk (ed_var rfl) (ed_var rfl))) ?_
      have hv := TR.val _ _ (List.mem_of_getElem? hz)
      obtain ⟨x1, x2⟩ := x
      refine sb_seqG (M := fun o g => ∃ i : WayS, OnWay s.n s.m s.room s.c s.f L c0 i.p i.x i.fo i.ba i.most ∧ i.fo.length + i.ba.length + i.p ≤ p0 ∧ i.p < p ∧ i.x = pr ∧ o = wayO s r a b i ∧ g = [some (stR K s r), some (cameD L), some (intD (c0 : Nat)), some (intD i.most), some (nodD (x1, x2)), some (valD (.ref a)), some (valD (.ref b)), some (nodD pr), none, none]) (sb_if (b := decide (((x1 : Nat) : Int) = 1)) (et_test (ed_op (ed_op (ed_var rfl) ed_c (od_ixT (i := 0) rfl)) ed_c od_eqI)) (fun hb => ?_) fun hb => ?_) fun o g m => ?_
      · have e1 := of_decide_eq_true hb
        have x1e : x1 = 1 := by omega
        subst x1e
        obtain ⟨rr, q, rfl, hr1, hq, hc1, hW'⟩ := hW.forth TR hz
        have ef : (fo ++ [((rr, x2) : Node)]).map (fun y => nodD y) = fo.map (fun y => nodD y) ++ [nodD (rr, x2)] := by rw [List.map_append]; rfl
        refine sb_seq (sb_swap (SB.swap (sb_app (A := nodD (rr, x2)) (ed_var rfl) (ea_cons (ed_tup (ea_cons (ed_op (ed_var rfl) ed_c (od_ixT (i := 1) rfl)) (ea_cons (ed_op (ed_var rfl) ed_c (od_ixT (i := 1) rfl)) ea_nil))) ea_nil) (by rw [List.length_map]; dsimp only; omega)))) ?_
        rw [← ef]
        refine sb_asg (A := intD (min most (s.c rr x2 - s.f rr x2))) (ed_cb (ea_cons (ed_var rfl) (ea_cons (ed_rows (i := 0) (s := s) rfl (wayRO (i := ⟨p, (1, x2), fo ++ [(rr, x2)], ba, most⟩)) (wayAll (i := ⟨p, (1, x2), fo ++ [(rr, x2)], ba, most⟩)) stays_val (ed_op (ed_op (ed_op (ed_fld (ed_var rfl) (c_Stream T) (na_Stream_own_caps T) rfl) (ed_op (ed_var rfl) ed_c (od_ixT (i := 1) rfl)) (od_ixL (mat_at hr1))) (ed_op (ed_var rfl) ed_c (od_ixT (i := 1) rfl)) (od_ixL (vec_at hc1))) (ed_op (ed_op (ed_fld (ed_var rfl) (c_Stream T) (na_Stream_own_flows T) rfl) (ed_op (ed_var rfl) ed_c (od_ixT (i := 1) rfl)) (od_ixL (mat_at hr1))) (ed_op (ed_var rfl) ed_c (od_ixT (i := 1) rfl)) (od_ixL (vec_at hc1))) od_sub)) ea_nil)) cd_min) ?_
        exact ⟨⟨q, (0, rr), fo ++ [(rr, x2)], ba, min most (s.c rr x2 - s.f rr x2)⟩, hW', by show (fo ++ [_]).length + ba.length + q ≤ p0; rw [List.length_append, List.length_singleton]; omega, hq, rfl, rfl, rfl⟩
      · have e1 := of_decide_eq_false hb
        have x1e : x1 = 0 := by
          rcases hv with ⟨z, _⟩ | ⟨z, _⟩
          · exact z
          · dsimp at z; omega
        subst x1e
        obtain ⟨cc, q, rfl, hc1, hq, hr1, hW'⟩ := hW.back TR hz
        have ef : (ba ++ [((x2, cc) : Node)]).map (fun y => nodD y) = ba.map (fun y => nodD y) ++ [nodD (x2, cc)] := by rw [List.map_append]; rfl
        refine sb_seq (sb_app (A := nodD (x2, cc)) (ed_var rfl) (ea_cons (ed_tup (ea_cons (ed_op (ed_var rfl) ed_c (od_ixT (i := 1) rfl)) (ea_cons (ed_op (ed_var rfl) ed_c (od_ixT (i := 1) rfl)) ea_nil))) ea_nil) (by rw [List.length_map]; dsimp only; omega)) ?_
        rw [← ef]
        refine sb_asg (A := intD (min most (s.f x2 cc))) (ed_cb (ea_cons (ed_var rfl) (ea_cons (ed_rows (i := 0) (s := s) rfl (wayRO (i := ⟨p, (1, x2), fo, ba ++ [(x2, cc)], most⟩)) (wayAll (i := ⟨p, (1, x2), fo, ba ++ [(x2, cc)], most⟩)) stays_val (ed_op (ed_op (ed_fld (ed_var rfl) (c_Stream T) (na_Stream_own_flows T) rfl) (ed_op (ed_var rfl) ed_c (od_ixT (i := 1) rfl)) (od_ixL (mat_at hr1))) (ed_op (ed_var rfl) ed_c (od_ixT (i := 1) rfl)) (od_ixL (vec_at hc1)))) ea_nil)) cd_min) ?_
        exact ⟨⟨q, (1, cc), fo, ba ++ [(x2, cc)], min most (s.f x2 cc)⟩, hW', by show fo.length + (ba ++ [_]).length + q ≤ p0; rw [List.length_append, List.length_singleton]; omega, hq, rfl, rfl, rfl⟩
      · obtain ⟨⟨q, y, fo', ba', most'⟩, hW', hl', hq, ey, rfl, rfl⟩ := m
        dsimp only at hW' hl' hq ey
        subst ey
        exact sb_asg (ed_var rfl) ⟨⟨q, y, fo', ba', most'⟩, ⟨hW', hl'⟩, hq, rfl, .keep (.keep (.keep (.keep (.keep (.keep (.keep (.drop (.drop (.drop .nil)))))))))⟩
  · obtain ⟨⟨p, x, fo, ba, most⟩, hW, hz, rfl, rfl⟩ := m
    dsimp only at hW hz
    obtain ⟨rr, rfl, hr1, hpos, hfeas, htot⟩ := hW.done ok.feas TR hz
    refine sb_seq (sb_asg (A := intD (min most (s.need rr - sumN (s.f rr) s.m))) (ed_cb (ea_cons (ed_var rfl) (ea_cons (ed_rows (i := 0) (s := s) rfl (wayRO (i := ⟨p, (0, rr), fo, ba, most⟩)) (wayAll (i := ⟨p, (0, rr), fo, ba, most⟩)) stays_val (ed_methP (α := StA × Nat) (s, rr) (ed_var rfl) (ea_cons (ed_op (ed_var rfl) ed_c (od_ixT (i := 1) rfl)) ea_nil) hr1)) ea_nil)) cd_min)) ?_
    have hin_ := hW.in_
    generalize hd : min most (s.need rr - sumN (s.f rr) s.m) = d at *
    refine sb_keep keeps_lst (i := 6) rfl (sb_keep keeps_lst (i := 5) rfl ?_)
    refine sb_seq (sb_forP (xs := fo) (d := fun y => nodD y) (Oz := fun pre => RO r s.n s.m fun i j => s.f i j + d * cnt pre i j) (Γs := fun _ => [some (stR K s r), some (cameD L), some (intD (c0 : Nat)), some (intD d), some (nodD (0, rr)), some (lstD (fo.map fun y => nodD y)), some (lstD (ba.map fun y => nodD y)), none, none, none]) (ei_list (ed_var rfl)) (RO_congr fun i j _ _ => by show s.f i j + d * 0 = s.f i j; omega) (fun i => ads_RO.trans ads_RO.symm) (.keep (.keep (.keep (.keep (.keep (.keep (.keep (.drop (.drop (.drop .nil)))))))))) (fun pre y post sp => ⟨_, _, gd_tup2 gd_name gd_name, ?_⟩)) ?_
    · obtain ⟨y1, y2⟩ := y
      obtain ⟨hy1, hy2⟩ := hin_.1 (y1, y2) (by rw [sp]; exact List.mem_append_right _ List.mem_cons_self)
      refine SB.less (sb_augRow0 (i := y1) (j := y2) (d := d) (d' := d) hy1 hy2 (by omega) (ed_op (ed_fld (ed_var rfl) (c_Stream T) (na_Stream_own_flows T) rfl) (ed_var rfl) (od_ixL (by rw [List.getElem?_map, List.getElem?_range hy1]; rfl))) (ed_var rfl) (ed_var rfl) rfl ⟨RO_congr fun i j _ _ => ?_, rfl⟩) (.keep (.keep (.keep (.keep (.keep (.keep (.keep (.drop (.drop (.drop .nil))))))))))
      unfold Dn.putF
      rw [cnt_app]
      show s.f i j + d * cnt pre i j + _ = s.f i j + d * (cnt pre i j + ((if ((y1, y2) : Node) = (i, j) then 1 else 0) + 0))
      by_cases q : i = y1 ∧ j = y2
      · rw [if_pos q, if_pos (by rw [q.1, q.2]), Int.mul_add]; omega
      · rw [if_neg q, if_neg (fun e => q (by cases e; exact ⟨rfl, rfl⟩))]; simp
    · refine SB.impG (sb_forP (xs := ba) (d := fun y => nodD y) (Oz := fun pre => RO r s.n s.m fun i j => s.f i j + d * cnt fo i j + -(d * cnt pre i j)) (Γs := fun _ => [some (stR K s r), some (cameD L), some (intD (c0 : Nat)), some (intD d), some (nodD (0, rr)), some (lstD (fo.map fun y => nodD y)), some (lstD (ba.map fun y => nodD y)), none, none, none]) (N := to (RO r s.n s.m fun i j => s.f i j + d * cnt fo i j + -(d * cnt ba i j)) [some (stR K s r), some (cameD L), some (intD (c0 : Nat)), some (intD d), some (nodD (0, rr)), some (lstD (fo.map fun y => nodD y)), some (lstD (ba.map fun y => nodD y)), none, none, none]) (ei_list (ed_var rfl)) (RO_congr fun i j _ _ => by show s.f i j + d * cnt fo i j + -(d * 0) = _; omega) (fun i => ads_RO.trans ads_RO.symm) .refl (fun pre y post sp => ⟨_, _, gd_tup2 gd_name gd_name, ?_⟩) ⟨rfl, rfl⟩) (fun o g m => ?_) fun _ _ h => h
      · obtain ⟨y1, y2⟩ := y
        obtain ⟨hy1, hy2⟩ := hin_.2 (y1, y2) (by rw [sp]; exact List.mem_append_right _ List.mem_cons_self)
        refine SB.less (sb_augRow0 (i := y1) (j := y2) (d := d) (d' := -d) hy1 hy2 (by omega) (ed_op (ed_fld (ed_var rfl) (c_Stream T) (na_Stream_own_flows T) rfl) (ed_var rfl) (od_ixL (by rw [List.getElem?_map, List.getElem?_range hy1]; rfl))) (ed_var rfl) (ed_var rfl) (Int.sub_eq_add_neg) ⟨RO_congr fun i j _ _ => ?_, rfl⟩) (.keep (.keep (.keep (.keep (.keep (.keep (.keep (.drop (.drop (.drop .nil))))))))))
        unfold Dn.putF
        rw [cnt_app]
        show s.f i j + d * cnt fo i j + -(d * cnt pre i j) + _ = s.f i j + d * cnt fo i j + -(d * (cnt pre i j + ((if ((y1, y2) : Node) = (i, j) then 1 else 0) + 0)))
        by_cases q : i = y1 ∧ j = y2
        · rw [if_pos q, if_pos (by rw [q.1, q.2]), Int.mul_add]; omega
        · rw [if_neg q, if_neg (fun e => q (by cases e; exact ⟨rfl, rfl⟩))]; simp
      · obtain ⟨rfl, rfl⟩ := m
        refine ⟨_, ⟨nonD, ⟨rfl, _, hfeas, ?_, RO_congr fun i j _ _ => ?_⟩, Sub.refl⟩, .refl⟩
        · show sumN _ _ + 1 ≤ sumN _ _
          rw [htot]
          show total _ _ _ + 1 ≤ total _ _ _ + d
          omega
        · show _ = s.f i j + d * (cnt fo i j - cnt ba i j)
          rw [Int.mul_sub]; omega
end
end Pr
/-! DL -/
/-! Some of one's own seen beside the rest; new rows of one's own. -/
namespace Dn
open PySem PySem.Spec PyProof.Rows L2
theorem ads_app {Os1 Os2 : Own} : ads (Os1 ++ Os2) = ads Os1 ++ ads Os2 := List.map_append
theorem Grow.part {Os1 Os1' Os2 : Own} {H0 H H0' H' : Hp} (g : Grow Os1 H0 H Os1' H0' H') (w : Hold (Os1 ++ Os2) H0 H) : Grow (Os1 ++ Os2) H0 H (Os1' ++ Os2) H0' H' := by
  have nd := w.nd
  rw [ads_app, List.nodup_append] at nd
  have o1 : ∀ b, b ∉ ads (Os1 ++ Os2) → b ∉ ads Os1 := fun b n h => n (by rw [ads_app]; exact List.mem_append_left _ h)
  have n2 : ∀ b, b ∈ ads Os2 → b ∉ ads Os1 := fun b h h' => nd.2.2 b h' b h rfl
  refine ⟨g.s0, fun b o n h => g.s1 b o (o1 b n) h, g.sub, fun b o n h z => g.fr b o (o1 b n) h z, ⟨?_, fun q hq => ?_⟩, fun b hb => ?_⟩
  · rw [ads_app, List.nodup_append]
    refine ⟨g.ow.nd, nd.2.1, fun a ha b hb e => ?_⟩
    subst e
    rcases g.nw a ha with z | z
    · exact n2 a hb z
    · obtain ⟨O, hO⟩ := mem_ads hb
      obtain ⟨_, o, eo, _⟩ := w.at_ _ (List.mem_append_right _ hO)
      rw [z] at eo
      cases eo
  · rcases List.mem_append.mp hq with h | h
    · exact g.ow.at_ _ h
    · obtain ⟨n, o, eo, po⟩ := w.at_ _ (List.mem_append_right _ h)
      exact ⟨g.fr _ _ (n2 _ (ads_mem h)) eo n, o, g.s1 _ _ (n2 _ (ads_mem h)) eo, q.2.mono g.s0 po⟩
  · rw [ads_app] at hb ⊢
    rcases List.mem_append.mp hb with h | h
    · exact (g.nw b h).imp (List.mem_append_left _) id
    · exact .inl (List.mem_append_right _ h)
theorem Hold.left {Os1 Os2 : Own} {H0 H : Hp} (w : Hold (Os1 ++ Os2) H0 H) : Hold Os1 H0 H := by
  have nd := w.nd
  rw [ads_app, List.nodup_append] at nd
  exact ⟨nd.1, fun q h => w.at_ _ (List.mem_append_left _ h)⟩
section
variable {K : PySem.W.Frag} {Os Os1 Os2 : Own} {Γ Γ' : Ctx} {te ta tb : TE} {A B C R : Den} {g : TG} {sa : TS} {M : Own → Den → Prop} {N : Own → Ctx → Prop} {O : Own → Den → Prop}
theorem EX.part (h : EX Os1 te Γ M) : EX (Os1 ++ Os2) te Γ (fun o r => ∃ o1, M o1 r ∧ o = o1 ++ Os2) := fun σ H0 H e s w Q q =>
  h σ H0 H e s w.left Q fun Os' R v H0' H' m gr hv => q _ R v H0' H' ⟨Os', m, rfl⟩ (gr.part w) hv
theorem sb_part (h : SB Os1 sa Γ N O) : SB (Os1 ++ Os2) sa Γ (fun o g => ∃ o1, N o1 g ∧ o = o1 ++ Os2) (fun o d => ∃ o1, O o1 d ∧ o = o1 ++ Os2) := fun σ H0 H D e s w qn qr =>
  h σ H0 H D e s w.left (fun Os' Γ' m σ' H1 H1' g1 e1 => qn _ _ ⟨Os', m, rfl⟩ σ' H1 H1' (g1.part w) e1) fun Os' R' m v H1 H1' g1 hv => qr _ _ ⟨Os', m, rfl⟩ v H1 H1' (g1.part w) hv
/-- self.f = what changes one's own -/
theorem sb_fldX {a C : Addr} {f : Str} (hv : EX Os tb Γ M) (c : Cls K C) (n : NoAttr K C f) (hm : ∀ o r, M o r → ∃ pre post fs, o = pre ++ (a, insO C fs) :: post ∧ fs.length < 1000 ∧ ED o ta Γ (valD (.ref a)) ∧ N (pre ++ (a, insO C (putD f r fs)) :: post) Γ) : SB Os (sFld K ta tb f) Γ N O := fun σ H0 H D e s w q _ =>
  hv σ H0 H e s w _ fun o r y H1 H1' m g1 hy => by
    obtain ⟨pre, post, fs, eo, hl, ho, hn⟩ := hm o r m
    subst eo
    refine ho σ H1 H1' (e.mono g1.s0) g1.sub g1.ow _ fun x H2 H2' g2 hx => ?_
    have ex : x = .ref a := hx
    subst ex
    have hmem : (a, insO C fs) ∈ pre ++ (a, insO C fs) :: post := List.mem_append_right _ List.mem_cons_self
    obtain ⟨na, _, eo, dx, us, po, hp⟩ := g2.ow.at_ _ hmem
    subst po
    refine ⟨a, C, dx, us, rfl, eo, c, n, by rw [← Paired.length hp]; exact hl, q _ _ hn σ H2 _ ((g1.trans g2).trans (grow_upd ?_ g2.sub g2.ow (fun p hq np => ?_) (fun p hq ep => ?_) (ads_mem hmem))) ((e.mono g1.s0).mono g2.s0)⟩
    · show List.map _ _ = List.map _ _
      rw [List.map_append, List.map_append]; rfl
    · rcases List.mem_append.mp hq with z | z
      · exact List.mem_append_left _ z
      · rcases List.mem_cons.mp z with z | z
        · subst z; exact absurd rfl np
        · exact List.mem_append_right _ (List.mem_cons_of_mem _ z)
    · have nd := g2.ow.nd
      rw [ads_app, List.nodup_append] at nd
      rcases List.mem_append.mp hq with z | z
      · exact absurd ep (nd.2.2 p.1 (ads_mem z) a List.mem_cons_self)
      · rcases List.mem_cons.mp z with z | z
        · subst z
          exact ⟨dx, _, rfl, putD_paired (r.mono g2.s0 hy) hp⟩
        · have nd2 : (a :: ads post).Nodup := nd.2.1
          exact absurd (by rw [← ep]; exact ads_mem z) (List.nodup_cons.mp nd2).1
end
section
variable {K : PySem.W.Frag} {Os : Own} {Γ : Ctx} {te : TE} {M : Own → Den → Prop}
/-- the last of one's own seen as kept for a while, while the others change -/
theorem ex_borrow {a : Addr} {O : Ow} {i : Nat} {D : Den} (kp : Keeps a O D) (hi : Γ[i]? = some (some (valD (.ref a)))) (hs : ∀ o r, M o r → Free a O r ∧ ∀ q, q ∈ o → ∀ H H' u, q.2.p H u → q.2.p H' u) (h : EX Os te (Γ.set i (some D)) M) : EX (Os ++ [(a, O)]) te Γ (fun o r => ∃ o1, M o1 r ∧ o = o1 ++ [(a, O)]) := fun σ H0 H e s w Q q => by
  have hmem : (a, O) ∈ Os ++ [(a, O)] := List.mem_append_right _ List.mem_cons_self
  obtain ⟨na, o, ea, po⟩ := w.at_ (a, O) hmem
  have nd := w.nd
  rw [ads_app, List.nodup_append] at nd
  have n1 : a ∉ ads Os := fun z => nd.2.2 a z a List.mem_cons_self rfl
  have s1 : Same H0 (upd H0 a o) := same_upd na
  have s2 : Same (upd H0 a o) H := fun b u hb => by
    by_cases z : b = a
    · subst z; rw [upd_same] at hb; cases hb; exact ea
    · rw [upd_ne z] at hb; exact s b u hb
  have w2 : Hold Os (upd H0 a o) H := ⟨nd.1, fun p hp => by
    obtain ⟨n, u, eu, pu⟩ := w.at_ p (List.mem_append_left _ hp)
    exact ⟨by rw [upd_ne (fun z => n1 (by rw [← z]; exact ads_mem hp))]; exact n, u, eu, p.2.mono s1 pu⟩⟩
  have e2 : Env (upd H0 a o) (Γ.set i (some D)) σ := by
    have z := (e.mono s1).set i (R := D) (v := .ref a) (kp _ o upd_same (O.mono s1 po))
    obtain ⟨x, hx, rx⟩ := e.get hi
    have ex : x = .ref a := rx
    subst ex
    have e3 : σ.set i (some (.ref a)) = σ := by
      apply List.ext_getElem?
      intro j
      by_cases hj : j = i
      · subst hj
        have hlt := (List.getElem?_eq_some_iff.mp hx).1
        rw [List.getElem?_set_self hlt, hx]
      · rw [List.getElem?_set_ne (Ne.symm hj)]
    rw [e3] at z
    exact z
  refine h σ _ H e2 s2 w2 Q fun o1 R v H1 H1' m g hv => ?_
  obtain ⟨fr, st⟩ := hs o1 R m
  have n3 : a ∉ ads o1 := fun z => by
    rcases g.nw a z with y | y
    · exact n1 y
    · rw [ea] at y; cases y
  refine q _ R v (er a H1) H1' ⟨o1, m, rfl⟩ ⟨fun b u hb => ?_, fun b u hb eb => ?_, fun b u hb => ?_, fun b u hb eb nb => ?_, ⟨?_, fun p hp => ?_⟩, fun b hb => ?_⟩ (fr H1 o v (g.s0 _ _ upd_same) ⟨_, po⟩ hv)
  · rw [er_ne (ne_of_none hb na)]
    exact g.s0 b u (s1 b u hb)
  · exact g.s1 b u (fun z => hb (by rw [ads_app]; exact List.mem_append_left _ z)) eb
  · by_cases z : b = a
    · subst z; rw [er_same] at hb; cases hb
    · rw [er_ne z] at hb; exact g.sub b u hb
  · have ne : b ≠ a := fun z => hb (by rw [z]; exact ads_mem hmem)
    rw [er_ne ne]
    exact g.fr b u (fun z => hb (by rw [ads_app]; exact List.mem_append_left _ z)) eb (by rw [upd_ne ne]; exact nb)
  · rw [ads_app, List.nodup_append]
    refine ⟨g.ow.nd, nd.2.1, fun b hb c hc z => ?_⟩
    have hc' : c = a := List.mem_singleton.mp hc
    exact n3 (by rw [← hc', ← z]; exact hb)
  · rcases List.mem_append.mp hp with z | z
    · obtain ⟨n, u, eu, pu⟩ := g.ow.at_ p z
      exact ⟨by unfold er; split <;> first | rfl | exact n, u, eu, st p z _ _ _ pu⟩
    · have ep := List.mem_singleton.mp z
      subst ep
      refine ⟨er_same, o, g.s1 a o n1 ea, O.mono (fun b u hb => ?_) po⟩
      rw [er_ne (ne_of_none hb na)]
      exact g.s0 b u (s1 b u hb)
  · rw [ads_app] at hb ⊢
    rcases List.mem_append.mp hb with z | z
    · exact (g.nw b z).imp (List.mem_append_left _) id
    · exact .inl (List.mem_append_right _ z)
theorem free_lst {a C : Addr} {fs : List (Str × Den)} {vs : List V} : Free a (insO C fs) (lstD (vs.map valD)) := fun H o v e ⟨H1, dx, us, eo, _⟩ ⟨b, ws, ev, eb, hf⟩ => by
  have e2 := Fits.vals hf
  subst e2
  refine ⟨b, ws, ev, ?_, Fits.of_vals _⟩
  rw [er_ne fun z => by rw [z, e, eo] at eb; cases eb]
  exact eb
end
section
variable {Os : Own} {Γ : Ctx}
/-- one's own forgotten, told less of, behind -/
theorem SB.wk {sa : TS} {N N' : Own → Ctx → Prop} {O : Own → Den → Prop} (h : SB Os sa Γ N' O) (hn : ∀ o g, N' o g → ∃ o2, N o2 g ∧ (∀ b, b ∈ ads o2 → b ∈ ads o) ∧ ∀ H0 H, Hold o H0 H → Hold o2 H0 H) : SB Os sa Γ N O := fun σ H0 H D e s w q r =>
  h σ H0 H D e s w (fun o g m σ' H0' H' gr e1 => by
    obtain ⟨o2, h1, h2, h3⟩ := hn o g m
    exact q o2 g h1 σ' H0' H' ⟨gr.s0, gr.s1, gr.sub, gr.fr, h3 _ _ gr.ow, fun b hb => gr.nw b (h2 b hb)⟩ e1) r
end
/-! ### new rows -/
section
variable {K : PySem.W.Frag} {Γ : Ctx} {te : TE} {wi1 wi2 : TI} {g1 g2 : TG}
open Classical in
theorem ex_rows {n m : Nat} {d1 d2 : Nat → Den} {Γ1 : Nat → Ctx} {Γ2 : Nat → Nat → Ctx} {vs1 vs2 is1 is2 : List Nat} (h1 : EI [] wi1 Γ (· = (List.range n).map d1)) (hg1 : ∀ i, i ∈ List.range n → GD g1 (wipeC Γ vs1) (d1 i) (Γ1 i) is1) (h2 : ∀ i, i ∈ List.range n → EI [] wi2 (Γ1 i) (· = (List.range m).map d2))
    (hg2 : ∀ i, i ∈ List.range n → ∀ j, j ∈ List.range m → GD g2 (wipeC (Γ1 i) vs2) (d2 j) (Γ2 i j) is2) (he : ∀ i, i ∈ List.range n → ∀ j, j ∈ List.range m → ED [] te (Γ2 i j) (intD 0)) (hv1 : (is1.all fun i => vs1.contains i) = true) (hv2 : (is2.all fun i => vs2.contains i) = true) (hn : n ≤ 100000) (hm : m ≤ 100000) :
    EX [] (tLc wi1 g1 tYes (tLc wi2 g2 tYes te vs2) vs1) Γ (fun o R => ∃ r, o = RO r n m (fun _ _ => 0) ∧ R = lstD ((List.range n).map fun i => valD (.ref (r i)))) := fun σ H0 Hs e s w Q q =>
  acc_walkG (Hz := Hs) (Os := []) (xs := List.range n) (o0 := .lst []) (bd := fun D σ2 H3 Nx => tLc wi2 g2 tYes te vs2 σ2 H3 fun y H4 => ∃ acc, H4 D = some (.lst acc) ∧ acc.length < sizeLine ∧ Nx (upd H4 D (.lst (acc ++ [y])))) (pb := fun _ b => b = true)
    (fun Hc pre o => Same Hs Hc ∧ ∃ as : List Addr, as.length = pre.length ∧ o = .lst (as.map V.ref) ∧ as.Nodup ∧ ∀ a, a ∈ as → Hs a = none ∧ Hc a = some (.lst ((List.range m).map fun _ => .int 0)))
    (fun sm ⟨h1, as, h2, h3, h4, h5⟩ => ⟨h1.trans sm, as, h2, h3, h4, fun a ha => ⟨(h5 a ha).1, sm _ _ (h5 a ha).2⟩⟩) (fun Hc sm => ⟨sm, [], rfl, rfl, List.nodup_nil, fun a ha => nomatch ha⟩) (eig_of h1.o hg1 hv1) (fun x hx => etp_yes)
    (fun H pre x o _ z _ => by cases z)
    (fun pre x post sp _ σ1 Hc H D o e1 s1 w1 nD nO eD ⟨sm, as, a1, a2, a3, a4⟩ Nx q1 => by
      subst a2
      have hx : x ∈ List.range n := by rw [sp]; exact List.mem_append_right _ List.mem_cons_self
      refine acc_lc (Os := []) (xs := List.range m) (p := fun _ => true) (f := fun _ => intD 0) (h2 x hx).o (hg2 x hx) (fun j _ => et_yes) (fun j hj _ => he x hx j hj) hv2 (by rw [List.length_range]; exact hm) σ1 Hc H e1 s1 w1 _ fun E us Hc' H' gr nE nOE nHE eE hf => ?_
      have eu : us = (List.range m).map fun _ => V.int 0 := by
        have e2 : (((List.range m).filter fun _ => true).map fun _ => Dn.intD 0) = ((List.range m).map fun _ => V.int 0).map valD := by rw [List.filter_eq_self.mpr (fun _ _ => rfl), List.map_map]; rfl
        rw [e2] at hf
        exact Fits.vals hf
      subst eu
      have hl : pre.length < n := by
        have := congrArg List.length sp
        rw [List.length_range, List.length_append, List.length_cons] at this
        omega
      have nE1 : Hs E = none := by
        cases z : Hs E with
        | none => rfl
        | some u => exact absurd (s1 _ _ (sm _ _ z)) (nHE u)
      refine ⟨_, gr.s1 _ _ (fun z => nomatch z) eD, sz_lt (by rw [List.length_map]; omega), q1 (upd Hc' E (.lst ((List.range m).map fun _ => .int 0))) H' _ (acc_keep gr nE nOE nHE eE) ⟨(sm.trans gr.s0).trans (same_upd nE), as ++ [E], by rw [List.length_append, List.length_append, a1]; rfl, by rw [List.map_append]; rfl, ?_, fun a ha => ?_⟩⟩
      · rw [List.nodup_append]
        refine ⟨a3, List.nodup_cons.mpr ⟨(fun z => nomatch z), List.nodup_nil⟩, fun a ha b hb z => ?_⟩
        rw [List.mem_singleton.mp hb] at z
        subst z
        exact nHE _ (s1 _ _ (a4 _ ha).2)
      · rcases List.mem_append.mp ha with z | z
        · exact ⟨(a4 a z).1, same_upd nE _ _ (gr.s0 _ _ (a4 a z).2)⟩
        · rw [List.mem_singleton.mp z]
          exact ⟨nE1, upd_same⟩) σ Hs Hs (.refl _) (e.mono s) (.refl _) .nil Q fun D o Hc H' gr n1 no nH eo ⟨sm, as, a1, a2, a3, a4⟩ => by
    subst a2
    rw [List.length_range] at a1
    have nD : Hs D = none := by
      cases z : Hs D with
      | none => rfl
      | some u => exact absurd z (nH u)
    have nDas : D ∉ as := fun z => by
      have := gr.sub _ _ (a4 _ z).2
      have e9 := (a4 _ z).2
      rw [n1] at e9
      cases e9
    -- what is kept
    let Hk : Hp := fun b => if (Hs b ≠ none ∧ H0 b = none) ∨ b ∈ as then none else if b = D then some (.lst (as.map V.ref)) else Hc b
    have k0 : Same H0 Hk := fun b u hb => by
      have hs := s _ _ hb
      have n1' : ¬ ((Hs b ≠ none ∧ H0 b = none) ∨ b ∈ as) := fun z => by
        rcases z with z | z
        · rw [z.2] at hb; cases hb
        · rw [(a4 b z).1] at hs; cases hs
      have n2 : b ≠ D := fun z => by rw [z, nD] at hs; cases hs
      show (if _ then none else if b = D then _ else Hc b) = _
      rw [if_neg n1', if_neg n2]
      exact sm _ _ hs
    have k1 : Same Hk H' := fun b u hb => by
      have hb' : (if (Hs b ≠ none ∧ H0 b = none) ∨ b ∈ as then none else if b = D then some (.lst (as.map V.ref)) else Hc b) = some u := hb
      by_cases z : (Hs b ≠ none ∧ H0 b = none) ∨ b ∈ as
      · rw [if_pos z] at hb'; cases hb'
      · rw [if_neg z] at hb'
        by_cases z2 : b = D
        · rw [if_pos z2] at hb'; cases hb'; rw [z2]; exact eo
        · rw [if_neg z2] at hb'; exact gr.sub _ _ hb'
    have hr : ∀ i, i < n → ∃ h : i < as.length, (fun i => (as[i]?).getD D) i = as[i] := fun i hi => ⟨by omega, by show (as[i]?).getD D = _; rw [List.getElem?_eq_getElem (by omega)]; rfl⟩
    have em : (List.range n).map (fun i => (as[i]?).getD D) = as := by
      apply List.ext_getElem?
      intro i
      rw [List.getElem?_map]
      by_cases hi : i < n
      · obtain ⟨h, e⟩ := hr i hi
        rw [List.getElem?_range hi, List.getElem?_eq_getElem h]
        exact congrArg some e
      · rw [List.getElem?_eq_none (by rw [List.length_range]; omega), List.getElem?_eq_none (by omega)]; rfl
    refine q _ _ _ Hk H' ⟨fun i => (as[i]?).getD D, rfl, rfl⟩ ⟨k0, fun b o _ hb => gr.s1 b o (fun z => nomatch z) hb, k1, fun b o _ hb n => ?_, ⟨?_, fun p hp => ?_⟩, fun b hb => .inr ?_⟩ ⟨D, as.map V.ref, rfl, ?_, ?_⟩
    · show (if _ then none else _) = none
      rw [if_pos (.inl ⟨(by rw [hb]; exact (fun z => nomatch z)), n⟩)]
    · rw [ads_RO, em]; exact a3
    · obtain ⟨i, hi, ep⟩ := List.mem_map.mp hp
      have hi' := List.mem_range.mp hi
      obtain ⟨h, e⟩ := hr i hi'
      have mem : as[i] ∈ as := List.getElem_mem h
      subst ep
      dsimp only at e ⊢
      rw [e]
      refine ⟨?_, _, gr.sub _ _ (a4 _ mem).2, rfl⟩
      show (if _ then none else _) = none
      rw [if_pos (.inr mem)]
    · rw [ads_RO, em] at hb
      exact (a4 b hb).1
    · show (if _ then none else if D = D then _ else Hc D) = _
      rw [if_neg (fun z => z.elim (fun z => z.1 nD) nDas), if_pos rfl]
    · have e5 : ((List.range n).map fun i => valD (.ref ((as[i]?).getD D))) = (as.map V.ref).map valD := by
        rw [List.map_map]
        have e6 : ((List.range n).map fun i => valD (.ref ((as[i]?).getD D))) = ((List.range n).map fun i => (as[i]?).getD D).map (valD ∘ V.ref) := by rw [List.map_map]; rfl
        rw [e6, em]
      rw [e5]
      exact Fits.of_vals _
end
end Dn
/-! VM -/
namespace Pr
open PySem PySem.Spec PyProof.Rows L2 Dn Rb Fl
theorem stays_nodO (x : Option Node) : Stays (nodO x) := by
  cases x with
  | none => exact stays_val
  | some y =>
    exact stays_tup fun R hR => by
      rcases List.mem_cons.mp hR with z | z
      · subst z; exact stays_val
      · rw [List.mem_singleton.mp z]; exact stays_val
theorem stays_opt (x : Option Nat) : Stays (optN x) := by cases x <;> exact stays_val
theorem stays_came (L : Tr) : Stays (cameD L) := stays_dct fun p hp => by
  obtain ⟨q, _, e⟩ := List.mem_map.mp hp
  subst e
  exact stays_nodO q.2
theorem stays_srch {s : StA} : Stays (exD (SrchOk s) fun r => tupD [cameD r.1, optN r.2]) := stays_ex fun r => stays_tup fun R hR => by
  rcases List.mem_cons.mp hR with z | z
  · subst z; exact stays_came _
  · rw [List.mem_singleton.mp z]; exact stays_opt _
/-- what a search reaches, of the rows -/
abbrev rowsL (L : Tr) : List Nat := (L.filter fun q => decide (((q.1.1 : Nat) : Int) = 0)).map fun q => q.1.2
section
variable {P : Program} {w : World} {K : PySem.W.Frag} {mg : Str → Option Value} {base : Heap}
abbrev FilSt := (Nat → Nat → Int) × Tr × Option Nat
abbrev filG (K : PySem.W.Frag) (s : StA) (r : Nat → Addr) (i : FilSt) : Dn.Ctx := [some (stR K s r), some (cameD i.2.1), some (optN i.2.2), none, none]
theorem srch_asg (T : Txt K mg) {s : StA} {r : Nat → Addr} {Γ : Dn.Ctx} {N : Own → Dn.Ctx → Prop} {O : Own → Den → Prop} (ok : okSt s) (h0 : Γ[0]? = some (some (stR K s r))) (hn : ∀ x, SrchOk s x → N (RO r s.n s.m s.f) ((Γ.set 1 (some (cameD x.1))).set 2 (some (optN x.2)))) :
    SB (RO r s.n s.m s.f) (tAsg (tMeth (C_Stream K) "searched" (DefSp (r_Stream_searched K)) [] E0 (tVar 0) tNil) (gTup K 2 (gCons (gName 1) (gCons (gName 2) gNil)))) Γ N O :=
  sb_asgGX (P := SrchOk s) (F := fun x => tupD [cameD x.1, optN x.2]) (ed_rows (i := 0) (s := s) h0 (fun q h => h) RO_all stays_srch (ed_methP (α := StA) s (ed_var (by rw [List.getElem?_set_self (List.getElem?_eq_some_iff.mp h0).1])) ea_nil ok)) (fun x _ => gd_tup2 gd_name gd_name) hn
abbrev r_Stream_fill (K : PySem.W.Frag) : List Den → Own → (Own → Den → Prop) → Prop := owN (fun a : StA × (Nat → Addr) => okSt a.1) (fun a => [stR K a.1 a.2]) (fun a => RO a.2 a.1.n a.1.m a.1.f) (fun a o R => ∃ f' L, Feas a.1.n a.1.m a.1.need a.1.room a.1.c f' ∧ Tree a.1.n a.1.m a.1.need a.1.c f' L ∧ Done a.1.n a.1.m a.1.room a.1.c f' L L.length ∧ o = RO a.2 a.1.n a.1.m f' ∧ R = lstD ((rowsL L).map fun i => intD (i : Nat)))
theorem ok_Stream_fill (T : Txt K mg) : FnOk P w K mg base CX0 3 (a_Stream_fill K) (fdOf K (a_Stream_fill K)) ["self"] (DefN (r_Stream_fill K)) := by
  refine owN_ok (F_Stream_fill T) sc_Stream_fill (fun _ => rfl) fun cdv A outer s H E hr => ⟨_, PSs.nox (pss_cons (ps_asg (pe_meth0 (pv 0) (c_Stream T) (m_Stream_searched T) (ok_Stream_searched T) (hr.mono (by decide)) (b_Stream_searched T) .nil pass0) (pg_tupK (K := K) (n := 2) rfl (pgs_cons (pg_name (i := 1) sc_Stream_fill.nd rfl (Or.inl rfl)) (pgs_cons (pg_name (i := 2) sc_Stream_fill.nd rfl (Or.inl rfl)) pgs_nil))))
  (pss_cons (ps_while PassesOwn.never (pt_cmpR op_notN (pv 2) pe_non (nomark _))
  (pss_cons (ps_expr (pe_meth (pv 0) (c_Stream T) (m_Stream_push T) (ok_Stream_push T) (hr.mono (by decide)) (b_Stream_push T) .nil pass0 (pa_cons (pv 1) (pa_cons (pv 2) pa_nil))))
  (pss_one (ps_asg (pe_meth0 (pv 0) (c_Stream T) (m_Stream_searched T) (ok_Stream_searched T) (hr.mono (by decide)) (b_Stream_searched T) .nil pass0) (pg_tupK (K := K) (n := 2) rfl (pgs_cons (pg_name (i := 1) sc_Stream_fill.nd rfl (Or.inl rfl)) (pgs_cons (pg_name (i := 2) sc_Stream_fill.nd rfl (Or.inl rfl)) pgs_nil)))))))
  (pss_one (ps_ret (pe_lc (own := [("side", 3), ("place", 4)]) (by rfl) sc_Stream_fill.nd (pi_keys (pv 1)) (blkOk_by (N := n_Stream_fill) (sc := defScope s_Stream_fill) (by decide +kernel)) (fun _ _ _ _ _ => (pg_tupK (K := K) (n := 2) rfl (pgs_cons (pg_name (i := 3) sc_Stream_fill.nd rfl (Or.inl rfl)) (pgs_cons (pg_name (i := 4) sc_Stream_fill.nd rfl (Or.inl rfl)) pgs_nil)))) (fun _ _ _ _ _ => (pts_one (pt_cmpR op_eq (pv 3) (pe_glob rfl (gt_ROW T) (rx_ROW T)) (nomark _)))) (fun _ _ _ _ _ => (pv 4))))))), ?_⟩
  rintro ⟨s, r⟩ ok
  dsimp only at ok ⊢
  have hn := ok.n
  have hm := ok.m
  refine sb_seqG (M := fun o g => ∃ x, SrchOk s x ∧ o = RO r s.n s.m s.f ∧ g = filG K s r (s.f, x.1, x.2)) (srch_asg T ok rfl fun x hx => ⟨x, hx, rfl, rfl⟩) fun o g m => ?_
  obtain ⟨x, hx, rfl, rfl⟩ := m
  have tot : ∀ f', Feas s.n s.m s.need s.room s.c f' → total s.n s.m f' ≤ sumN s.need s.n := fun f' F => sumN_le fun i hi => F.row i hi
  refine sb_seqG (M := fun o g => ∃ f' L, Feas s.n s.m s.need s.room s.c f' ∧ Tree s.n s.m s.need s.c f' L ∧ Done s.n s.m s.room s.c f' L L.length ∧ o = RO r s.n s.m f' ∧ g = filG K s r (f', L, none)) (sb_while (ι := FilSt) (Oz := fun i => RO r s.n s.m i.1) (Γs := fun i => filG K s r i) (μ := fun i => (sumN s.need s.n - total s.n s.m i.1).toNat) (I := fun i => Feas s.n s.m s.need s.room s.c i.1 ∧ SrchOk (withF s i.1) i.2) (s.f, x.1, x.2) ⟨ok.feas, hx⟩ rfl .refl (fun i => ads_RO.trans ads_RO.symm) ?_) fun o g m => ?_
  · rintro ⟨f', L, co⟩ ⟨hF, hS⟩
    dsimp only at hF hS
    have ok' : okSt (withF s f') := ⟨hn, hm, hF⟩
    cases co with
    | none => exact ⟨false, et_test (ed_op (ed_var rfl) ed_c od_notN), fun _ => ⟨f', L, hF, hS.1, hS.2, rfl, rfl⟩, fun z => nomatch z⟩
    | some j =>
      refine ⟨true, et_test (ed_op (ed_var rfl) ed_c (od_notN' (A := intD (j : Nat)) notN_int)), (fun z => nomatch z), fun _ => ?_⟩
      refine sb_seqG (M := fun o g => ∃ f2, Feas s.n s.m s.need s.room s.c f2 ∧ total s.n s.m f' + 1 ≤ total s.n s.m f2 ∧ o = RO r s.n s.m f2 ∧ g = filG K s r (f', L, some j)) (sb_dropX (ex_methN (M := fun o R => R = nonD ∧ ∃ f2, Feas s.n s.m s.need s.room s.c f2 ∧ total s.n s.m f' + 1 ≤ total s.n s.m f2 ∧ o = RO r s.n s.m f2) (C := C_Stream K) (ed_var (R := stR K (withF s f') r) rfl) rfl (ea_cons (ed_var rfl) (ea_cons (ed_var rfl) ea_nil)) ⟨(withF s f', r, L, j), ⟨ok', hS⟩, rfl, rfl, rfl⟩) fun o R m => ?_) fun o g m => ?_
      · obtain ⟨_, f2, h1, h2, h3⟩ := m
        exact ⟨f2, h1, h2, h3, rfl⟩
      · obtain ⟨f2, hF2, ht, rfl, rfl⟩ := m
        refine srch_asg (s := withF s f2) T ⟨hn, hm, hF2⟩ rfl fun y hy => ⟨(f2, y.1, y.2), ⟨hF2, hy⟩, ?_, rfl, .refl⟩
        have t1 := tot f2 hF2
        show (sumN s.need s.n - total s.n s.m f2).toNat < (sumN s.need s.n - total s.n s.m f').toNat
        omega
  · obtain ⟨f', L, hF, hT, hD, rfl, rfl⟩ := m
    have hl := tree_len hT
    refine sb_ret (R := lstD ((L.filter fun q => decide (((q.1.1 : Nat) : Int) = 0)).map fun q => intD (q.1.2 : Nat))) (ed_lcG (xs := L) (p := fun q => decide (((q.1.1 : Nat) : Int) = 0)) (f := fun q => intD (q.1.2 : Nat)) (eig_keysT (k1 := fun q : Node × Option Node => Sum.inl ((q.1.1 : Nat) : Int)) (k2 := fun q => Sum.inl ((q.1.2 : Nat) : Int)) (f := fun q => nodO q.2) (ed_var rfl)) (fun q _ => et_test (ed_op (ed_var rfl) ed_c od_eqI)) (fun q _ _ => ed_var rfl) (by omega)) ⟨_, ⟨f', L, hF, hT, hD, rfl, rfl⟩, fun H v hv => ?_⟩
    rw [List.map_map]
    exact hv
/-- what is reached closes what needs -/
def ReachOk (s : StA) (l : List Nat) : Prop := ∃ f' L, Feas s.n s.m s.need s.room s.c f' ∧ Tree s.n s.m s.need s.c f' L ∧ Done s.n s.m s.room s.c f' L L.length ∧ l = rowsL L
abbrev stN (n m : Nat) (need room : Nat → Int) (c : Nat → Nat → Int) : StA := ⟨n, m, need, room, c, fun _ _ => 0⟩
abbrev strZ (s : StA) : List (Str × Den) := strF s anyD ++ [(("own_reached" : Str), exD (ReachOk s) fun l => lstD (l.map fun i => intD (i : Nat)))]
abbrev r_Stream_init (K : PySem.W.Frag) : List Den → Own → Own → Den → Prop := ow (fun a : Addr × StA => okSt a.2 ∧ a.2.f = fun _ _ => 0) (fun a => [valD (.ref a.1), vecD a.2.n a.2.need, vecD a.2.m a.2.room, matD a.2.n a.2.m a.2.c]) (fun a => [(a.1, insO (C_Stream K) [])]) (fun a => [(a.1, insO (C_Stream K) (strZ a.2))]) (fun _ => nonD)
theorem ok_Stream_init (T : Txt K mg) : FnOk P w K mg base CX0 4 (a_Stream_init K) (fdOf K (a_Stream_init K)) ["self", "needs", "rooms", "caps"] (DefSp (r_Stream_init K)) := by
  refine ow_ok (F_Stream_init T) sc_Stream_init (fun _ => rfl) fun cdv A outer s H E hr => ⟨_, PSs.nox (pss_cons (ps_fld (pv 0) (pv 1) rfl)
  (pss_cons (ps_fld (pv 0) (pv 2) rfl)
  (pss_cons (ps_fld (pv 0) (pv 3) rfl)
  (pss_cons (ps_fld (pv 0) (pe_lc (own := [("need", 4)]) (by rfl) sc_Stream_init.nd (pi_listK (K := K) (pv 1)) (blkOk_by (N := n_Stream_init) (sc := defScope s_Stream_init) (by decide +kernel)) (fun _ _ _ _ _ => (pg_name (i := 4) sc_Stream_init.nd rfl (Or.inl rfl))) (fun _ _ _ _ _ => pts_nil) (fun _ _ _ _ _ => (pe_lc (own := [("room", 5)]) (by rfl) sc_Stream_init.nd (pi_listK (K := K) (pv 2)) (blkOk_by (N := n_Stream_init) (sc := relS _ (defScope s_Stream_init)) (by decide +kernel)) (fun _ _ _ _ _ => (pg_name (i := 5) sc_Stream_init.nd rfl (Or.inl rfl))) (fun _ _ _ _ _ => pts_nil) (fun _ _ _ _ _ => pe_int)))) rfl)
  (pss_one (ps_fld (pv 0) (pe_meth0 (pv 0) (c_Stream T) (m_Stream_fill T) (ok_Stream_fill T) (hr.mono (by decide)) (b_Stream_fill T) .nil pass0) rfl)))))), ?_⟩
  rintro ⟨x, s⟩ ⟨ok, ef⟩
  dsimp only at ok ef ⊢
  have hn := ok.n
  have hm := ok.m
  refine sb_seq (sb_fld (B := vecD s.n s.need) (ed_var rfl) (ed_var rfl) (c_Stream T) (na_Stream_own_needs T) (by show 0 < 1000; omega)) ?_
  refine sb_seq (sb_fld (B := vecD s.m s.room) (ed_var rfl) (ed_var rfl) (c_Stream T) (na_Stream_own_rooms T) (by show 1 < 1000; omega)) ?_
  refine sb_seq (sb_fld (B := matD s.n s.m s.c) (ed_var rfl) (ed_var rfl) (c_Stream T) (na_Stream_own_caps T) (by show 2 < 1000; omega)) ?_
  refine sb_seqG (M := fun o g => ∃ r, o = RO r s.n s.m s.f ++ [(x, insO (C_Stream K) (strF s (refsD s.n r)))] ∧ g = ctx n_Stream_init.length [valD (.ref x), vecD s.n s.need, vecD s.m s.room, matD s.n s.m s.c]) (sb_fldX (a := x) (C := C_Stream K) (EX.part (Os1 := []) (ex_rows (n := s.n) (m := s.m) (d1 := fun i => intD (s.need i)) (d2 := fun j => intD (s.room j)) (ei_list (ed_var rfl)) (fun i _ => gd_name) (fun i _ => ei_list (ed_var rfl)) (fun i _ j _ => gd_name) (fun i _ j _ => ed_c) (by decide) (by decide) (by omega) (by omega))) (c_Stream T) (na_Stream_own_flows T) fun o R m => ?_) fun o g m => ?_
  · obtain ⟨o1, ⟨r, rfl, rfl⟩, rfl⟩ := m
    refine ⟨RO r s.n s.m fun _ _ => 0, [], _, rfl, (by show 3 < 1000; omega), ed_var rfl, r, ?_, rfl⟩
    rw [ef]
    rfl
  · obtain ⟨r, rfl, rfl⟩ := m
    refine SB.wk (N' := fun o g => ∃ r' f' L, Feas s.n s.m s.need s.room s.c f' ∧ Tree s.n s.m s.need s.c f' L ∧ Done s.n s.m s.room s.c f' L L.length ∧ o = RO r' s.n s.m f' ++ [(x, insO (C_Stream K) (strF s (refsD s.n r) ++ [(("own_reached" : Str), lstD ((rowsL L).map fun i => intD (i : Nat)))]))]) (sb_fldX (a := x) (C := C_Stream K) (ex_borrow (i := 0) (D := stR K s r) (M := fun o R => ∃ f' L, Feas s.n s.m s.need s.room s.c f' ∧ Tree s.n s.m s.need s.c f' L ∧ Done s.n s.m s.room s.c f' L L.length ∧ o = RO r s.n s.m f' ∧ R = lstD ((rowsL L).map fun i => intD (i : Nat))) keeps_ins rfl (fun o R m => ?_) (ex_methN (C := C_Stream K) (ed_var (R := stR K s r) rfl) rfl ea_nil ⟨(s, r), ok, rfl, rfl, rfl⟩)) (c_Stream T) (na_Stream_own_reached T) fun o R m => ?_) fun o g m => ?_
    · obtain ⟨f', L, _, _, _, rfl, rfl⟩ := m
      refine ⟨?_, fun q hq H H' u h => ?_⟩
      · have e : ((rowsL L).map fun i => Dn.intD (i : Nat)) = ((rowsL L).map fun i => V.int (i : Nat)).map valD := (List.map_map (g := valD) (f := fun i : Nat => V.int i) (l := rowsL L)).symm
        rw [e]
        exact free_lst
      · obtain ⟨i, _, rfl⟩ := List.mem_map.mp hq
        exact h
    · obtain ⟨o1, ⟨f', L, h1, h2, h3, rfl, rfl⟩, rfl⟩ := m
      exact ⟨RO r s.n s.m f', [], _, rfl, (by show 4 < 1000; omega), ed_var rfl, r, f', L, h1, h2, h3, rfl⟩
    · obtain ⟨r', f', L, h1, h2, h3, rfl⟩ := m
      refine ⟨_, ⟨rfl, Sub.refl⟩, fun b hb => ?_, fun H0 H w => ⟨List.nodup_cons.mpr ⟨(fun z => nomatch z), List.nodup_nil⟩, fun q hq => ?_⟩⟩
      · rw [ads_app]; exact List.mem_append_right _ hb
      · rw [List.mem_singleton.mp hq]
        obtain ⟨n, o, eo, dx, us, po, hp⟩ := w.at_ _ (List.mem_append_right _ List.mem_cons_self)
        refine ⟨n, o, eo, dx, us, po, ?_⟩
        cases hp with
        | cons r1 t1 => cases t1 with
          | cons r2 t2 => cases t2 with
            | cons r3 t3 => cases t3 with
              | cons r4 t4 => cases t4 with
                | cons r5 t5 =>
                  cases t5
                  exact .cons r1 (.cons r2 (.cons r3 (.cons ⟨r4.1, trivial⟩ (.cons ⟨r5.1, rowsL L, ⟨f', L, h1, h2, h3, rfl⟩, r5.2⟩ .nil))))
end
end Pr
/-! VN -/
namespace Pr
open PySem PySem.Spec PyProof.Rows L2 Dn Rb Fl
def nth {α β : Type} (l : List α) (f : α → β) (z : β) (i : Nat) : β := ((l.map f)[i]?).getD z
theorem nth_lt {α β : Type} {l : List α} {f : α → β} {z : β} {i : Nat} {x : α} (h : l[i]? = some x) : nth l f z i = f x := by
  unfold nth
  rw [List.getElem?_map, h]
  rfl
theorem nth_last {α β : Type} {l : List α} {f : α → β} {z : β} {i : Nat} (h : l.length ≤ i) : nth l f z i = z := by
  unfold nth
  rw [List.getElem?_eq_none (by rw [List.length_map]; exact h)]
  rfl
theorem nth_range {α β γ : Type} {l : List α} {f : α → β} {z : β} (g : β → γ) : (List.range (l.length + 1)).map (fun i => g (nth l f z i)) = l.map (fun x => g (f x)) ++ [g z] := by
  apply List.ext_getElem?
  intro i
  rw [List.getElem?_map]
  by_cases h : i < l.length
  · rw [List.getElem?_range (by omega), List.getElem?_append_left (by rw [List.length_map]; exact h), List.getElem?_map, List.getElem?_eq_getElem h]
    show some (g (nth l f z i)) = some (g (f l[i]))
    rw [nth_lt (List.getElem?_eq_getElem h)]
  · by_cases h2 : i = l.length
    · subst h2
      rw [List.getElem?_range (by omega), List.getElem?_append_right (by rw [List.length_map]; exact Nat.le_refl _), List.length_map, Nat.sub_self]
      show some (g (nth l f z l.length)) = some (g z)
      rw [nth_last (Nat.le_refl _)]
    · rw [List.getElem?_eq_none (by rw [List.length_range]; omega), List.getElem?_eq_none (by rw [List.length_append, List.length_map, List.length_singleton]; omega)]
      rfl
theorem nth_all {α : Type} {l : List α} {f : α → Int} {z : Int} (h : ∀ x, x ∈ l → 0 ≤ f x) (hz : 0 ≤ z) (i : Nat) : 0 ≤ nth l f z i := by
  cases e : l[i]? with
  | some x => rw [nth_lt e]; exact h x (List.mem_of_getElem? e)
  | none => rw [nth_last (List.getElem?_eq_none_iff.mp e)]; exact hz
/-- rows: told names, then all new ones -/
abbrev mostZ (d : DeA) (mine : Int) : Int := ((d.names.length : Nat) : Int) + mine
def rowC (d : DeA) (others : Int) (n : Str) : Nat → Int := nth d.others (fun o => if (!decide ((n, o) ∈ d.told)) = true then 1 else 0) others
def demSt (d : DeA) (mine others : Int) : StA where
  n := d.names.length + 1
  m := d.others.length + 1
  need := nth d.names (needZ d) (mine * d.least)
  room := nth d.others (fun o => max 0 (roomZ d o (mostZ d mine))) (others * newZ d (mostZ d mine))
  c := nth d.names (rowC d others) (nth d.others (fun _ => mine) (mine * others))
  f := fun _ _ => 0
structure CutA where
  d : DeA
  mine : Int
  others : Int
structure okCA (a : CutA) : Prop where
  d : okDe a.d
  m : 0 ≤ a.mine ∧ a.mine ≤ 10 ^ 50
  o : 0 ≤ a.others ∧ a.others ≤ 10 ^ 50
theorem newZ_pos {d : DeA} (h : okDe d) {most : Int} (hm : 0 ≤ most) : 0 ≤ newZ d most := by
  unfold newZ
  cases ht : d.top with
  | none => exact hm
  | some k => have := h.t k ht; dsimp only; omega
theorem rowC_pos {d : DeA} {o : Int} (h : 0 ≤ o) (n : Str) (j : Nat) : 0 ≤ rowC d o n j := nth_all (fun x _ => by split <;> omega) h j
theorem demSt_ok {a : CutA} (h : okCA a) : okSt (demSt a.d a.mine a.others) := by
  have h1 := h.d.n
  have h2 := h.d.o
  have h3 := h.m
  have h4 := h.o
  have h5 := h.d.l
  have cp : ∀ i j, 0 ≤ (demSt a.d a.mine a.others).c i j := fun i j => by
    show 0 ≤ nth a.d.names (rowC a.d a.others) _ i j
    cases e : a.d.names[i]? with
    | some x => rw [nth_lt e]; exact rowC_pos h4.1 x j
    | none => rw [nth_last (List.getElem?_eq_none_iff.mp e)]; exact nth_all (fun _ _ => h3.1) (Int.mul_nonneg h3.1 h4.1) j
  refine ⟨by show _ + 1 ≤ 100; omega, by show _ + 1 ≤ 100; omega, fun _ _ _ _ => Int.le_refl _, fun i j _ _ => cp i j, fun i _ => ?_, fun j _ => ?_⟩
  · show sumN (fun _ => 0) _ ≤ _
    rw [sumN_zero (fun _ _ => rfl)]
    exact nth_all (fun x _ => by unfold needZ; omega) (Int.mul_nonneg h3.1 h5.1) i
  · show sumN (fun _ => 0) _ ≤ _
    rw [sumN_zero (fun _ _ => rfl)]
    exact nth_all (fun x _ => by omega) (Int.mul_nonneg h4.1 (newZ_pos h.d (by show 0 ≤ ((a.d.names.length : Nat) : Int) + a.mine; omega))) j
section
variable {P : Program} {w : World} {K : PySem.W.Frag} {mg : Str → Option Value} {base : Heap}
theorem ed_ntold {te ta tb : TE} {Γ : Dn.Ctx} {Os : Own} {a b : Str} {l : List Pr2} (ha : ED Os ta Γ (strD a)) (hb : ED Os tb Γ (strD b)) (h : ED Os te Γ (ptD l)) : ED Os (tDNotIn (tTup (tCons ta (tCons tb tNil))) te) Γ (blD (!decide ((a, b) ∈ l))) :=
  (ed_dninT (k := [Sum.inr a, Sum.inr b]) (key_tup [Sum.inr a, Sum.inr b]) (ed_tup (ea_cons ha (ea_cons hb ea_nil))) h).cast (by rw [look_pt])
abbrev strmD (K : PySem.W.Frag) (a : CutA) : Den := insD (C_Stream K) (strZ (demSt a.d a.mine a.others))
abbrev r_Demand_stream (K : PySem.W.Frag) : List Den → Own → Own → Den → Prop := pu okCA (fun a => [demD K a.d, intD a.mine, intD a.others]) (fun a => strmD K a)
theorem ok_Demand_stream (T : Txt K mg) : FnOk P w K mg base CX0 6 (a_Demand_stream K) (fdOf K (a_Demand_stream K)) ["self", "mine", "others"] (DefSp (r_Demand_stream K)) := by
  refine ow_ok (F_Demand_stream T) sc_Demand_stream (fun _ => rfl) fun cdv A outer s H E hr => ⟨_, PSs.nox (pss_cons (ps_set (i := 3) sc_Demand_stream.nd rfl (Or.inr rfl) (pe_op op_add (pe_callB (call_lenK (K := K)) (by rfl) (z_len T) boot_len (pa_cons (pe_fldK (K := K) (pv 0)) pa_nil)) (pv 1)))
  (pss_cons (ps_set (i := 4) sc_Demand_stream.nd rfl (Or.inl rfl) (pe_op op_cat (pe_lc (own := [("name", 7)]) (by rfl) sc_Demand_stream.nd (pi_listK (K := K) (pe_fldK (K := K) (pv 0))) (blkOk_by (N := n_Demand_stream) (sc := defScope s_Demand_stream) (by decide +kernel)) (fun _ _ _ _ _ => (pg_name (i := 7) sc_Demand_stream.nd rfl (Or.inl rfl))) (fun _ _ _ _ _ => pts_nil) (fun _ _ _ _ _ => (pe_meth (pv 0) (c_Demand T) (m_Demand_need T) (ok_Demand_need T) (hr.mono (by decide)) (b_Demand_need T) .nil pass0 (pa_cons (pv 7) pa_nil)))) (pe_lst (pa_cons (pe_op op_mulW (pv 1) (pe_fldK (K := K) (pv 0))) pa_nil))))
  (pss_cons (ps_set (i := 5) sc_Demand_stream.nd rfl (Or.inl rfl) (pe_op op_cat (pe_lc (own := [("other", 8)]) (by rfl) sc_Demand_stream.nd (pi_listK (K := K) (pe_fldK (K := K) (pv 0))) (blkOk_by (N := n_Demand_stream) (sc := defScope s_Demand_stream) (by decide +kernel)) (fun _ _ _ _ _ => (pg_name (i := 8) sc_Demand_stream.nd rfl (Or.inl rfl))) (fun _ _ _ _ _ => pts_nil) (fun _ _ _ _ _ => (pe_callB (call_max2 rfl) (by rfl) (z_max T) boot_max (pa_cons pe_int (pa_cons (pe_meth (pv 0) (c_Demand T) (m_Demand_room_at T) (ok_Demand_room_at T) (hr.mono (by decide)) (b_Demand_room_at T) .nil pass0 (pa_cons (pv 8) (pa_cons (pv 3) pa_nil))) pa_nil))))) (pe_lst (pa_cons (pe_op op_mulW (pv 2) (pe_meth (pv 0) (c_Demand T) (m_Demand_new_room T) (ok_Demand_new_room T) (hr.mono (by decide)) (b_Demand_new_room T) .nil pass0 (pa_cons (pv 3) pa_nil))) pa_nil))))
  (pss_cons (ps_set (i := 6) sc_Demand_stream.nd rfl (Or.inl rfl) (pe_lst pa_nil))
  (pss_cons (ps_for PassesOwn.never rfl (pi_listK (K := K) (pe_fldK (K := K) (pv 0))) (pg_name (i := 7) sc_Demand_stream.nd rfl (Or.inr rfl))
  (pss_one (ps_expr (pe_bm PySem.F.plainAttrs_list PySem.F.slot_list_append PySem.F.type_list_append mt_append (pv 6) (pa_cons (pe_op op_cat (pe_lc (own := [("other", 8)]) (by rfl) sc_Demand_stream.nd (pi_listK (K := K) (pe_fldK (K := K) (pv 0))) (blkOk_by (N := n_Demand_stream) (sc := defScope s_Demand_stream) (by decide +kernel)) (fun _ _ _ _ _ => (pg_name (i := 8) sc_Demand_stream.nd rfl (Or.inl rfl))) (fun _ _ _ _ _ => pts_nil) (fun _ _ _ _ _ => (pe_callTy call_int1 (by rfl) (z_int T) boot_int (pa_cons (pe_cmp (pc_dnotin (rm1 hr) (pe_tup (pa_cons (pv 7) (pa_cons (pv 8) pa_nil))) (pe_fldK (K := K) (pv 0)))) pa_nil)))) (pe_lst (pa_cons (pv 2) pa_nil))) pa_nil)))))
  (pss_cons (ps_expr (pe_bm PySem.F.plainAttrs_list PySem.F.slot_list_append PySem.F.type_list_append mt_append (pv 6) (pa_cons (pe_op op_cat (pe_lc (own := [("other", 8)]) (by rfl) sc_Demand_stream.nd (pi_listK (K := K) (pe_fldK (K := K) (pv 0))) (blkOk_by (N := n_Demand_stream) (sc := defScope s_Demand_stream) (by decide +kernel)) (fun _ _ _ _ _ => (pg_name (i := 8) sc_Demand_stream.nd rfl (Or.inl rfl))) (fun _ _ _ _ _ => pts_nil) (fun _ _ _ _ _ => (pv 1))) (pe_lst (pa_cons (pe_op op_mulW (pv 1) (pv 2)) pa_nil))) pa_nil)))
  (pss_one (ps_ret (pe_make (mk_Stream T) (ok_Stream_init T) (hr.mono (by decide)) rfl (g_Stream T) (b_Stream_init T) .nil pass0 (pa_cons (pv 4) (pa_cons (pv 5) (pa_cons (pv 6) pa_nil)))))))))))), ?_⟩
  intro a h
  have hok := demSt_ok h
  obtain ⟨d, mine, others⟩ := a
  have hd := h.d
  have hm := h.m
  have ho := h.o
  have hl := hd.l
  have hn1 := hd.n
  have hn2 := hd.o
  dsimp only at hd hm ho hl hn1 hn2 hok ⊢
  have nz := newZ_sm hd (most := mostZ d mine) (by show 0 ≤ ((d.names.length : Nat) : Int) + mine ∧ ((d.names.length : Nat) : Int) + mine ≤ 10 ^ 51; omega)
  have em : sm mine := by unfold sm; omega
  have eo : sm others := by unfold sm; omega
  have el : sm d.least := by unfold sm; omega
  refine sb_seq (sb_asg (A := intD (mostZ d mine)) (ed_op ((ed_cb (ea_cons (ed_fld (ed_var rfl) (c_Demand T) (na_Demand_own_names T) rfl) ea_nil) (cd_len (by rw [List.length_map]; omega))).cast (by rw [List.length_map])) (ed_var rfl) od_add)) ?_
  refine sb_seq (sb_asg (A := vecD (demSt d mine others).n (demSt d mine others).need) (ED.cast (ed_op (ed_lc0 (f := fun n => intD (needZ d n)) (ei_list (ed_fld (ed_var rfl) (c_Demand T) (na_Demand_own_names T) rfl)) (fun n _ => gd_name) (fun n _ => ed_methP (α := DeA × Str) (d, n) (ed_var rfl) (ea_cons (ed_var rfl) ea_nil) hd) (by decide) (by omega)) (ed_lst (ea_cons (ed_op (ed_var rfl) (ed_fld (ed_var rfl) (c_Demand T) (na_Demand_own_least T) rfl) (od_mulW em el)) ea_nil)) (od_cat (by rw [List.length_map, List.length_singleton]; omega))) (congrArg lstD (nth_range (fun i => Dn.intD i)).symm))) ?_
  refine sb_seq (sb_asg (A := vecD (demSt d mine others).m (demSt d mine others).room) (ED.cast (ed_op (ed_lc0 (f := fun o => intD (max 0 (roomZ d o (mostZ d mine)))) (ei_list (ed_fld (ed_var rfl) (c_Demand T) (na_Demand_own_others T) rfl)) (fun n _ => gd_name) (fun o _ => ed_cb (ea_cons ed_c (ea_cons (ed_methP (α := DeA × Str × Int) (d, o, mostZ d mine) (ed_var rfl) (ea_cons (ed_var rfl) (ea_cons (ed_var rfl) ea_nil)) hd) ea_nil)) cd_max) (by decide) (by omega)) (ed_lst (ea_cons (ed_op (ed_var rfl) (ed_methP (α := DeA × Int) (d, mostZ d mine) (ed_var rfl) (ea_cons (ed_var rfl) ea_nil) hd) (od_mulW eo nz)) ea_nil)) (od_cat (by rw [List.length_map, List.length_singleton]; omega))) (congrArg lstD (nth_range (fun i => Dn.intD i)).symm))) ?_
  refine sb_seqG (M := fun o g => ∃ c, o = [(c, lstO [])] ∧ g = [some (demD K d), some (intD mine), some (intD others), some (intD (mostZ d mine)), some (vecD (demSt d mine others).n (demSt d mine others).need), some (vecD (demSt d mine others).m (demSt d mine others).room), some (valD (.ref c)), none, none]) (sb_new (Rs := []) ea_nil fun c => ⟨c, rfl, rfl⟩) fun o g m => ?_
  obtain ⟨c, rfl, rfl⟩ := m
  refine sb_seq (sb_forP (xs := d.names) (d := fun x => strD x) (Oz := fun pre => [(c, lstO (pre.map fun n => vecD (d.others.length + 1) (rowC d others n)))]) (Γs := fun _ => [some (demD K d), some (intD mine), some (intD others), some (intD (mostZ d mine)), some (vecD (demSt d mine others).n (demSt d mine others).need), some (vecD (demSt d mine others).m (demSt d mine others).room), some (valD (.ref c)), none, none]) (ei_list (ed_fld (ed_var rfl) (c_Demand T) (na_Demand_own_names T) rfl)) rfl (fun _ => rfl) .refl (fun pre n post sp => ⟨_, _, gd_name, ?_⟩)) ?_
  · have lp : pre.length < 60 := by
      have := congrArg List.length sp
      rw [List.length_append, List.length_cons] at this
      omega
    have e3 : ((pre ++ [n]).map fun n => vecD (d.others.length + 1) (rowC d others n)) = (pre.map fun n => vecD (d.others.length + 1) (rowC d others n)) ++ [vecD (d.others.length + 1) (rowC d others n)] := by rw [List.map_append]; rfl
    rw [e3]
    exact SB.less (sb_app (A := vecD (d.others.length + 1) (rowC d others n)) (ed_var rfl) (ea_cons (ED.cast (ed_op (ed_lc0 (f := fun o => intD (if (!decide ((n, o) ∈ d.told)) = true then 1 else 0)) (ei_list (ed_fld (ed_var rfl) (c_Demand T) (na_Demand_own_others T) rfl)) (fun n _ => gd_name) (fun o _ => ed_cb (ea_cons (ed_ntold (ed_var rfl) (ed_var rfl) (ed_fld (ed_var rfl) (c_Demand T) (na_Demand_own_told T) rfl)) ea_nil) cd_intB) (by decide) (by omega)) (ed_lst (ea_cons (ed_var rfl) ea_nil)) (od_cat (by rw [List.length_map, List.length_singleton]; omega))) (congrArg lstD (nth_range (fun i => Dn.intD i)).symm)) ea_nil) (by rw [List.length_map]; omega)) (.keep (.keep (.keep (.keep (.keep (.keep (.keep (.drop (.drop .nil)))))))))
  refine sb_seq (sb_app (A := vecD (d.others.length + 1) (nth d.others (fun _ => mine) (mine * others))) (ed_var rfl) (ea_cons (ED.cast (ed_op (ed_lc0 (f := fun o => intD mine) (ei_list (ed_fld (ed_var rfl) (c_Demand T) (na_Demand_own_others T) rfl)) (fun n _ => gd_name) (fun o _ => ed_var rfl) (by decide) (by omega)) (ed_lst (ea_cons (ed_op (ed_var rfl) (ed_var rfl) (od_mulW em eo)) ea_nil)) (od_cat (by rw [List.length_map, List.length_singleton]; omega))) (congrArg lstD (nth_range (fun i => Dn.intD i)).symm)) ea_nil) (by rw [List.length_map]; omega)) ?_
  have e4 : (d.names.map fun n => vecD (d.others.length + 1) (rowC d others n)) ++ [vecD (d.others.length + 1) (nth d.others (fun _ => mine) (mine * others))] = (List.range (d.names.length + 1)).map fun i => vecD (d.others.length + 1) ((demSt d mine others).c i) := (nth_range (fun g => vecD (d.others.length + 1) g)).symm
  rw [e4]
  refine sb_keep keeps_lst (i := 6) rfl ?_
  exact sb_ret (ed_make (C := C_Stream K) (rel := r_Stream_init K) (ea_cons (ed_var rfl) (ea_cons (ed_var rfl) (ea_cons (ed_var rfl) ea_nil))) fun x => ⟨(x, demSt d mine others), ⟨hok, rfl⟩, rfl, rfl, rfl, rfl⟩)
end
end Pr
/-! VO -/
namespace Pr
open PySem PySem.Spec PyProof.Rows L2 Dn Rb Fl
abbrev Cut := Option (List Str × Bool)
def cutD : Cut → Den
  | none => nonD
  | some (f, b) => tupD [strsT f, blD b]
/-- the told names that are reached -/
def hitN (names : List Str) (l : List Nat) : List Str := (names.zipIdx.filter fun p => decide (p.2 ∈ l)).map (·.1)
def onB (mine : Int) (b : Bool) : Int := mine * (if b then 1 else 0)
def cutR (a : CutA) (l : List Nat) : Cut := if tooB a.d (Srt.srt (hitN a.d.names l)) (onB a.mine (decide (a.d.names.length ∈ l))) a.others then some (Srt.srt (hitN a.d.names l), decide (a.d.names.length ∈ l)) else none
def CutOk (a : CutA) (r : Cut) : Prop := ∃ l, ReachOk (demSt a.d a.mine a.others) l ∧ r = cutR a l
theorem mem_ints {i : Nat} {l : List Nat} : decide (((i : Nat) : Int) ∈ l.map fun i : Nat => (i : Int)) = decide (i ∈ l) := by
  refine decide_eq_decide.mpr ⟨fun h => ?_, fun h => List.mem_map.mpr ⟨i, h, rfl⟩⟩
  obtain ⟨j, hj, e⟩ := List.mem_map.mp h
  have : j = i := by omega
  rw [← this]; exact hj
section
variable {P : Program} {w : World} {K : PySem.W.Frag} {mg : Str → Option Value} {base : Heap}
abbrev r_Demand_cut (K : PySem.W.Frag) : List Den → Own → Own → Den → Prop := pu okCA (fun a => [demD K a.d, intD a.mine, intD a.others]) (fun a => exD (CutOk a) cutD)
theorem ok_Demand_cut (T : Txt K mg) : FnOk P w K mg base CX0 7 (a_Demand_cut K) (fdOf K (a_Demand_cut K)) ["self", "mine", "others"] (DefSp (r_Demand_cut K)) := by
  refine ow_ok (F_Demand_cut T) sc_Demand_cut (fun _ => rfl) fun cdv A outer s H E hr => ⟨_, PSs.nox (pss_cons (ps_set (i := 3) sc_Demand_cut.nd rfl (Or.inr rfl) (pe_fldK (K := K) (pe_meth (pv 0) (c_Demand T) (m_Demand_stream T) (ok_Demand_stream T) (hr.mono (by decide)) (b_Demand_stream T) .nil pass0 (pa_cons (pv 1) (pa_cons (pv 2) pa_nil)))))
  (pss_cons (ps_setLc (i := 4) (own := [("at", 7), ("name", 8)]) (by rfl) sc_Demand_cut.nd rfl rfl (sw_true rfl rfl rfl (by decide +kernel)) (pi_enumK (K := K) (by rfl) (z_enumerate T) (pa_cons (pe_fldK (K := K) (pv 0)) pa_nil)) (blkOk_by (N := n_Demand_cut) (sc := defScope s_Demand_cut) (by decide +kernel)) (fun _ _ _ _ _ => (pg_tupK (K := K) (n := 2) rfl (pgs_cons (pg_name (i := 7) sc_Demand_cut.nd rfl (Or.inl rfl)) (pgs_cons (pg_name (i := 8) sc_Demand_cut.nd rfl (Or.inl rfl)) pgs_nil)))) (fun _ _ _ _ _ => (pts_one (pt_cmpR (op_in_seqK (K := K)) (pv 7) (pv 3) (by rfl)))) (fun _ _ _ _ _ => (pv 8)))
  (pss_cons (ps_set (i := 5) sc_Demand_cut.nd rfl (Or.inl rfl) (pe_cmpR (op_in_seqK (K := K)) (pe_callB (call_lenK (K := K)) (by rfl) (z_len T) boot_len (pa_cons (pe_fldK (K := K) (pv 0)) pa_nil)) (pv 3) (by rfl)))
  (pss_cons (ps_set (i := 6) sc_Demand_cut.nd rfl (Or.inl rfl) (pe_callTy (call_tuple_ofK (K := K)) (by rfl) (z_tuple T) boot_tuple (pa_cons (pe_callB (cr_sortedSK (K := K)) (by rfl) (z_sorted T) boot_sorted (pa_cons (pe_lc (own := [("name", 8)]) (by rfl) sc_Demand_cut.nd (pi_listK (K := K) (pv 4)) (blkOk_by (N := n_Demand_cut) (sc := defScope s_Demand_cut) (by decide +kernel)) (fun _ _ _ _ _ => (pg_name (i := 8) sc_Demand_cut.nd rfl (Or.inl rfl))) (fun _ _ _ _ _ => pts_nil) (fun _ _ _ _ _ => (pe_callTy SkE.call_str_str (by rfl) (z_str T) boot_str (pa_cons (pv 8) pa_nil)))) pa_nil)) pa_nil)))
  (pss_one (ps_ret (pe_ifExp (pt_val (pe_meth (pv 0) (c_Demand T) (m_Demand_is_too_much T) (ok_Demand_is_too_much T) (hr.mono (by decide)) (b_Demand_is_too_much T) .nil pass0 (pa_cons (pv 6) (pa_cons (pe_op op_mulW (pv 1) (pe_callTy call_int1 (by rfl) (z_int T) boot_int (pa_cons (pv 5) pa_nil))) (pa_cons (pv 2) pa_nil))))) (pe_tup (pa_cons (pv 6) (pa_cons (pv 5) pa_nil))) pe_non))))))), ?_⟩
  intro a h
  have h0 := h
  obtain ⟨d, mine, others⟩ := a
  have hd := h.d
  have hm := h.m
  have ho := h.o
  have hn1 := hd.n
  dsimp only at hd hm ho hn1 ⊢
  refine sb_seqG (M := fun o g => ∃ l, ReachOk (demSt d mine others) l ∧ o = [] ∧ g = [some (demD K d), some (intD mine), some (intD others), some (lstD (l.map fun i => intD (i : Nat))), none, none, none, none, none]) (sb_asgX (P := ReachOk (demSt d mine others)) (F := fun l => lstD (l.map fun i => intD (i : Nat))) (ed_fld (ed_methP (α := CutA) ⟨d, mine, others⟩ (ed_var rfl) (ea_cons (ed_var rfl) (ea_cons (ed_var rfl) ea_nil)) h0) (c_Stream T) (na_Stream_own_reached T) rfl) fun l hl => ⟨l, hl, rfl, rfl⟩) fun o g m => ?_
  obtain ⟨l, hl, rfl, rfl⟩ := m
  have eL : (l.map fun i => Dn.intD (i : Nat)) = (l.map fun i : Nat => (i : Int)).map fun y => Dn.intD y := by rw [List.map_map]; rfl
  rw [eL]
  have lh : (hitN d.names l).length ≤ d.names.length := by
    unfold hitN
    rw [List.length_map]
    refine Nat.le_trans (List.length_filter_le _ _) ?_
    rw [List.length_zipIdx]
    exact Nat.le_refl _
  have eh : strsD (hitN d.names l) = lstD ((d.names.zipIdx.filter fun p => decide (p.2 ∈ l)).map fun p => strD p.1) := by unfold hitN strsD; rw [List.map_map]; rfl
  have ez : ((d.names.map fun x => strD x).zipIdx.map fun p => tupD [Dn.intD (p.2 : Nat), p.1]) = d.names.zipIdx.map fun p => tupD [Dn.intD (p.2 : Nat), strD p.1] := by rw [List.zipIdx_map, List.map_map]; rfl
  refine sb_seq (sb_asg (A := strsD (hitN d.names l)) (eh ▸ ed_lc (xs := d.names.zipIdx) (d := fun p => tupD [intD (p.2 : Nat), strD p.1]) (f := fun p => strD p.1) (p := fun p => decide (p.2 ∈ l)) (by
    have z := ei_enum (K := K) (Os := []) (Γ := [some (demD K d), some (intD mine), some (intD others), some (lstD ((l.map fun i : Nat => (i : Int)).map fun y => Dn.intD y)), none, none, none, none, none]) (Rs := d.names.map fun x => strD x) (tA := tCons (tFld K (tVar 0) "own_names") tNil) (ea_cons (ed_fld (ed_var rfl) (c_Demand T) (na_Demand_own_names T) rfl) ea_nil)
    rw [ez] at z
    exact z) (fun p _ => gd_tup2 gd_name gd_name) (fun p _ => et_test (ED.cast (ed_op (ed_var rfl) (ed_var rfl) od_inLI) (by rw [mem_ints]))) (fun p _ _ => ed_var rfl) (by decide) (by rw [List.length_zipIdx]; omega))) ?_
  refine sb_seq (sb_asg (A := blD (decide (d.names.length ∈ l))) (ED.cast (ed_op ((ed_cb (ea_cons (ed_fld (ed_var rfl) (c_Demand T) (na_Demand_own_names T) rfl) ea_nil) (cd_len (by rw [List.length_map]; omega))).cast (by rw [List.length_map])) (ed_var rfl) od_inLI) (by rw [mem_ints]))) ?_
  refine sb_seq (sb_asg (A := strsT (Srt.srt (hitN d.names l))) (ed_cb (ea_cons (ed_cb (ea_cons (ed_lc0 (f := fun n : Str => strD n) (ei_list (ed_var rfl)) (fun n _ => gd_name) (fun n _ => ed_cb (ea_cons (ed_var rfl) ea_nil) cd_str) (by decide) (by omega)) ea_nil) (cd_sortedS (by omega))) ea_nil) cd_tuple)) ?_
  have nb : (0 : Int) ≤ onB mine (decide (d.names.length ∈ l)) ∧ onB mine (decide (d.names.length ∈ l)) ≤ 10 ^ 50 := by
    unfold onB
    cases decide (d.names.length ∈ l) with
    | false => exact ⟨by simp, by simp⟩
    | true => simp only [if_true, Int.mul_one]; omega
  have hc : CutOk ⟨d, mine, others⟩ (cutR ⟨d, mine, others⟩ l) := ⟨l, hl, rfl⟩
  refine sb_ret (R := cutD (cutR ⟨d, mine, others⟩ l)) (ed_if (b := tooB d (Srt.srt (hitN d.names l)) (onB mine (decide (d.names.length ∈ l))) others) (et_B (ed_methP (α := TmA) ⟨⟨d, Srt.srt (hitN d.names l), onB mine (decide (d.names.length ∈ l))⟩, others⟩ (ed_var rfl) (ea_cons (ed_var rfl) (ea_cons (ed_op (ed_var rfl) (ed_cb (ea_cons (ed_var rfl) ea_nil) cd_intB) (od_mulW (by unfold sm; omega) (by unfold sm; split <;> omega))) (ea_cons (ed_var rfl) ea_nil))) ⟨⟨hd, by show (Srt.srt _).length ≤ 60; rw [Srt.length_srt]; omega, nb⟩, ho⟩)) (fun z => ?_) fun z => ?_) ⟨rfl, fun H v hv => ⟨_, hc, hv⟩⟩
  · have e : cutR ⟨d, mine, others⟩ l = some (Srt.srt (hitN d.names l), decide (d.names.length ∈ l)) := by unfold cutR; rw [if_pos z]
    rw [e]
    exact ed_tup (ea_cons (ed_var rfl) (ea_cons (ed_var rfl) ea_nil))
  · have e : cutR ⟨d, mine, others⟩ l = none := by unfold cutR; rw [if_neg (by rw [z]; decide)]
    rw [e]
    exact ed_c
end
end Pr
/-! QA -/
/-! What is reached is a cut if there is one at all. -/
namespace Pr
open PySem PySem.Spec PyProof.Rows L2 Dn Rb Fl
theorem sum_perm {l l' : List Int} (h : l.Perm l') : l.sum = l'.sum := by
  induction h with
  | nil => rfl
  | cons x _ ih => rw [List.sum_cons, List.sum_cons, ih]
  | swap x y l => rw [List.sum_cons, List.sum_cons, List.sum_cons, List.sum_cons]; omega
  | trans _ _ i1 i2 => rw [i1, i2]
theorem sumN_list {α : Type} {l : List α} {F : α → Int} {g : Nat → Int} (h : ∀ i x, l[i]? = some x → g i = F x) : sumN g l.length = (l.map F).sum := by
  rw [← sum_range]
  refine congrArg List.sum ?_
  apply List.ext_getElem?
  intro i
  rw [List.getElem?_map, List.getElem?_map]
  by_cases hi : i < l.length
  · rw [List.getElem?_range hi, List.getElem?_eq_getElem hi]
    exact congrArg some (h i _ (List.getElem?_eq_getElem hi))
  · rw [List.getElem?_eq_none (by rw [List.length_range]; omega), List.getElem?_eq_none (by omega)]
    rfl
theorem sum_ite {α : Type} {p : α → Bool} {f : α → Int} : ∀ l : List α, (l.map fun x => if p x = true then f x else 0).sum = ((l.filter p).map f).sum
  | [] => rfl
  | x :: l => by
    rw [List.map_cons, List.sum_cons, sum_ite l, List.filter_cons]
    by_cases h : p x = true
    · rw [if_pos h, if_pos h, List.map_cons, List.sum_cons]
    · rw [if_neg h, if_neg h]; omega
theorem sub_perm {names S : List Str} (hn : names.Nodup) (hs : S.Nodup) (h : ∀ x, x ∈ S → x ∈ names) : (names.filter fun x => decide (x ∈ S)).Perm S :=
  (List.perm_ext_iff_of_nodup (hn.filter _) hs).mpr fun x => by
    rw [List.mem_filter, decide_eq_true_iff]
    exact ⟨fun z => z.2, fun z => ⟨h x z, z⟩⟩
theorem sum_sub {names S : List Str} (hn : names.Nodup) (hs : S.Nodup) (h : ∀ x, x ∈ S → x ∈ names) (f : Str → Int) : (names.map fun x => if decide (x ∈ S) = true then f x else 0).sum = (S.map f).sum := by
  rw [sum_ite]
  exact sum_perm ((sub_perm hn hs h).map f)
/-- the set of rows for names S, b -/
def setS (d : DeA) (S : List Str) (b : Bool) (i : Nat) : Bool := nth d.names (fun x => decide (x ∈ S)) b i
section
variable {d : DeA} {mine others : Int} {S : List Str} {b : Bool}
theorem row_sum {g : Nat → Int} {F : Str → Int} {z : Int} (hn : d.names.Nodup) (hs : S.Nodup) (h : ∀ x, x ∈ S → x ∈ d.names) (hg : ∀ i x, d.names[i]? = some x → g i = F x) (hz : g d.names.length = z) : sumN (fun i => if setS d S b i = true then g i else 0) (d.names.length + 1) = (S.map F).sum + (if b = true then z else 0) := by
  show sumN (fun i => if setS d S b i = true then g i else 0) d.names.length + (if setS d S b d.names.length = true then g d.names.length else 0) = _
  rw [sumN_list (F := fun x => if decide (x ∈ S) = true then F x else 0) (fun i x e => by
    have e1 : setS d S b i = decide (x ∈ S) := nth_lt e
    rw [e1, hg i x e]), sum_sub hn hs h F]
  have e2 : setS d S b d.names.length = b := nth_last (Nat.le_refl _)
  rw [e2, hz]
theorem dem_eq (hn : d.names.Nodup) (hs : S.Nodup) (h : ∀ x, x ∈ S → x ∈ d.names) : dem (d.names.length + 1) (demSt d mine others).need (setS d S b) = lackZ d S (onB mine b) := by
  unfold dem
  rw [row_sum (g := (demSt d mine others).need) (F := needZ d) (z := mine * d.least) hn hs h (fun i x e => nth_lt e) (nth_last (Nat.le_refl _))]
  unfold lackZ onB
  cases b with
  | true => simp
  | false => simp
theorem cap_eq (hn : d.names.Nodup) (hs : S.Nodup) (h : ∀ x, x ∈ S → x ∈ d.names) {j : Nat} {o : Str} (ho : d.others[j]? = some o) : capS (d.names.length + 1) (demSt d mine others).c (setS d S b) j = freeZ d S (onB mine b) o := by
  unfold capS
  rw [row_sum (F := fun x => if (!decide ((x, o) ∈ d.told)) = true then 1 else 0) (z := mine) hn hs h (fun i x e => by
    show nth d.names (rowC d others) _ i j = _
    rw [nth_lt e]
    exact nth_lt ho) (by
    show nth d.names (rowC d others) _ _ j = _
    rw [nth_last (Nat.le_refl _)]
    exact nth_lt ho)]
  have e1 : ∀ S : List Str, (S.map fun x => if (!decide ((x, o) ∈ d.told)) = true then (1 : Int) else 0).sum = ((S.length : Nat) : Int) - (cntN d.told S o : Nat) := fun S => by
    unfold cntN
    induction S with
    | nil => rfl
    | cons x S ih =>
      rw [List.map_cons, List.sum_cons, ih, List.filter_cons, List.length_cons]
      cases decide ((x, o) ∈ d.told) with
      | true => simp; omega
      | false => simp; omega
  rw [e1]
  unfold freeZ onB
  cases b with
  | true => simp; omega
  | false => simp
theorem capL_eq (hn : d.names.Nodup) (hs : S.Nodup) (h : ∀ x, x ∈ S → x ∈ d.names) : capS (d.names.length + 1) (demSt d mine others).c (setS d S b) d.others.length = others * (((S.length : Nat) : Int) + onB mine b) := by
  unfold capS
  rw [row_sum (F := fun _ => others) (z := mine * others) hn hs h (fun i x e => by
    show nth d.names (rowC d others) _ i _ = _
    rw [nth_lt e]
    exact nth_last (Nat.le_refl _)) (by
    show nth d.names (rowC d others) _ _ _ = _
    rw [nth_last (Nat.le_refl _)]
    exact nth_last (Nat.le_refl _))]
  have e1 : ∀ S : List Str, (S.map fun _ => others).sum = others * ((S.length : Nat) : Int) := fun S => by
    induction S with
    | nil => simp
    | cons x S ih => rw [List.map_cons, List.sum_cons, ih, List.length_cons]; push_cast; rw [Int.mul_add]; omega
  rw [e1, Int.mul_add]
  unfold onB
  cases b with
  | true => simp [Int.mul_comm]
  | false => simp
theorem len_sub {S names : List Str} (hs : S.Nodup) (h : ∀ x, x ∈ S → x ∈ names) : S.length ≤ names.length := len_le hs h
/-- what is below 0 at the told rows of the other end -/
def under (d : DeA) : Int := (d.others.map fun o => match d.top with
  | none => 0
  | some k => min 0 (k - (cntN d.told d.names o : Nat))).sum
theorem cnt_le (told : List Pr2) (S : List Str) (o : Str) : cntN told S o ≤ S.length := List.length_filter_le _ _
theorem give_eq (hm : 0 ≤ mine) (ho : 0 ≤ others) (hn : d.names.Nodup) (hs : S.Nodup) (h : ∀ x, x ∈ S → x ∈ d.names) : give (d.names.length + 1) (d.others.length + 1) (demSt d mine others).room (demSt d mine others).c (setS d S b) + under d = offerZ d S (onB mine b) + others * newZ d (((S.length : Nat) : Int) + onB mine b) := by
  have hl := len_sub hs h
  have x0 : 0 ≤ onB mine b ∧ onB mine b ≤ mine := by
    unfold onB
    cases b with
    | true => simp; omega
    | false => simp; omega
  have e0 : give (d.names.length + 1) (d.others.length + 1) (demSt d mine others).room (demSt d mine others).c (setS d S b) = (d.others.map fun o => min (max 0 (roomZ d o (mostZ d mine))) (freeZ d S (onB mine b) o)).sum + min (others * newZ d (mostZ d mine)) (others * (((S.length : Nat) : Int) + onB mine b)) := by
    show sumN _ d.others.length + min _ _ = _
    rw [sumN_list (F := fun o => min (max 0 (roomZ d o (mostZ d mine))) (freeZ d S (onB mine b) o)) (fun j o e => by
      rw [cap_eq hn hs h e]
      exact congrArg (fun z => min z _) (nth_lt e)), capL_eq hn hs h]
    exact congrArg (fun z => _ + min z _) (nth_last (Nat.le_refl _))
  rw [e0]
  have fr : ∀ o, 0 ≤ freeZ d S (onB mine b) o ∧ freeZ d S (onB mine b) o ≤ mostZ d mine := fun o => by
    have := cnt_le d.told S o
    unfold freeZ
    show _ ∧ _ ≤ ((d.names.length : Nat) : Int) + mine
    omega
  have e1 : (d.others.map fun o => min (max 0 (roomZ d o (mostZ d mine))) (freeZ d S (onB mine b) o)).sum + under d = offerZ d S (onB mine b) := by
    unfold under offerZ
    have key : ∀ o, min (max 0 (roomZ d o (mostZ d mine))) (freeZ d S (onB mine b) o) + (match d.top with
      | none => 0
      | some k => min 0 (k - (cntN d.told d.names o : Nat))) = min (freeZ d S (onB mine b) o) (roomZ d o (freeZ d S (onB mine b) o)) := fun o => by
      have := fr o
      unfold roomZ
      cases d.top with
      | none => dsimp only; omega
      | some k => dsimp only; omega
    generalize d.others = os
    induction os with
    | nil => rfl
    | cons o os ih =>
      rw [List.map_cons, List.map_cons, List.map_cons, List.sum_cons, List.sum_cons, List.sum_cons, ← ih, ← key o]
      omega
  have e2 : min (others * newZ d (mostZ d mine)) (others * (((S.length : Nat) : Int) + onB mine b)) = others * newZ d (((S.length : Nat) : Int) + onB mine b) := by
    have hk : ((S.length : Nat) : Int) + onB mine b ≤ mostZ d mine := by show _ ≤ ((d.names.length : Nat) : Int) + mine; omega
    have hmin : ∀ x y : Int, min (others * x) (others * y) = others * min x y := fun x y => by
      rcases Int.le_total x y with z | z
      · have := Int.mul_le_mul_of_nonneg_left z ho
        rw [Int.min_eq_left z, Int.min_eq_left this]
      · have := Int.mul_le_mul_of_nonneg_left z ho
        rw [Int.min_eq_right z, Int.min_eq_right this]
    rw [hmin]
    refine congrArg (others * ·) ?_
    unfold newZ
    cases d.top with
    | none => dsimp only; omega
    | some k => dsimp only; omega
  omega
theorem too_iff (hm : 0 ≤ mine) (ho : 0 ≤ others) (hn : d.names.Nodup) (hs : S.Nodup) (h : ∀ x, x ∈ S → x ∈ d.names) : tooB d S (onB mine b) others = decide (under d < dem (d.names.length + 1) (demSt d mine others).need (setS d S b) - give (d.names.length + 1) (d.others.length + 1) (demSt d mine others).room (demSt d mine others).c (setS d S b)) := by
  have e1 := dem_eq (mine := mine) (others := others) (b := b) hn hs h
  have e2 := give_eq (b := b) hm ho hn hs h
  unfold tooB
  exact decide_eq_decide.mpr (by rw [e1]; omega)
end
theorem hit_mem {names : List Str} {l : List Nat} {x : Str} : x ∈ hitN names l ↔ ∃ i, names[i]? = some x ∧ i ∈ l := by
  unfold hitN
  constructor
  · intro h
    obtain ⟨p, hp, e⟩ := List.mem_map.mp h
    obtain ⟨h1, h2⟩ := List.mem_filter.mp hp
    obtain ⟨y, i⟩ := p
    have := List.mem_zipIdx_iff_getElem?.mp h1
    dsimp only at e this h2
    subst e
    exact ⟨i, this, of_decide_eq_true h2⟩
  · rintro ⟨i, h1, h2⟩
    exact List.mem_map.mpr ⟨(x, i), List.mem_filter.mpr ⟨List.mem_zipIdx_iff_getElem?.mpr h1, decide_eq_true h2⟩, rfl⟩
theorem hit_nd {names : List Str} {l : List Nat} (hn : names.Nodup) : (hitN names l).Nodup := by
  have e : (hitN names l).Sublist names := by
    have := (List.filter_sublist (l := names.zipIdx) (p := fun p : Str × Nat => decide (p.2 ∈ l))).map Prod.fst
    rw [List.zipIdx_map_fst] at this
    exact this
  exact e.nodup hn
theorem hit_sub {names : List Str} {l : List Nat} {x : Str} (h : x ∈ hitN names l) : x ∈ names := by
  obtain ⟨i, h1, _⟩ := hit_mem.mp h
  exact List.mem_of_getElem? h1
theorem mem_rowsL {L : Tr} {i : Nat} : i ∈ rowsL L ↔ (0, i) ∈ L.map (·.1) := by
  unfold rowsL
  rw [List.mem_map, List.mem_map]
  constructor
  · rintro ⟨q, hq, e⟩
    obtain ⟨h1, h2⟩ := List.mem_filter.mp hq
    have := of_decide_eq_true h2
    refine ⟨q, h1, ?_⟩
    obtain ⟨⟨a, c⟩, p⟩ := q
    dsimp only at this e ⊢
    have : a = 0 := by omega
    subst this e
    rfl
  · rintro ⟨q, hq, e⟩
    refine ⟨q, List.mem_filter.mpr ⟨hq, decide_eq_true (by rw [e]; rfl)⟩, by rw [e]⟩
/-- a cut that is reached, if any is one -/
theorem cut_best {a : CutA} (h : okCA a) (hn : a.d.names.Nodup) {l : List Nat} (R : ReachOk (demSt a.d a.mine a.others) l) {S : List Str} {b : Bool} (hs : S.Nodup) (hS : ∀ x, x ∈ S → x ∈ a.d.names) (ht : tooB a.d S (onB a.mine b) a.others = true) :
    tooB a.d (Srt.srt (hitN a.d.names l)) (onB a.mine (decide (a.d.names.length ∈ l))) a.others = true := by
  obtain ⟨f, L, hF, hT, hD, rfl⟩ := R
  have K := hT.closed hF hD
  have hb := best hF K (setS a.d S b)
  have nd : (Srt.srt (hitN a.d.names (rowsL L))).Nodup := (Srt.srt_perm _).nodup_iff.mpr (hit_nd hn)
  have sb : ∀ x, x ∈ Srt.srt (hitN a.d.names (rowsL L)) → x ∈ a.d.names := fun x hx => hit_sub (Srt.mem_srt.mp hx)
  rw [too_iff h.m.1 h.o.1 hn hs hS] at ht
  rw [too_iff h.m.1 h.o.1 hn nd sb]
  have ht := of_decide_eq_true ht
  have er : ∀ i, i < a.d.names.length + 1 → setS a.d (Srt.srt (hitN a.d.names (rowsL L))) (decide (a.d.names.length ∈ rowsL L)) i = rowIn L i := fun i hi => by
    by_cases h2 : i < a.d.names.length
    · have e := List.getElem?_eq_getElem h2
      show nth _ _ _ i = _
      rw [nth_lt e]
      unfold rowIn
      refine decide_eq_decide.mpr ?_
      rw [Srt.mem_srt, hit_mem, ← mem_rowsL]
      constructor
      · rintro ⟨j, hj, hl⟩
        obtain ⟨h3, e3⟩ := List.getElem?_eq_some_iff.mp hj
        have : i = j := ((List.getElem_inj hn).mp e3).symm
        rw [this]; exact hl
      · intro hl
        exact ⟨i, e, hl⟩
    · have : i = a.d.names.length := by omega
      subst this
      show nth _ _ _ _ = _
      rw [nth_last (Nat.le_refl _)]
      unfold rowIn
      exact decide_eq_decide.mpr mem_rowsL
  have e1 : dem (a.d.names.length + 1) (demSt a.d a.mine a.others).need (setS a.d (Srt.srt (hitN a.d.names (rowsL L))) (decide (a.d.names.length ∈ rowsL L))) = dem (a.d.names.length + 1) (demSt a.d a.mine a.others).need (rowIn L) := sumN_congr fun i hi => by rw [er i hi]
  have e2 : give (a.d.names.length + 1) (a.d.others.length + 1) (demSt a.d a.mine a.others).room (demSt a.d a.mine a.others).c (setS a.d (Srt.srt (hitN a.d.names (rowsL L))) (decide (a.d.names.length ∈ rowsL L))) = give (a.d.names.length + 1) (a.d.others.length + 1) (demSt a.d a.mine a.others).room (demSt a.d a.mine a.others).c (rowIn L) := sumN_congr fun j hj => by
    have e3 : capS (a.d.names.length + 1) (demSt a.d a.mine a.others).c (setS a.d (Srt.srt (hitN a.d.names (rowsL L))) (decide (a.d.names.length ∈ rowsL L))) j = capS (a.d.names.length + 1) (demSt a.d a.mine a.others).c (rowIn L) j := sumN_congr fun i hi => by rw [er i hi]
    rw [e3]
  rw [e1, e2]
  refine decide_eq_true ?_
  have hb' : dem (a.d.names.length + 1) (demSt a.d a.mine a.others).need (setS a.d S b) - give (a.d.names.length + 1) (a.d.others.length + 1) (demSt a.d a.mine a.others).room (demSt a.d a.mine a.others).c (setS a.d S b) ≤ dem (a.d.names.length + 1) (demSt a.d a.mine a.others).need (rowIn L) - give (a.d.names.length + 1) (a.d.others.length + 1) (demSt a.d a.mine a.others).room (demSt a.d a.mine a.others).c (rowIn L) := hb
  omega
end Pr
/-! VP -/
namespace Pr
open PySem PySem.Spec PyProof.Rows L2 Dn Rb Fl
/-- a cut is one of the sets -/
structure IsC (a : CutA) (f : List Str) (b : Bool) : Prop where
  nd : f.Nodup
  srt : f = uq f
  sub : ∀ x, x ∈ f → x ∈ a.d.names
  too : tooB a.d f (onB a.mine b) a.others = true
open Classical in
noncomputable def anyC (a : CutA) : Bool := decide (∃ f b, IsC a f b)
open Classical in
theorem anyC_of {a : CutA} {f : List Str} {b : Bool} (h : IsC a f b) : anyC a = true := by
  unfold anyC
  exact decide_eq_true ⟨f, b, h⟩
open Classical in
theorem anyC_no {a : CutA} (h : ∀ f b, ¬ IsC a f b) : anyC a = false := by
  unfold anyC
  exact decide_eq_false fun ⟨f, b, z⟩ => h f b z
def CutRes (a : CutA) : Cut → Prop
  | none => anyC a = false
  | some r => IsC a r.1 r.2
theorem cut_res {a : CutA} (h : okCA a) (hn : a.d.names.Nodup) {r : Cut} (hr : CutOk a r) : CutRes a r := by
  obtain ⟨l, hl, e⟩ := hr
  subst e
  unfold cutR
  by_cases z : tooB a.d (Srt.srt (hitN a.d.names l)) (onB a.mine (decide (a.d.names.length ∈ l))) a.others = true
  · rw [if_pos z]
    have nd : (Srt.srt (hitN a.d.names l)).Nodup := (Srt.srt_perm _).nodup_iff.mpr (hit_nd hn)
    refine ⟨nd, ?_, fun x hx => hit_sub (Srt.mem_srt.mp hx), z⟩
    rw [uq_nodup nd, Srt.srt_congr (Srt.srt_perm _)]
  · rw [if_neg z]
    exact anyC_no fun f b c => z (cut_best h hn hl c.nd c.sub c.too)
theorem names_nd {t : ToA} (h : okTo t) (k : Str) : (namesOf t.rows k).Nodup := by
  unfold namesOf
  have h1 := h.rnd.filter (fun p : Pr2 => decide (p.1 = k))
  refine List.Pairwise.map _ (R := fun p q : Pr2 => p ≠ q ∧ p.1 = k ∧ q.1 = k) (fun p q n e => n.1 ?_) ?_
  · obtain ⟨a, b⟩ := p
    obtain ⟨c, d⟩ := q
    dsimp only at e n
    rw [n.2.1, n.2.2, e]
  · refine List.Pairwise.imp_of_mem (fun {p q} hp hq n => ⟨n, ?_, ?_⟩) h1
    · exact of_decide_eq_true (List.mem_filter.mp hp).2
    · exact of_decide_eq_true (List.mem_filter.mp hq).2
structure FcA where
  t : ToA
  cs : Cs
  k : Str
  e : Bool
structure okFc (a : FcA) : Prop where
  t : okTo a.t
  k : a.k ∈ a.t.mo.2.map (·.1)
  nn : ∀ p, p ∈ newsC a.t a.cs → 0 ≤ p.2 ∧ p.2 ≤ 10 ^ 49
abbrev cutA (a : FcA) : CutA := ⟨deOf a.t a.k a.e, lk (newsC a.t a.cs) (kindAt a.t.mo.2 a.k a.e), lk (newsC a.t a.cs) (kindAt a.t.mo.2 a.k !a.e)⟩
theorem okFc.ca {a : FcA} (h : okFc a) : okCA (cutA a) := by
  have h1 := h.nn _ (lk_mem (newsC_in (cs := a.cs) (h.t.kind h.k a.e).1))
  have h2 := h.nn _ (lk_mem (newsC_in (cs := a.cs) (h.t.kind h.k !a.e).1))
  dsimp only at h1 h2
  exact ⟨h.t.de h.k a.e, by dsimp only; omega, by dsimp only; omega⟩
section
variable {P : Program} {w : World} {K : PySem.W.Frag} {mg : Str → Option Value} {base : Heap}
abbrev r_found_cut (K : PySem.W.Frag) : List Den → Own → Own → Den → Prop := pu okFc (fun a => [toldD K a.t, csD (newsC a.t a.cs), strD a.k, strD (endS a.e)]) (fun a => exD (CutRes (cutA a)) cutD)
theorem ok_found_cut (T : Txt K mg) : FnOk P w K mg base CX0 8 (a_found_cut K) (fdOf K (a_found_cut K)) ["told", "news", "link", "end"] (DefSp (r_found_cut K)) := by
  refine ow_ok (F_found_cut T) sc_found_cut (fun _ => rfl) fun cdv A outer s H E hr => ⟨_, PSs.nox (pss_cons (ps_par (i := 4) (j := 5) (by rfl) sc_found_cut.nd rfl rfl (by decide) rfl rfl (pa_cons (pe_meth (pe_prop (pv 0) (c_Told T) (po_Told_model T) (ok_Told_model T) (hr.mono (by decide)) (b_Told_model T) .nil pass0 rfl) (c_Model T) (m_Model_kind_at T) (ok_Model_kind_at T) (hr.mono (by decide)) (b_Model_kind_at T) .nil pass0 (pa_cons (pv 2) (pa_cons (pv 3) pa_nil))) (pa_cons (pe_meth (pe_prop (pv 0) (c_Told T) (po_Told_model T) (ok_Told_model T) (hr.mono (by decide)) (b_Told_model T) .nil pass0 rfl) (c_Model T) (m_Model_kind_at T) (ok_Model_kind_at T) (hr.mono (by decide)) (b_Model_kind_at T) .nil pass0 (pa_cons (pv 2) (pa_cons (pe_call (ok_other_end T) (hr.mono (by decide)) rfl (g_other_end T) (F_other_end T).kp (b_other_end T) .nil pass0 (pa_cons (pv 3) pa_nil)) pa_nil))) pa_nil)) (by rfl))
  (pss_one (ps_ret (pe_meth (pe_make (mk_Demand T) (ok_Demand_init T) (hr.mono (by decide)) rfl (g_Demand T) (b_Demand_init T) .nil pass0 (pa_cons (pv 0) (pa_cons (pv 2) (pa_cons (pv 3) pa_nil)))) (c_Demand T) (m_Demand_cut T) (ok_Demand_cut T) (hr.mono (by decide)) (b_Demand_cut T) .nil pass0 (pa_cons (pe_dget (rm1 hr) (pv 1) (pv 4) (fun _ _ => rfl)) (pa_cons (pe_dget (rm1 hr) (pv 1) (pv 5) (fun _ _ => rfl)) pa_nil)))))), ?_⟩
  intro a h
  have hca := h.ca
  have hnd : (cutA a).d.names.Nodup := names_nd h.t _
  obtain ⟨t, cs, k, e⟩ := a
  obtain ⟨h1, h4, h3⟩ := id h
  dsimp only at h1 h3 h4 ⊢
  have kn := h1.kind h4 e
  have kn' := h1.kind h4 !e
  refine sb_seq (sb_par (A := strD (kindAt t.mo.2 k e)) (B := strD (kindAt t.mo.2 k !e)) (ea_cons (ed_methP (α := AtA) ⟨t.mo, k, e⟩ (ed_mod (ed_var rfl)) (ea_cons (ed_var rfl) (ea_cons (ed_var rfl) ea_nil)) ⟨h1.mo, h4⟩) (ea_cons (ed_methP (α := AtA) ⟨t.mo, k, !e⟩ (ed_mod (ed_var rfl)) (ea_cons (ed_var rfl) (ea_cons (ed_callP (α := Bool) e (ea_cons (ed_var rfl) ea_nil) trivial) ea_nil)) ⟨h1.mo, h4⟩) ea_nil))) ?_
  refine sb_ret (R := exD (CutOk (cutA ⟨t, cs, k, e⟩)) cutD) (ed_methP (α := CutA) (cutA ⟨t, cs, k, e⟩) (ed_make (C := C_Demand K) (rel := r_Demand_init K) (ea_cons (ed_var rfl) (ea_cons (ed_var rfl) (ea_cons (ed_var rfl) ea_nil))) fun y => ⟨(y, ⟨t, k, e, k⟩), ⟨h1, h4⟩, rfl, rfl, rfl, rfl⟩) (ea_cons (dget_s (newsC_in kn.1) (ed_var rfl) (ed_var rfl)) (ea_cons (dget_s (newsC_in kn'.1) (ed_var rfl) (ed_var rfl)) ea_nil)) hca) ⟨rfl, fun H v ⟨r, hr, hv⟩ => ⟨r, cut_res hca hnd hr, hv⟩⟩
abbrev r_cut_of (K : PySem.W.Frag) : List Den → Own → Own → Den → Prop := pu (fun a : CnA => okCn a ∧ ∀ p, p ∈ newsC a.t a.cs → p.2 ≤ 10 ^ 49) (fun a => [toldD K a.t, csA K a.cs a.b, strD a.k, strD (endS a.e)]) (fun a => exD (CutRes (cutA ⟨a.t, a.cs, a.k, a.e⟩)) cutD)
theorem ok_cut_of (T : Txt K mg) : FnOk P w K mg base CX0 9 (a_cut_of K) (fdOf K (a_cut_of K)) ["told", "sizes", "link", "end"] (DefSp (r_cut_of K)) := by
  refine ow_ok (F_cut_of T) sc_cut_of (fun _ => rfl) fun cdv A outer s H E hr => ⟨_, PSs.nox (pss_one (ps_ret (pe_call (ok_found_cut T) (hr.mono (by decide)) rfl (g_found_cut T) (F_found_cut T).kp (b_found_cut T) .nil pass0 (pa_cons (pv 0) (pa_cons (pe_call (ok_checked_news T) (hr.mono (by decide)) rfl (g_checked_news T) (F_checked_news T).kp (b_checked_news T) .nil pass0 (pa_cons (pv 0) (pa_cons (pv 1) (pa_cons (pv 2) (pa_cons (pv 3) pa_nil))))) (pa_cons (pv 2) (pa_cons (pv 3) pa_nil))))))), ?_⟩
  rintro ⟨t, cs, b, k, e⟩ ⟨hc, hb⟩
  obtain ⟨h1, h2, h3, h4⟩ := id hc
  dsimp only at h1 h2 h3 h4 hb ⊢
  exact sb_ret (ed_callP (α := FcA) ⟨t, cs, k, e⟩ (ea_cons (ed_var rfl) (ea_cons (ed_callP (α := CnA) ⟨t, cs, b, k, e⟩ (ea_cons (ed_var rfl) (ea_cons (ed_var rfl) (ea_cons (ed_var rfl) (ea_cons (ed_var rfl) ea_nil)))) hc) (ea_cons (ed_var rfl) (ea_cons (ed_var rfl) ea_nil)))) ⟨h1, h4, fun p hp => ⟨h3 p hp, hb p hp⟩⟩)
theorem od_isCut {a : CutA} : OD (fun x y H Q => y = .non ∧ Q (.bl (decide (x = .non))) H) (exD (CutRes a) cutD) nonD (blD (!anyC a)) := fun H0 H x y s ⟨r, hr, hx⟩ hy Q q => by
  cases r with
  | none =>
    have e : anyC a = false := hr
    rw [e] at q
    exact od_isN H0 H x y s hx hy Q q
  | some r =>
    have e : anyC a = true := anyC_of (a := a) hr
    rw [e] at q
    exact od_isN' notN_tup H0 H x y s hx hy Q q
structure FsA where
  t : ToA
  cs : Cs
  b : Bool
structure okFs (a : FsA) : Prop where
  t : okTo a.t
  cc : okCc ⟨a.t.mo, a.cs, a.b⟩
  nn : ∀ p, p ∈ newsC a.t a.cs → 0 ≤ p.2 ∧ p.2 ≤ 10 ^ 49
noncomputable def fitsB (t : ToA) (cs : Cs) : Bool := !pastB t && ((srtL t.mo.2).map (·.1)).all fun k => [false, true].all fun e => !anyC (cutA ⟨t, cs, k, e⟩)
abbrev r_fits_sizes (K : PySem.W.Frag) : List Den → Own → Own → Den → Prop := pu okFs (fun a => [toldD K a.t, csA K a.cs a.b]) (fun a => blD (fitsB a.t a.cs))
theorem ok_fits_sizes (T : Txt K mg) : FnOk P w K mg base CX0 9 (a_fits_sizes K) (fdOf K (a_fits_sizes K)) ["told", "sizes"] (DefSp (r_fits_sizes K)) := by
  refine ow_ok (F_fits_sizes T) sc_fits_sizes (fun _ => rfl) fun cdv A outer s H E hr => ⟨_, PSs.nox (pss_cons (ps_expr (pe_call (ok_want_told T) (hr.mono (by decide)) rfl (g_want_told T) (F_want_told T).kp (b_want_told T) .nil pass0 (pa_cons (pv 0) pa_nil)))
  (pss_cons (ps_set (i := 2) sc_fits_sizes.nd rfl (Or.inr rfl) (pe_call (ok_new_counts T) (hr.mono (by decide)) rfl (g_new_counts T) (F_new_counts T).kp (b_new_counts T) .nil pass0 (pa_cons (pv 0) (pa_cons (pe_call (ok_sizes_for T) (hr.mono (by decide)) rfl (g_sizes_for T) (F_sizes_for T).kp (b_sizes_for T) .nil pass0 (pa_cons (pe_prop (pv 0) (c_Told T) (po_Told_model T) (ok_Told_model T) (hr.mono (by decide)) (b_Told_model T) .nil pass0 rfl) (pa_cons (pv 1) pa_nil))) pa_nil))))
  (pss_cons (ps_if (PW.pt (pw_or (pt_cmpR op_notN (pe_call (ok_past_row T) (hr.mono (by decide)) rfl (g_past_row T) (F_past_row T).kp (b_past_row T) .nil pass0 (pa_cons (pv 0) pa_nil)) pe_non (nomark _)) (pw_or1 (pt_val (pe_callB (cr_anyK (K := K) rfl) (by rfl) (z_any T) boot_any (pa_cons (pe_lc (own := [("kind", 5)]) (by rfl) sc_fits_sizes.nd (pi_keys (pv 2)) (blkOk_by (N := n_fits_sizes) (sc := defScope s_fits_sizes) (by decide +kernel)) (fun _ _ _ _ _ => (pg_name (i := 5) sc_fits_sizes.nd rfl (Or.inl rfl))) (fun _ _ _ _ _ => pts_nil) (fun _ _ _ _ _ => (pe_cmpR op_lt (pe_dget (rm1 hr) (pv 2) (pv 5) (fun _ _ => rfl)) pe_int (nomark _)))) pa_nil)))))) (pss_one (ps_ret pe_bl)) pss_nil)
  (pss_one (ps_ret (pe_callB (cr_allK (K := K) rfl) (by rfl) (z_all T) boot_all (pa_cons (pe_lc2 (own := [("link", 3), ("end", 4)]) (vs1 := [4]) (by rfl) sc_fits_sizes.nd (pi_keys (pe_meth0 (pe_prop (pv 0) (c_Told T) (po_Told_model T) (ok_Told_model T) (hr.mono (by decide)) (b_Told_model T) .nil pass0 rfl) (c_Model T) (m_Model_links T) (ok_Model_links T) (hr.mono (by decide)) (b_Model_links T) .nil pass0)) (blkOk_by (N := n_fits_sizes) (sc := defScope s_fits_sizes) (by decide +kernel)) (by decide) (fun _ _ _ _ _ => (pg_name (i := 3) sc_fits_sizes.nd rfl (Or.inl rfl))) (fun _ _ _ _ _ => pts_nil) (fun _ _ _ _ _ => (pi_tupK (K := K) (pe_glob rfl (gt_ENDS T) (rx_ENDS T)))) (fun _ _ _ _ _ => (pg_name (i := 4) sc_fits_sizes.nd rfl (Or.inl rfl))) (fun _ _ _ _ _ => pts_nil) (fun _ _ _ _ _ => (pe_cmpR op_isN (pe_call (ok_found_cut T) (hr.mono (by decide)) rfl (g_found_cut T) (F_found_cut T).kp (b_found_cut T) .nil pass0 (pa_cons (pv 0) (pa_cons (pv 2) (pa_cons (pv 3) (pa_cons (pv 4) pa_nil))))) pe_non (nomark _)))) pa_nil))))))), ?_⟩
  rintro ⟨t, cs, b⟩ ⟨h1, h2, h3⟩
  dsimp only at h1 h2 h3 ⊢
  refine sb_seq (sb_drop (ed_callP (α := ToA) t (ea_cons (ed_var rfl) ea_nil) trivial)) ?_
  refine sb_seq (sb_asg (A := csD (newsC t cs)) (ed_callP (α := NcA) ⟨t, cs⟩ (ea_cons (ed_var rfl) (ea_cons (ed_callP (α := CcA) ⟨t.mo, cs, b⟩ (ea_cons (ed_mod (ed_var rfl)) (ea_cons (ed_var rfl) ea_nil)) h2) ea_nil)) (h2.nc h1))) ?_
  have nd : ((newsC t cs).map (·.1)).Nodup := by
    rw [newsC_keys]
    exact (Srt.srt_perm _).nodup_iff.mpr h1.mo.nd
  have hl : (newsC t cs).length ≤ 60 := by unfold newsC; rw [List.length_map, Srt.length_srt]; have := h1.mo.le; omega
  have hany : ((newsC t cs).any fun p => decide (p.2 < 0)) = false := any_false fun p hp => decide_eq_false (by have := h3 p hp; omega)
  have hpast : ∀ {Γ : Dn.Ctx}, Γ[0]? = some (some (toldD K t)) → ED [] (tOp (fun x y H Q => y = .non ∧ Q (.bl (!decide (x = .non))) H) (tCall (DefSp (r_past_row K)) [] E0 (tCons (tVar 0) tNil)) (tC .non)) Γ (blD (pastB t)) := fun {Γ} h0 => by
    have z := ed_callP (Os := []) (tA := tCons (tVar 0) tNil) (Pr := fun t : ToA => okTo t) (args := fun t => [toldD K t]) (res := fun t => resP (pastB t)) t (ea_cons (ed_var h0) ea_nil) h1
    cases hp : pastB t with
    | false => rw [hp] at z; exact ed_op z ed_c od_notN
    | true => rw [hp] at z; exact ed_op z ed_c (od_notN' notN_any)
  have hneg : ∀ {Γ : Dn.Ctx}, Γ[2]? = some (some (csD (newsC t cs))) → ∀ p, p ∈ newsC t cs → Γ[5]? = some (some (strD p.1)) → ED [] (tOp (rI0 fun i j => .bl (decide (i < j))) (tDGet (tVar 2) (tVar 5)) (tC (.int 0))) Γ (blD (decide (p.2 < 0))) := fun {Γ} h2 p hp h5 => by
    have z := dget_s (Os := []) (f := fun i => intD i) (ls := newsC t cs) (k := p.1) (List.mem_map.mpr ⟨p, hp, rfl⟩) (ed_var (Γ := Γ) (i := 2) h2) (ed_var (i := 5) h5)
    rw [lk_of nd (k := p.1) (v := p.2) hp] at z
    exact ed_op z ed_c od_lt
  refine sb_ifs (b := pastB t || false) (et_or (a := pastB t) (b := false) (et_test (hpast rfl)) fun _ => et_B (ed_ff (ed_cb (ea_cons (ed_lc0 (f := fun p : Str × Int => blD (decide (p.2 < 0))) (ei_keysS (ed_var rfl)) (fun p _ => gd_name) (fun p hp => hneg rfl p hp rfl) (by decide) (by omega)) ea_nil) cd_anyM) hany)) (fun z => ?_) fun z => sb_skip ?_
  · refine sb_stop (sb_ret (R := blD (fitsB t cs)) ?_)
    have e : fitsB t cs = false := by unfold fitsB; rw [Bool.or_false] at z; rw [z]; rfl
    rw [e]
    exact ed_c
  · have e : fitsB t cs = (((srtL t.mo.2).flatMap fun q => [V.str "near", V.str "far"].map fun x => (q.1, x)).all fun p => !anyC (cutA ⟨t, cs, p.1, decide (p.2 = V.str "far")⟩)) := by
      unfold fitsB
      rw [Bool.or_false] at z
      rw [z, Bool.not_false, Bool.true_and, List.all_map, List.all_flatMap]
      rfl
    rw [e]
    have hle : (srtL t.mo.2).length = t.mo.2.length := by
      have z := congrArg List.length (srtL_keys t.mo.2)
      rw [List.length_map, Srt.length_srt, List.length_map] at z
      exact z
    have e2 : ((srtL t.mo.2).flatMap fun q => (([V.str "near", V.str "far"].filter fun _ => true).map fun x => blD (!anyC (cutA ⟨t, cs, q.1, decide (x = V.str "far")⟩)))) = (((srtL t.mo.2).flatMap fun q => [V.str "near", V.str "far"].map fun x => (q.1, x)).map fun p => blD (!anyC (cutA ⟨t, cs, p.1, decide (p.2 = V.str "far")⟩))) := by
      rw [List.map_flatMap]
      rfl
    refine sb_ret (ed_cb (ea_cons (ED.cast (ed_lc2 (xs := srtL t.mo.2) (d := fun q => strD q.1) (ys := fun _ => [V.str "near", V.str "far"]) (d1 := fun _ => valD) (p := fun _ _ => true) (f := fun q x => blD (!anyC (cutA ⟨t, cs, q.1, decide (x = V.str "far")⟩))) (ei_keysS (ed_methP (α := MoA) t.mo (ed_mod (ed_var rfl)) ea_nil h1.mo)) (fun q _ => gd_name) (fun q _ => ei_tupK (ends_at T) ed_c) (fun q _ x _ => gd_name) (fun q _ x _ => et_yes) (fun q hq x hx _ => ?_) (by decide) (by decide) ?_) (congrArg lstD e2)) ea_nil) cd_allM)
    · have hk : q.1 ∈ t.mo.2.map (·.1) := mem_srtL.mp (List.mem_map.mpr ⟨q, hq, rfl⟩)
      obtain ⟨b', ev⟩ : ∃ b' : Bool, x = V.str (endS b') ∧ decide (x = V.str "far") = b' := by
        rcases List.mem_cons.mp hx with z | z
        · exact ⟨false, z, by rw [z]; decide⟩
        · have z := List.mem_singleton.mp z
          exact ⟨true, z, by rw [z]; decide⟩
      obtain ⟨ev, ed⟩ := ev
      rw [ed]
      subst ev
      exact ed_op (ed_callP (α := FcA) ⟨t, cs, q.1, b'⟩ (ea_cons (ed_var rfl) (ea_cons (ed_var rfl) (ea_cons (ed_var rfl) (ea_cons (ed_var rfl) ea_nil)))) ⟨h1, hk, h3⟩) ed_c od_isCut
    · have e9 : ∀ l : List (Str × Ends4), (l.flatMap fun _ => [V.str "near", V.str "far"]).length = 2 * l.length := fun l => by
        induction l with
        | nil => rfl
        | cons q l ih => 
          rw [List.flatMap_cons, List.length_append, ih]
          show 2 + 2 * l.length = 2 * (l.length + 1)
          omega
      have := h1.mo.lle
      rw [e9, hle]
      omega
end
end Pr
/-! DM -/
/-! A list of one's own written at a place; drawing. -/
namespace Dn
open PySem PySem.Spec PyProof.Rows L2
section
variable {K : PySem.W.Frag} {Os : Own} {Γ : Ctx} {te to ti : TE} {A B C R : Den} {sa : TS} {N : Own → Ctx → Prop} {O : Own → Den → Prop}
theorem SB.wk2 {N' : Own → Ctx → Prop} {O' : Own → Den → Prop} (h : SB Os sa Γ N' O') (hn : ∀ o g, N' o g → ∃ o2, N o2 g ∧ (∀ b, b ∈ ads o2 → b ∈ ads o) ∧ ∀ H0 H, Hold o H0 H → Hold o2 H0 H) (ho : ∀ o g, O' o g → ∃ o2, O o2 g ∧ (∀ b, b ∈ ads o2 → b ∈ ads o) ∧ ∀ H0 H, Hold o H0 H → Hold o2 H0 H) : SB Os sa Γ N O := fun σ H0 H D e s w q r =>
  h σ H0 H D e s w (fun o g m σ' H0' H' gr e1 => by
    obtain ⟨o2, h1, h2, h3⟩ := hn o g m
    exact q o2 g h1 σ' H0' H' ⟨gr.s0, gr.s1, gr.sub, gr.fr, h3 _ _ gr.ow, fun b hb => gr.nw b (h2 b hb)⟩ e1) fun o d m v H0' H' gr hv => by
    obtain ⟨o2, h1, h2, h3⟩ := ho o d m
    exact r o2 d h1 v H0' H' ⟨gr.s0, gr.s1, gr.sub, gr.fr, h3 _ _ gr.ow, fun b hb => gr.nw b (h2 b hb)⟩ hv
theorem fits_set {H : Hp} {Rs : List Den} {us : List V} {i : Nat} {v : V} (h : Fits H Rs us) (hv : B.p H v) : Fits H (Rs.set i B) (us.set i v) := Paired.set' (F := fun (R : Den) (x : V) => R.p H x) (a := B) (b := v) hv i h
theorem set_step {a : Addr} {Rs : List Den} {i : Nat} {σ : L2.St} {H0 H : Hp} {v : V} {Q : Hp → Prop} (ho : ED ((a, lstO Rs) :: Os) to Γ (valD (.ref a))) (hi : ED ((a, lstO Rs) :: Os) ti Γ (intD (i : Nat))) (hl : i < Rs.length) (e : Env H0 Γ σ) (s : Same H0 H) (w : Hold ((a, lstO Rs) :: Os) H0 H) (hv : B.p H0 v)
    (q : ∀ H0' H', Grow ((a, lstO Rs) :: Os) H0 H ((a, lstO (Rs.set i B)) :: Os) H0' H' → Q H') : to σ H fun o H1 => ti σ H1 fun j H2 => rSetL o j v H2 Q :=
  ho σ H0 H e s w _ fun x H1 H1' g1 hx => hi σ H1 H1' (e.mono g1.s0) g1.sub g1.ow _ fun y H2 H2' g2 hy => by
    obtain ⟨_, o, eo, us, po, hf⟩ := g2.ow.at_ _ List.mem_cons_self
    subst po
    have lu : us.length = Rs.length := (Paired.length hf).symm
    refine ⟨a, us, (i : Nat), i, hx, hy, eo, ?_, q H2 _ ((g1.trans g2).trans (grow_set g2.sub g2.ow ⟨_, rfl, fits_set hf (B.mono (g1.s0.trans g2.s0) hv)⟩))⟩
    unfold ixN
    rw [if_pos (by omega)]
    simp
    omega
/-- xs[i] = e -/
theorem sb_setL {a : Addr} {Rs : List Den} {i : Nat} (h : ED ((a, lstO Rs) :: Os) te Γ B) (ho : ED ((a, lstO Rs) :: Os) to Γ (valD (.ref a))) (hi : ED ((a, lstO Rs) :: Os) ti Γ (intD (i : Nat))) (hl : i < Rs.length) (hn : N ((a, lstO (Rs.set i B)) :: Os) Γ) : SB ((a, lstO Rs) :: Os) (tAsg te (gSub to ti rSetL)) Γ N O := fun σ H0 H D e s w q _ =>
  h σ H0 H e s w _ fun v H1 H1' g1 hv => set_step ho hi hl (e.mono g1.s0) g1.sub g1.ow hv fun H2 H2' g2 => q _ _ hn σ H2 H2' (g1.trans g2) ((e.mono g1.s0).mono g2.s0)
/-- xs[i], y = e -/
theorem sb_setL2 {a : Addr} {Rs : List Den} {i j : Nat} (h : ED ((a, lstO Rs) :: Os) te Γ (tupD [B, C])) (ho : ED ((a, lstO Rs) :: Os) to Γ (valD (.ref a))) (hi : ED ((a, lstO Rs) :: Os) ti Γ (intD (i : Nat))) (hl : i < Rs.length) (hn : N ((a, lstO (Rs.set i B)) :: Os) (Γ.set j (some C))) : SB ((a, lstO Rs) :: Os) (tAsg te (gTup K 2 (gCons (gSub to ti rSetL) (gCons (gName j) gNil)))) Γ N O := fun σ H0 H D e s w q _ =>
  h σ H0 H e s w _ fun v H1 H1' g1 ⟨b, vs, ev, hb, hf⟩ => by
    cases hf with
    | cons r1 t1 => cases t1 with
      | cons r2 t2 =>
        cases t2
        exact ⟨b, _, ev, .of (g1.sub _ _ hb), rfl, _, _, rfl, set_step ho hi hl (e.mono g1.s0) g1.sub g1.ow r1 fun H2 H2' g2 => ⟨_, _, rfl, rfl, q _ _ hn _ H2 H2' (g1.trans g2) (((e.mono g1.s0).mono g2.s0).set j (C.mono g2.s0 r2))⟩⟩
end
theorem cd_divmod {i j : Int} (h : CDiv i j) : CD (fun xs H Q => ∃ i j, xs = [.int i, .int j] ∧ CDiv i j ∧ ∀ p, H p = none → Q (.ref p) (upd H p (.tup [.int (i / j), .int (i % j)]))) [intD i, intD j] (tupD [intD (i / j), intD (i % j)]) := fun H0 H xs s hf Q q => by
  cases hf with
  | cons r1 t1 => cases t1 with
    | cons r2 t2 =>
      cases t2
      exact ⟨i, j, by rw [show _ = V.int i from r1, show _ = V.int j from r2], h, fun p hp => q _ _ _ (.new0 s hp) ⟨p, _, rfl, upd_same, .cons rfl (.cons rfl .nil)⟩⟩
theorem od_mod {i j : Int} (h : 0 < j) : OD (rI (fun _ j => 0 < j) fun i j => .int (i % j)) (intD i) (intD j) (intD (i % j)) := od_I h
theorem od_fdiv {i j : Int} (h : CDiv i j) : OD (rI CDiv fun i j => .int (i / j)) (intD i) (intD j) (intD (i / j)) := od_I h
theorem od_mul {i j : Int} (h : CMul i j) : OD (rI CMul fun i j => .int (i * j)) (intD i) (intD j) (intD (i * j)) := od_I h
theorem od_pow {i j : Int} (h : CPow i j) : OD (rI CPow fun i j => .int (i ^ j.toNat)) (intD i) (intD j) (intD (i ^ j.toNat)) := od_I h
theorem cd_abs {i : Int} : CD (fun xs H Q => ∃ i, xs = [.int i] ∧ Q (.int (if i < 0 then -i else i)) H) [intD i] (intD (if i < 0 then -i else i)) := fun H0 H xs s hf Q q => by
  cases hf with
  | cons r1 t1 =>
    cases t1
    exact ⟨i, by rw [show _ = V.int i from r1], q _ H0 H (.refl s .nil) rfl⟩
section
variable {K : PySem.W.Frag} {Os : Own} {Γ : Ctx} {te to ti : TE} {A B C R R' : Den} {sa : TS} {N : Own → Ctx → Prop} {O : Own → Den → Prop} {r : R2}
theorem OD.res (h : OD r A B R) (f : ∀ H v, R.p H v → R'.p H v) : OD r A B R' := fun H0 H x y s hx hy Q q => h H0 H x y s hx hy Q fun v H0' H' g hv => q v H0' H' g (f _ _ hv)
theorem od_exR {α : Type} {P : α → Prop} {F : α → Den} (h : ∀ x, P x → OD r A (F x) R) : OD r A (exD P F) R := fun H0 H x y s hx ⟨a, ha, hy⟩ Q q => h a ha H0 H x y s hx hy Q q
theorem od_exL {α : Type} {P : α → Prop} {F : α → Den} (h : ∀ x, P x → OD r (F x) B R) : OD r (exD P F) B R := fun H0 H x y s ⟨a, ha, hx⟩ hy Q q => h a ha H0 H x y s hx hy Q q
theorem ED.imp (h : ED Os te Γ A) (f : ∀ H v, A.p H v → B.p H v) : ED Os te Γ B := fun σ H0 H e s w Q q => h σ H0 H e s w Q fun v H0' H' g hv => q v H0' H' g (f _ _ hv)
theorem ex_sub {α : Type} {P : α → Prop} {F : α → Den} {x : α} (h : P x) : ∀ H v, (F x).p H v → (exD P F).p H v := fun H v hv => ⟨x, h, hv⟩
theorem Env.same {H : Hp} {σ : L2.St} {i : Nat} (e : Env H Γ σ) (h : Γ[i]? = some (some A)) (hB : ∀ v, A.p H v → B.p H v) : Env H (Γ.set i (some B)) σ := by
  obtain ⟨x, hx, rx⟩ := e.get h
  have z := e.set i (R := B) (v := x) (hB x rx)
  have e3 : σ.set i (some x) = σ := by
    apply List.ext_getElem?
    intro j
    by_cases hj : j = i
    · subst hj
      have hlt := (List.getElem?_eq_some_iff.mp hx).1
      rw [List.getElem?_set_self hlt, hx]
    · rw [List.getElem?_set_ne (Ne.symm hj)]
  rw [e3] at z
  exact z
/-- a slot that holds one of some -/
theorem sb_exv {α : Type} {P : α → Prop} {F : α → Den} {i : Nat} (h : Γ[i]? = some (some (exD P F))) (hs : ∀ x, P x → SB Os sa (Γ.set i (some (F x))) N O) : SB Os sa Γ N O := fun σ H0 H D e s w q r => by
  obtain ⟨v, hv, x, hx, rx⟩ := e.get h
  refine hs x hx σ H0 H D ?_ s w q r
  have z := e.set i (R := F x) (v := v) rx
  have e3 : σ.set i (some v) = σ := by
    apply List.ext_getElem?
    intro j
    by_cases hj : j = i
    · subst hj
      have hlt := (List.getElem?_eq_some_iff.mp hv).1
      rw [List.getElem?_set_self hlt, hv]
    · rw [List.getElem?_set_ne (Ne.symm hj)]
  rw [e3] at z
  exact z
end
end Dn
/-! VQ -/
namespace Pr
open PySem PySem.Spec PyProof.Rows L2 Dn Rb
/-- a rng's two numbers -/
def RngP (p : Int × Int) : Prop := 0 ≤ p.1 ∧ 0 ≤ p.2 ∧ p.2 ≤ 2147483629
abbrev rngL (p : Int × Int) : Ow := lstO [intD p.1, intD p.2]
def rngO : Ow := exO RngP rngL
theorem rng_back {a : Addr} {p : Int × Int} {Os : Own} (h : RngP p) : (∀ b, b ∈ ads ((a, rngO) :: Os) → b ∈ ads ((a, rngL p) :: Os)) ∧ ∀ H0 H, Hold ((a, rngL p) :: Os) H0 H → Hold ((a, rngO) :: Os) H0 H := ⟨fun b hb => hb, fun H0 H w => ⟨w.nd, fun q hq => by
  rcases List.mem_cons.mp hq with z | z
  · subst z
    obtain ⟨n, o, eo, po⟩ := w.at_ _ List.mem_cons_self
    exact ⟨n, o, eo, p, h, po⟩
  · exact w.at_ _ (List.mem_cons_of_mem _ z)⟩⟩
section
variable {P : Program} {w : World} {K : PySem.W.Frag} {mg : Str → Option Value} {base : Heap}
abbrev r_l_draw (K : PySem.W.Frag) : List Den → Own → Own → Den → Prop := ow (fun a : Addr × Int => 1 ≤ a.2 ∧ a.2 ≤ 1000) (fun a => [valD (.ref a.1), intD a.2]) (fun a => [(a.1, rngO)]) (fun a => [(a.1, rngO)]) (fun a => exD (fun i : Nat => (i : Int) < a.2) fun i => intD (i : Nat))
theorem ok_l_draw (T : Txt K mg) : FnOk P w K mg base CX0 1 (a_l_draw K) (fdOf K (a_l_draw K)) ["_law_rng_here", "_law_size"] (DefSp (r_l_draw K)) := by
  refine ow_ok (F_l_draw T) sc_l_draw (fun _ => rfl) fun cdv A outer s H E hr => ⟨_, PSs.nox (pss_cons (ps_if (pt_cmpR op_gt (pe_ix (ix_listK (K := K)) (pv 0) pe_int (fun _ _ => rfl)) pe_int (nomark _)) (pss_cons (ps_asg (pe_callB call_divmod (by rfl) (z_divmod T) boot_divmod (pa_cons (pe_ix (ix_listK (K := K)) (pv 0) pe_int (fun _ _ => rfl)) (pa_cons (pv 1) pa_nil))) (pg_tupK (K := K) (n := 2) rfl (pgs_cons (pg_sub (pv 0) pe_int set_list) (pgs_cons (pg_name (i := 2) sc_l_draw.nd rfl (Or.inl rfl)) pgs_nil))))
  (pss_one (ps_ret (pv 2)))) pss_nil)
  (pss_cons (ps_asg (pe_op op_mod (pe_callTy call_int1 (by rfl) (z_int T) boot_int (pa_cons (pe_op op_add (pe_op op_mul (pe_ix (ix_listK (K := K)) (pv 0) pe_int (fun _ _ => rfl)) pe_int) pe_int) pa_nil)) pe_int) (pg_sub (pv 0) pe_int set_list))
  (pss_one (ps_ret (pe_op op_mod (pe_callTy call_int1 (by rfl) (z_int T) boot_int (pa_cons (pe_op op_fdiv (pe_op op_mod (pe_callTy call_int1 (by rfl) (z_int T) boot_int (pa_cons (pe_op op_mul (pe_ix (ix_listK (K := K)) (pv 0) pe_int (fun _ _ => rfl)) (pe_ix (ix_listK (K := K)) (pv 0) pe_int (fun _ _ => rfl))) pa_nil)) pe_int) pe_int) pa_nil)) (pv 1)))))), ?_⟩
  rintro ⟨r, z⟩ ⟨h1, h2⟩
  dsimp only at h1 h2 ⊢
  refine sb_open fun p hp => ?_
  obtain ⟨x, y⟩ := p
  obtain ⟨p1, p2, p3⟩ := hp
  dsimp only at p1 p2 p3
  refine SB.wk2 (N' := no) (O' := fun o d => (∃ p, RngP p ∧ o = [(r, rngL p)]) ∧ Dn.Sub d (exD (fun i : Nat => (i : Int) < z) fun i => intD (i : Nat))) ?_ (fun _ _ m => nomatch m) fun o d m => ?_
  · refine sb_ifs (b := decide (0 < x)) (et_test (ed_op (ed_ixO (i := 0) (ed_var rfl) ed_c List.mem_cons_self rfl) ed_c od_gt)) (fun hx => ?_) fun hx => sb_skip ?_
    · have hd : CDiv x z := ⟨by omega, by omega⟩
      refine sb_stop (sb_seq (sb_setL2 (i := 0) (j := 2) (B := intD (x / z)) (C := intD (x % z)) (ed_cb (ea_cons (ed_ixO (i := 0) (ed_var rfl) ed_c List.mem_cons_self rfl) (ea_cons (ed_var rfl) ea_nil)) (cd_divmod hd)) (ed_var rfl) ed_c (by show 0 < 2; omega) ⟨rfl, rfl⟩) (sb_ret (R := intD (x % z)) (ed_var rfl) ⟨⟨(x / z, y), ⟨Int.ediv_nonneg p1 (by omega), p2, p3⟩, rfl⟩, fun H v hv => ⟨(x % z).toNat, ?_, ?_⟩⟩))
      · have := Int.emod_nonneg x (show z ≠ 0 by omega)
        have := Int.emod_lt_of_pos x (show 0 < z by omega)
        omega
      · have := Int.emod_nonneg x (show z ≠ 0 by omega)
        show v = V.int _
        rw [show v = V.int (x % z) from hv, Int.toNat_of_nonneg this]
    · have hm : CMul y 39373 := .inr ⟨by omega, by omega⟩
      have q0 := Int.emod_nonneg (y * 39373 + 9973) (show (2147483629 : Int) ≠ 0 by omega)
      have q1 := Int.emod_lt_of_pos (y * 39373 + 9973) (show (0 : Int) < 2147483629 by omega)
      generalize hy : (y * 39373 + 9973) % 2147483629 = y2 at q0 q1
      refine sb_seq (Os1 := [(r, rngL (x, y2))]) (Γ1 := ctx n_l_draw.length [valD (.ref r), intD z]) (sb_setL (i := 1) (B := intD y2) (hy ▸ ed_op (ed_cb (ea_cons (ed_op (ed_op (ed_ixO (i := 1) (ed_var rfl) ed_c List.mem_cons_self rfl) ed_c (od_mul hm)) ed_c od_add) ea_nil) cd_int) ed_c (od_mod (by omega))) (ed_var rfl) ed_c (by show 1 < 2; omega) ⟨rfl, rfl⟩) ?_
      have hm2 : CMul y2 y2 := .inr ⟨by omega, by omega⟩
      generalize hq : (y2 * y2 % 2147483563 / 13) = u
      have u0 : 0 ≤ u := by rw [← hq]; exact Int.ediv_nonneg (Int.emod_nonneg _ (by omega)) (by omega)
      refine sb_ret (R := intD (u % z)) (hq ▸ ed_op (ed_cb (ea_cons (ed_op (ed_op (ed_cb (ea_cons (ed_op (ed_ixO (i := 1) (ed_var rfl) ed_c List.mem_cons_self rfl) (ed_ixO (i := 1) (ed_var rfl) ed_c List.mem_cons_self rfl) (od_mul hm2)) ea_nil) cd_int) ed_c (od_mod (by omega))) ed_c (od_fdiv ⟨by omega, by omega⟩)) ea_nil) cd_int) (ed_var rfl) (od_mod (by omega))) ⟨⟨(x, y2), ⟨p1, q0, by dsimp only; omega⟩, rfl⟩, fun H v hv => ⟨(u % z).toNat, ?_, ?_⟩⟩
      · have := Int.emod_nonneg u (show z ≠ 0 by omega)
        have := Int.emod_lt_of_pos u (show 0 < z by omega)
        omega
      · have := Int.emod_nonneg u (show z ≠ 0 by omega)
        show v = V.int _
        rw [show v = V.int (u % z) from hv, Int.toNat_of_nonneg this]
  · obtain ⟨⟨p, hp, rfl⟩, hs⟩ := m
    exact ⟨_, ⟨rfl, hs⟩, rng_back hp⟩
abbrev rngP (a : Addr) : Own := [(a, rngO)]
/-- an index below -/
abbrev belD (z : Int) : Den := exD (fun i : Nat => (i : Int) < z) fun i => intD (i : Nat)
theorem ed_draw {Os : Own} {Γ : Dn.Ctx} {tA : TA} {r : Addr} {z : Int} (h : EA Os tA Γ [valD (.ref r), intD z]) (hz : 1 ≤ z ∧ z ≤ 1000) (hm : (r, rngO) ∈ Os) : ED Os (tCall (DefSp (r_l_draw K)) [] E0 tA) Γ (belD z) :=
  ed_call1P (α := Addr × Int) (r, z) h hz rfl rfl hm
abbrev r_l_choice (K : PySem.W.Frag) : List Den → Own → Own → Den → Prop := ow (fun a : Addr × List Den => a.2 ≠ [] ∧ a.2.length ≤ 1000) (fun a => [valD (.ref a.1), lstD a.2]) (fun a => rngP a.1) (fun a => rngP a.1) (fun a => exD (fun R => R ∈ a.2) fun R => R)
theorem ok_l_choice (T : Txt K mg) : FnOk P w K mg base CX0 2 (a_l_choice K) (fdOf K (a_l_choice K)) ["_law_rng_here", "_law_some"] (DefSp (r_l_choice K)) := by
  refine ow_ok (F_l_choice T) sc_l_choice (fun _ => rfl) fun cdv A outer s H E hr => ⟨_, PSs.nox (pss_one (ps_ret (pe_ix (ix_listK (K := K)) (pv 1) (pe_call (ok_l_draw T) (hr.mono (by decide)) rfl (g_l_draw T) (F_l_draw T).kp (b_l_draw T) .nil pass0 (pa_cons (pv 0) (pa_cons (pe_callB (call_lenK (K := K)) (by rfl) (z_len T) boot_len (pa_cons (pv 1) pa_nil)) pa_nil))) (fun _ _ => rfl)))), ?_⟩
  rintro ⟨r, Rs⟩ ⟨h1, h2⟩
  dsimp only at h1 h2 ⊢
  have h0 := List.length_pos_iff.mpr h1
  exact sb_ret (R := exD (fun R => R ∈ Rs) fun R => R) (ed_op (ed_var rfl) (ed_draw (ea_cons (ed_var rfl) (ea_cons (ed_cb (ea_cons (ed_var rfl) ea_nil) (cd_len (by omega))) ea_nil)) ⟨by omega, by omega⟩ List.mem_cons_self) (od_exR fun i hi => (od_ixL (List.getElem?_eq_getElem (by omega))).res (ex_sub (P := fun R => R ∈ Rs) (F := fun R => R) (List.getElem_mem _))))
theorem ed_choice {Os : Own} {Γ : Dn.Ctx} {tA : TA} {r : Addr} {α : Type} {xs : List α} {d : α → Den} (h : EA Os tA Γ [valD (.ref r), lstD (xs.map d)]) (hz : xs ≠ [] ∧ xs.length ≤ 1000) (hm : (r, rngO) ∈ Os) : ED Os (tCall (DefSp (r_l_choice K)) [] E0 tA) Γ (exD (fun x => x ∈ xs) d) :=
  (ed_call1P (α := Addr × List Den) (r, xs.map d) h ⟨fun z => hz.1 (List.map_eq_nil_iff.mp z), by rw [List.length_map]; exact hz.2⟩ rfl rfl hm).imp fun H v ⟨R, hR, hv⟩ => by
    obtain ⟨x, hx, e⟩ := List.mem_map.mp hR
    exact ⟨x, hx, by rw [e]; exact hv⟩
theorem ed_ints {Os : Own} {Γ : Dn.Ctx} {tA : TA} {is : List Int} (h : EA Os tA Γ (is.map fun i => intD i)) (hz : is.length ≤ 1000) : ED Os (tLst tA) Γ (lstD (is.map fun i => intD i)) := ed_lst h (by rw [List.length_map]; omega)
def PairP (p : Mny) : Prop := 0 ≤ p.1 ∧ p.1 ≤ 2 ∧ ∀ k, p.2 = some k → p.1 ≤ k ∧ k ≤ 4
abbrev pairD (p : Mny) : Den := tupD [intD p.1, optD p.2]
abbrev r_l_pair (K : PySem.W.Frag) : List Den → Own → Own → Den → Prop := ow (fun _ : Addr => True) (fun r => [valD (.ref r)]) (fun r => rngP r) (fun r => rngP r) (fun _ => exD PairP pairD)
theorem ok_l_pair (T : Txt K mg) : FnOk P w K mg base CX0 3 (a_l_pair K) (fdOf K (a_l_pair K)) ["_law_rng_here"] (DefSp (r_l_pair K)) := by
  refine ow_ok (F_l_pair T) sc_l_pair (fun _ => rfl) fun cdv A outer s H E hr => ⟨_, PSs.nox (pss_cons (ps_par (i := 1) (j := 2) (by rfl) sc_l_pair.nd rfl rfl (by decide) rfl rfl (pa_cons (pe_call (ok_l_choice T) (hr.mono (by decide)) rfl (g_l_choice T) (F_l_choice T).kp (b_l_choice T) .nil pass0 (pa_cons (pv 0) (pa_cons (pe_lst (pa_cons pe_int (pa_cons pe_int (pa_cons pe_int (pa_cons pe_int (pa_cons pe_int pa_nil)))))) pa_nil))) (pa_cons (pe_call (ok_l_draw T) (hr.mono (by decide)) rfl (g_l_draw T) (F_l_draw T).kp (b_l_draw T) .nil pass0 (pa_cons (pv 0) (pa_cons pe_int pa_nil))) pa_nil)) (by rfl))
  (pss_one (ps_ret (pe_ifExp (pt_cmpR op_eq (pv 2) pe_int (nomark _)) (pe_tup (pa_cons (pv 1) (pa_cons pe_non pa_nil))) (pe_tup (pa_cons (pv 1) (pa_cons (pe_op op_add (pv 1) (pe_call (ok_l_choice T) (hr.mono (by decide)) rfl (g_l_choice T) (F_l_choice T).kp (b_l_choice T) .nil pass0 (pa_cons (pv 0) (pa_cons (pe_lst (pa_cons pe_int (pa_cons pe_int (pa_cons pe_int (pa_cons pe_int pa_nil))))) pa_nil)))) pa_nil))))))), ?_⟩
  intro r _
  refine sb_seq (sb_par (ea_cons (ed_choice (xs := [(0 : Int), 0, 1, 1, 2]) (d := fun i => intD i) (ea_cons (ed_var rfl) (ea_cons (ed_ints (is := [(0 : Int), 0, 1, 1, 2]) (ea_cons ed_c (ea_cons ed_c (ea_cons ed_c (ea_cons ed_c (ea_cons ed_c ea_nil))))) (by decide)) ea_nil)) ⟨by decide, by decide⟩ List.mem_cons_self) (ea_cons (ed_draw (z := 4) (ea_cons (ed_var rfl) (ea_cons ed_c ea_nil)) ⟨by decide, by decide⟩ List.mem_cons_self) ea_nil))) ?_
  refine sb_exv (i := 1) rfl fun low hlow => sb_exv (i := 2) rfl fun way hway => ?_
  have hl : 0 ≤ low ∧ low ≤ 2 := by
    simp at hlow
    omega
  refine sb_ret (R := exD PairP pairD) (ed_if (b := decide (((way : Nat) : Int) = 0)) (et_test (ed_op (ed_var rfl) ed_c od_eqI)) (fun _ => (ed_tup (ea_cons (ed_var rfl) (ea_cons ed_c ea_nil))).imp (ex_sub (P := PairP) (F := pairD) (x := ((low, none) : Mny)) ⟨hl.1, hl.2, fun k z => nomatch z⟩)) fun _ => ?_)
  have z := ed_choice (K := K) (Os := rngP r) (xs := [(0 : Int), 0, 1, 2]) (d := fun i => intD i) (Γ := [some (valD (.ref r)), some (intD low), some (intD (way : Nat))]) (tA := tCons (tVar 0) (tCons (tLst (tCons (tC (.int 0)) (tCons (tC (.int 0)) (tCons (tC (.int 1)) (tCons (tC (.int 2)) tNil))))) tNil)) (ea_cons (ed_var rfl) (ea_cons (ed_ints (is := [(0 : Int), 0, 1, 2]) (ea_cons ed_c (ea_cons ed_c (ea_cons ed_c (ea_cons ed_c ea_nil)))) (by decide)) ea_nil)) ⟨by decide, by decide⟩ List.mem_cons_self
  refine ED.imp (A := tupD [intD low, exD (fun k : Int => low ≤ k ∧ k ≤ 4) fun k => intD k]) (ed_tup (ea_cons (ed_var rfl) (ea_cons (ed_op (ed_var rfl) z (R := exD (fun k : Int => low ≤ k ∧ k ≤ 4) fun k => intD k) (od_exR fun i hi => od_add.res (ex_sub (P := fun k : Int => low ≤ k ∧ k ≤ 4) (F := fun k => intD k) (x := low + i) ⟨by simp at hi; omega, by simp at hi; omega⟩))) ea_nil))) fun H v ⟨a, vs, e1, e2, hf⟩ => by
    cases hf with
    | cons r1 t1 => cases t1 with
      | cons r2 t2 =>
        cases t2
        obtain ⟨k, hk, rk⟩ := r2
        exact ⟨(low, some k), ⟨hl.1, hl.2, fun j e => by cases e; exact hk⟩, a, _, e1, e2, .cons r1 (.cons rk .nil)⟩
end
end Pr
/-! VR -/
namespace Pr
open PySem PySem.Spec PyProof.Rows L2 Dn Rb
abbrev rowD (q : Str × Ends4) : Den := tupD [strD q.1, strD q.2.1, pairD q.2.2.1, strD q.2.2.2.1, pairD q.2.2.2.2]
abbrev rowsD (ls : List (Str × Ends4)) : Den := lstD (ls.map fun q => rowD q)
abbrev prssD (l : List (Str × List Pr2)) : Den := sdD l fun x => prsD x
section
variable {P : Program} {w : World} {K : PySem.W.Frag} {mg : Str → Option Value} {base : Heap}
abbrev r_l_of (K : PySem.W.Frag) : List Den → Own → Own → Den → Prop := pu (fun a : List Pr2 × Str => a.1.length ≤ 1000) (fun a => [prsD a.1, strD a.2]) (fun a => strsD (namesOf a.1 a.2))
theorem ok_l_of (T : Txt K mg) : FnOk P w K mg base CX0 1 (a_l_of K) (fdOf K (a_l_of K)) ["_law_people_here", "_law_sort"] (DefSp (r_l_of K)) := by
  refine ow_ok (F_l_of T) sc_l_of (fun _ => rfl) fun cdv A outer s H E hr => ⟨_, PSs.nox (pss_one (ps_ret (pe_lc (own := [("_law_one", 2)]) (by rfl) sc_l_of.nd (pi_listK (K := K) (pv 0)) (blkOk_by (N := n_l_of) (sc := defScope s_l_of) (by decide +kernel)) (fun _ _ _ _ _ => (pg_name (i := 2) sc_l_of.nd rfl (Or.inl rfl))) (fun _ _ _ _ _ => (pts_one (pt_cmpR op_eq (pe_ix (ix_tupK (K := K)) (pv 2) pe_int (fun _ _ => rfl)) (pv 1) (nomark _)))) (fun _ _ _ _ _ => (pe_ix (ix_tupK (K := K)) (pv 2) pe_int (fun _ _ => rfl)))))), ?_⟩
  rintro ⟨l, k⟩ h
  dsimp only at h ⊢
  have e : strsD (namesOf l k) = lstD ((l.filter fun p => decide (p.1 = k)).map fun p => strD p.2) := by unfold namesOf strsD; rw [List.map_map]; rfl
  rw [e]
  exact sb_ret (ed_lc (xs := l) (p := fun p => decide (p.1 = k)) (f := fun p => strD p.2) (ei_list (ed_var rfl)) (fun p _ => gd_name) (fun p _ => et_test (ed_op (ed_op (ed_var rfl) ed_c (od_ixT (i := 0) rfl)) (ed_var rfl) od_eqS)) (fun p _ _ => ed_op (ed_var rfl) ed_c (od_ixT (i := 1) rfl)) (by decide) (by omega))
structure LdA where
  prs : List (Str × List Pr2)
  k : Str
  e : Bool
  n : Str
abbrev r_l_degree (K : PySem.W.Frag) : List Den → Own → Own → Den → Prop := pu (fun a : LdA => a.k ∈ a.prs.map (·.1) ∧ (lk a.prs a.k).length ≤ 1000) (fun a => [prssD a.prs, strD a.k, strD (endS a.e), strD a.n]) (fun a => intD (degC (lk a.prs a.k) a.e a.n : Nat))
theorem ok_l_degree (T : Txt K mg) : FnOk P w K mg base CX0 1 (a_l_degree K) (fdOf K (a_l_degree K)) ["_law_pairs_here", "_law_tag", "_law_side", "_law_name"] (DefSp (r_l_degree K)) := by
  refine ow_ok (F_l_degree T) sc_l_degree (fun _ => rfl) fun cdv A outer s H E hr => ⟨_, PSs.nox (pss_one (ps_ret (pe_callB (call_lenK (K := K)) (by rfl) (z_len T) boot_len (pa_cons (pe_lc (own := [("_law_pair_here", 4)]) (by rfl) sc_l_degree.nd (pi_listK (K := K) (pe_dget (rm1 hr) (pv 0) (pv 1) (fun _ _ => rfl))) (blkOk_by (N := n_l_degree) (sc := defScope s_l_degree) (by decide +kernel)) (fun _ _ _ _ _ => (pg_name (i := 4) sc_l_degree.nd rfl (Or.inl rfl))) (fun _ _ _ _ _ => (pts_one (pt_cmpR op_eq (pe_ix (ix_tupK (K := K)) (pv 4) (pe_callTy call_int1 (by rfl) (z_int T) boot_int (pa_cons (pe_cmpR op_eq (pv 2) pe_str (nomark _)) pa_nil)) (fun _ _ => rfl)) (pv 3) (nomark _)))) (fun _ _ _ _ _ => (pv 4))) pa_nil)))), ?_⟩
  rintro ⟨prs, k, e, n⟩ ⟨h1, h2⟩
  dsimp only at h1 h2 ⊢
  have el : degC (lk prs k) e n = (((lk prs k).filter fun p => decide ((if e then p.2 else p.1) = n)).map fun p => prD p).length := by rw [List.length_map]; cases e <;> rfl
  rw [el]
  refine sb_ret (ed_cb (ea_cons (ed_lc (xs := lk prs k) (p := fun p => decide ((if e then p.2 else p.1) = n)) (f := fun p => prD p) (ei_list (dget_s (f := fun x => prsD x) (ls := prs) h1 (ed_var rfl) (ed_var rfl))) (fun p _ => gd_name) (fun p _ => et_test (ed_op (ed_op (B := intD ((if e then 1 else 0 : Nat) : Nat)) (ed_var rfl) ?_ (od_ixT (R := strD (if e then p.2 else p.1)) (by cases e <;> rfl))) (ed_var rfl) od_eqS)) (fun p _ _ => ed_var rfl) (by decide) (by omega)) ea_nil) (cd_len (by rw [List.length_map]; exact Nat.le_trans (List.length_filter_le _ _) (by omega))))
  refine ED.cast (ed_cb (ea_cons (ed_op (ed_var rfl) ed_c od_eqS) ea_nil) cd_intB) ?_
  cases e <;> rfl
structure LaA2 where
  ls : List (Str × Ends4)
  k : Str
  e : Bool
abbrev r_l_at (K : PySem.W.Frag) : List Den → Own → Own → Den → Prop := pu (fun a : LaA2 => a.k ∈ a.ls.map (·.1) ∧ a.ls.length ≤ 1000) (fun a => [rowsD a.ls, strD a.k, strD (endS a.e)]) (fun a => tupD [strD (kindAt a.ls a.k a.e), pairD (manyAt a.ls a.k a.e)])
theorem ok_l_at (T : Txt K mg) : FnOk P w K mg base CX0 1 (a_l_at K) (fdOf K (a_l_at K)) ["_law_rows", "_law_tag", "_law_side"] (DefSp (r_l_at K)) := by
  refine ow_ok (F_l_at T) sc_l_at (fun _ => rfl) fun cdv A outer s H E hr => ⟨_, PSs.nox (pss_cons (ps_set (i := 3) sc_l_at.nd rfl (Or.inl rfl) (pe_ix (ix_listK (K := K)) (pe_lc (own := [("_law_row", 3)]) (by rfl) sc_l_at.nd (pi_listK (K := K) (pv 0)) (blkOk_by (N := n_l_at) (sc := defScope s_l_at) (by decide +kernel)) (fun _ _ _ _ _ => (pg_name (i := 3) sc_l_at.nd rfl (Or.inl rfl))) (fun _ _ _ _ _ => (pts_one (pt_cmpR op_eq (pe_ix (ix_tupK (K := K)) (pv 3) pe_int (fun _ _ => rfl)) (pv 1) (nomark _)))) (fun _ _ _ _ _ => (pv 3))) pe_int (fun _ _ => rfl)))
  (pss_one (ps_ret (pe_ifExp (pt_cmpR op_eq (pv 2) pe_str (nomark _)) (pe_tup (pa_cons (pe_ix (ix_tupK (K := K)) (pv 3) pe_int (fun _ _ => rfl)) (pa_cons (pe_ix (ix_tupK (K := K)) (pv 3) pe_int (fun _ _ => rfl)) pa_nil))) (pe_tup (pa_cons (pe_ix (ix_tupK (K := K)) (pv 3) pe_int (fun _ _ => rfl)) (pa_cons (pe_ix (ix_tupK (K := K)) (pv 3) pe_int (fun _ _ => rfl)) pa_nil))))))), ?_⟩
  rintro ⟨ls, k, e⟩ ⟨h1, h2⟩
  dsimp only at h1 h2 ⊢
  have hf : (ls.filter fun q => decide (q.1 = k))[0]? = some (k, lk ls k) := by
    obtain ⟨p, e, m, hk⟩ := find_mem h1
    rw [← List.head?_eq_getElem?, List.head?_filter, e]
    have e2 : lk ls k = p.2 := by unfold lk; rw [e]; rfl
    rw [e2, ← hk]
  refine sb_seq (sb_asg (A := rowD (k, lk ls k)) (ed_op (ed_lc (xs := ls) (p := fun q => decide (q.1 = k)) (f := fun q => rowD q) (ei_list (ed_var rfl)) (fun q _ => gd_name) (fun q _ => et_test (ed_op (ed_op (ed_var rfl) ed_c (od_ixT (i := 0) rfl)) (ed_var rfl) od_eqS)) (fun q _ _ => ed_var rfl) (by decide) (by omega)) ed_c (od_ixL (i := 0) (by rw [List.getElem?_map, hf]; rfl)))) ?_
  refine sb_ret (ed_if (b := !e) (ET.cast (et_test (ed_op (ed_var rfl) ed_c od_eqS)) (by cases e <;> decide)) (fun z => ?_) fun z => ?_)
  · cases e with
    | true => cases z
    | false => exact ed_tup (ea_cons (ed_op (ed_var rfl) ed_c (od_ixT (i := 1) rfl)) (ea_cons (ed_op (ed_var rfl) ed_c (od_ixT (i := 2) rfl)) ea_nil))
  · cases e with
    | false => cases z
    | true => exact ed_tup (ea_cons (ed_op (ed_var rfl) ed_c (od_ixT (i := 3) rfl)) (ea_cons (ed_op (ed_var rfl) ed_c (od_ixT (i := 4) rfl)) ea_nil))
/-- all pairs that a link can have -/
def couldL (q : Str × Ends4) (ps : List Pr2) : List Pr2 := (namesOf ps q.2.1).flatMap fun a => (namesOf ps q.2.2.2.1).map fun b => (a, b)
abbrev r_l_could (K : PySem.W.Frag) : List Den → Own → Own → Den → Prop := pu (fun a : (Str × Ends4) × List Pr2 => a.2.length ≤ 100) (fun a => [rowD a.1, prsD a.2]) (fun a => prsD (couldL a.1 a.2))
theorem ok_l_could (T : Txt K mg) : FnOk P w K mg base CX0 2 (a_l_could K) (fdOf K (a_l_could K)) ["_law_row", "_law_people_here"] (DefSp (r_l_could K)) := by
  refine ow_ok (F_l_could T) sc_l_could (fun _ => rfl) fun cdv A outer s H E hr => ⟨_, PSs.nox (pss_cons (ps_set (i := 2) sc_l_could.nd rfl (Or.inl rfl) (pe_lst pa_nil))
  (pss_cons (ps_for PassesOwn.never rfl (pi_listK (K := K) (pe_call (ok_l_of T) (hr.mono (by decide)) rfl (g_l_of T) (F_l_of T).kp (b_l_of T) .nil pass0 (pa_cons (pv 1) (pa_cons (pe_ix (ix_tupK (K := K)) (pv 0) pe_int (fun _ _ => rfl)) pa_nil)))) (pg_name (i := 3) sc_l_could.nd rfl (Or.inr rfl))
  (pss_one (ps_set (i := 2) sc_l_could.nd rfl (Or.inl rfl) (pe_op op_cat (pv 2) (pe_lc (own := [("_law_b", 4)]) (by rfl) sc_l_could.nd (pi_listK (K := K) (pe_call (ok_l_of T) (hr.mono (by decide)) rfl (g_l_of T) (F_l_of T).kp (b_l_of T) .nil pass0 (pa_cons (pv 1) (pa_cons (pe_ix (ix_tupK (K := K)) (pv 0) pe_int (fun _ _ => rfl)) pa_nil)))) (blkOk_by (N := n_l_could) (sc := defScope s_l_could) (by decide +kernel)) (fun _ _ _ _ _ => (pg_name (i := 4) sc_l_could.nd rfl (Or.inl rfl))) (fun _ _ _ _ _ => pts_nil) (fun _ _ _ _ _ => (pe_tup (pa_cons (pv 3) (pa_cons (pv 4) pa_nil)))))))))
  (pss_one (ps_ret (pv 2))))), ?_⟩
  rintro ⟨q, ps⟩ h
  dsimp only at h ⊢
  have hn : ∀ k, (namesOf ps k).length ≤ 100 := fun k => by
    unfold namesOf
    rw [List.length_map]
    exact Nat.le_trans (List.length_filter_le _ _) h
  refine sb_seq (sb_asg (A := lstD []) (ed_lst ea_nil)) ?_
  refine sb_seq (Γ1 := [some (rowD q), some (prsD ps), some (prsD (couldL q ps)), none, none]) (Os1 := []) (sb_forP (xs := namesOf ps q.2.1) (d := fun a => strD a) (Oz := fun _ => []) (Γs := fun pre => [some (rowD q), some (prsD ps), some (prsD (pre.flatMap fun a => (namesOf ps q.2.2.2.1).map fun b => (a, b))), none, none]) (ei_list (ed_callP (α := List Pr2 × Str) (ps, q.2.1) (ea_cons (ed_var rfl) (ea_cons (ed_op (ed_var rfl) ed_c (od_ixT (i := 1) rfl)) ea_nil)) (by dsimp only; omega))) rfl (fun _ => rfl) .refl (fun pre a post sp => ⟨_, _, gd_name, ?_⟩) ⟨rfl, rfl⟩) (sb_ret (ed_var rfl))
  have lp : (pre.flatMap fun a => (namesOf ps q.2.2.2.1).map fun b => (a, b)).length ≤ 100 * pre.length := by
    clear sp
    induction pre with
    | nil => exact Nat.le_refl _
    | cons x l ih => rw [List.flatMap_cons, List.length_append, List.length_map, List.length_cons]; have := hn q.2.2.2.1; omega
  have lp2 : pre.length ≤ 100 := by
    have := congrArg List.length sp
    rw [List.length_append] at this
    have := hn q.2.1
    omega
  have e : prsD ((pre ++ [a]).flatMap fun a => (namesOf ps q.2.2.2.1).map fun b => (a, b)) = lstD (((pre.flatMap fun a => (namesOf ps q.2.2.2.1).map fun b => (a, b)).map fun p => prD p) ++ (namesOf ps q.2.2.2.1).map fun b => prD (a, b)) := by
    unfold prsD
    rw [List.flatMap_append, List.map_append, List.flatMap_cons, List.flatMap_nil, List.append_nil, List.map_map]
    rfl
  rw [e]
  exact SB.less (sb_asg (ed_op (ed_var rfl) (ed_lc0 (xs := namesOf ps q.2.2.2.1) (f := fun b => prD (a, b)) (ei_list (ed_callP (α := List Pr2 × Str) (ps, q.2.2.2.1) (ea_cons (ed_var rfl) (ea_cons (ed_op (ed_var rfl) ed_c (od_ixT (i := 3) rfl)) ea_nil)) (by dsimp only; omega))) (fun b _ => gd_name) (fun b _ => ed_tup (ea_cons (ed_var rfl) (ea_cons (ed_var rfl) ea_nil))) (by decide) (by have := hn q.2.2.2.1; omega)) (od_cat (by rw [List.length_map, List.length_map]; have := hn q.2.2.2.1; omega)))) (.keep (.keep (.keep (.drop (.drop .nil)))))
end
end Pr
/-! RulT -/
/-! sorted of a tuple of texts. -/
namespace Rb
open PySem PySem.Spec PyProof PyProof.Rows L2
section
variable {P : Program} {w : World} {A : Around} {s : Shared} {E : Value → Shared → Prop}
theorem collect_tupS {l : Addr} {vs : List Value} {Q : List Value → Shared → Prop} (hl : IsTup s.heap l vs.toArray) (hsz : vs.length ≤ sizeLine)
    (h : Q vs { s with heap := (s.heap.push (seqObj "list" #[] 0)).update s.heap.objs.size (Obj.mapSeq (· ++ vs.toArray)) }) : wpAny (model P w) A (collect (.ref l)) Q E s := by
  obtain ⟨o, ho, hc, n, hd⟩ := id hl
  unfold collect
  refine wpAny_bind (wpAny_runValue (codeAny_builtin entry_proto_collect' ?_))
  show wpAny _ _ (do again (.builtin "list.__iadd__" ⟨[← newList [], .ref l], []⟩)) _ _ s
  refine wpAny_bind (wpAny_newList (wpAny_pure ⟨Code.quiet_builtin _ (by decide +kernel), codeAny_builtin entry_list_iadd' ?_⟩))
  show wpAny _ _ (Builtin.List.listExtendWith (.ref s.heap.objs.size) (.ref l) (.ref s.heap.objs.size)) _ _ { s with heap := s.heap.push (seqObj "list" #[] 0) }
  unfold Builtin.List.listExtendWith
  have ho' : (s.heap.push (seqObj "list" #[] 0)).get? l = some o := Heap.get?_push_of_some _ ho
  refine wpAny_bind (wpAny_typeOf (T := "tuple") ⟨o, ho', hc⟩ ?_)
  have ht : (Value.type "tuple" == Value.type "tuple") = true := by rfl
  rw [if_pos (by rw [ht]; simp)]
  refine wpAny_bind (listItems_at ho' hd ?_)
  refine wpAny_bind (listItems_at (xs := #[]) (n := 0) (Heap.get?_push_size _ rfl) rfl ?_)
  rw [if_neg (by simp)]
  refine wpAny_bind (listUpdate_at (xs := #[]) (n := 0) (Heap.get?_push_size _ rfl) rfl ?_ (Nat.zero_le _) (by show (#[] ++ vs.toArray).size ≤ sizeLine + 1; simp only [Array.size_append, List.size_toArray, List.length_nil]; omega))
  refine wpAny_pure ?_
  show wpAny (model P w) A (do
      let o ← load s.heap.objs.size
      match o.data with
      | .seq xs _ => pure xs.toList
      | _ => unsupported "internal:collect") Q E { s with heap := (s.heap.push (seqObj "list" #[] 0)).update s.heap.objs.size (Obj.mapSeq (· ++ vs.toArray)) }
  refine wpAny_bind (wpAny_load (get?_update_seq (Heap.get?_push_size _ rfl) _) ?_)
  show wpAny _ _ (pure ((#[] : Array Value) ++ vs.toArray).toList) Q E _
  rw [show ((#[] : Array Value) ++ vs.toArray).toList = vs by simp]
  exact wpAny_pure h
theorem sorted_tupS {a : Addr} {vs : List Value} {xs : List Str} {Q : Value → Shared → Prop} (ht : IsTup s.heap a vs.toArray) (hxs : StrsAre vs xs) (h64 : vs.length < 64)
    (hQ : ∀ s' p (out : Array Value) (c : Nat) (ys : List Str), (∀ b o, s.heap.get? b = some o → s'.heap.get? b = some o) → s'.gens = s.gens → s'.os = s.os → s.heap.objs.size ≤ p →
      s'.heap.get? p = some (seqObj "list" out c) → StrsAre out.toList ys → ys.Perm xs → sortedS ys = true → Q (.ref p) s') :
    wpAny (model P w) A (call (.builtin "sorted") [.ref a]) Q E s := by
  refine Calls.call_function_entry kind_sorted plain_sorted entry_sorted (args_sorted1 _) ?_
  unfold Builtin.«sorted»
  refine wpAny_bind (m := checkCount "sorted" 1 1 _) (wpAny_pure ?_)
  refine wpAny_bind (collect_tupS (A := A.in1) ht (by rw [sizeLine_eq]; omega) ?_)
  have k1 : ∀ b u, s.heap.get? b = some u → ((s.heap.push (seqObj "list" #[] 0)).update s.heap.objs.size (Obj.mapSeq (· ++ vs.toArray))).get? b = some u := fun b u e => (Heap.get?_update_other _ _ (Nat.ne_of_gt (Heap.lt_size e))).trans (Heap.get?_push_of_some _ e)
  have hz : s.heap.objs.size ≤ ((s.heap.push (seqObj "list" #[] 0)).update s.heap.objs.size (Obj.mapSeq (· ++ vs.toArray))).objs.size := by
    exact Nat.le_of_lt (Heap.lt_size (get?_update_seq (h := s.heap.push (seqObj "list" #[] 0)) (a := s.heap.objs.size) (c := "list") (xs := #[]) (n := 0) (Heap.get?_push_size _ rfl) (· ++ vs.toArray)))
  generalize (s.heap.push (seqObj "list" #[] 0)).update s.heap.objs.size (Obj.mapSeq (· ++ vs.toArray)) = h' at k1 hz ⊢
  refine wpAny_bind (wpAny_newList ?_ (by rw [sizeLine_eq]; show vs.length ≤ _; omega))
  have hoL : (h'.push (seqObj "list" vs.toArray 0)).get? h'.objs.size = some (seqObj "list" vs.toArray 0) := Heap.get?_push_size _ rfl
  refine wpAny_bind (wpAny_holding (wpAny_call_entry slot_list_sort ⟨_, hoL, rfl⟩ entry_list_sort (list_sort_treeKAny strKind_oneLt hoL hxs.keysOf (fun v₁ v₂ rest e => keyKind_strs (by rw [← e]; exact hxs)) (by rw [sizeLine_eq]; omega) fun st' hp hs => ⟨_, rfl, ?_⟩) (args_list_sort _)))
  obtain ⟨ys, y1, y2, y3⟩ := sorted_out_str hxs hp hs
  obtain ⟨c, hc'⟩ := sortedHeap_at (vs := vs) (out := (arrOf st').map (·.2)) hoL
  refine wpAny_pure ⟨_, rfl, hQ _ h'.objs.size _ c ys (fun b u e => ?_) rfl rfl hz hc' y1 y2 y3⟩
  have q := k1 b u e
  have hlt := Heap.lt_size q
  show (sortedHeap (h'.push (seqObj "list" vs.toArray 0)) h'.objs.size vs _).get? b = some u
  rw [sortedHeap_old (Nat.ne_of_lt hlt) (by rw [size_push']; exact Nat.lt_succ_of_lt hlt)]
  exact Heap.get?_push_of_some _ q
end
section
variable {X : Cx} {K : PySem.W.Frag}
def rSortedST (K : PySem.W.Frag) : List V → Hp → VK → Prop := fun vs H Q => ∃ (a : Addr) (xs : List Str), vs = [V.ref a] ∧ SqT K H a (xs.map V.str) ∧ xs.length < 64 ∧
  ∀ (ys : List Str) (p : Addr), ys.Perm xs → sortedS ys = true → H p = none → Q (.ref p) (upd H p (.lst (ys.map V.str)))
theorem cr_sortedST (hK : X.K = K := by rfl) : CallR X (.builtin "sorted") (rSortedST K) := by
  subst hK
  intro pins s σ H vs us Q I r h
  obtain ⟨a, xs, rfl, ha, h64, q⟩ := h
  obtain ⟨its, rv, ht, _⟩ := I.tuple ha
  have hl0 := rv.length
  rw [List.length_map] at hl0
  rw [Vals.ref1 r]
  refine sorted_tupS ht rv.strs (by rw [← hl0]; exact h64) fun s' p out c ys k g o hp hg hi hs hm => ?_
  have hlen : (ys.map V.str).length ≤ sizeLine := by rw [List.length_map, hs.length_eq, sizeLine_eq]; omega
  have hn : H p = none := I.hok.fresh hp
  have J : Inv X pins σ (upd H p (.lst (ys.map V.str))) { s with heap := s'.heap, gens := s'.gens, drawn := s'.drawn, toks := s'.toks } :=
    I.call (ch := []) (Un.laid k hp hn) (I.hok.laid k hp ⟨hlen, out.toList, c, vals_of_strs hi, hg⟩) (by rw [g]; exact I.bare) (fun _ z => nomatch z)
  have e : s' = { s with heap := s'.heap, gens := s'.gens, drawn := s'.drawn, toks := s'.toks } := by
    cases s'
    cases s
    cases o
    rfl
  rw [e]
  exact ⟨.ref p, _, J, rfl, q ys p hs hm hn⟩
end
end Rb
/-! RulU -/
/-! t[::-1], t a tuple. -/
namespace Rb
open PySem PySem.Spec PyProof PyProof.Rows L2 HT
section
variable {P : Program} {w : World} {A : Around} {s : Shared} {E : Value → Shared → Prop}
theorem adjust_rev (n : Nat) : Builtin.Slice.sliceAdjust none none (-1) (n : Int) = ((n : Int) - 1, -1) := by
  unfold Builtin.Slice.sliceAdjust
  simp
theorem places_rev (n : Nat) : Builtin.Slice.slicePlaces ((n : Int) - 1) (-1) (-1) = n := by
  unfold Builtin.Slice.slicePlaces
  simp
  omega
theorem sliceApplied_rev {sl : Addr} {vs : Value} {n : Nat} {Q : Int × Int × Nat → Shared → Prop} (hs : s.heap.IsSliceOf sl .none .none vs) (ps : IsPart vs (some (-1)))
    (h : Q ((n : Int) - 1, -1, n) s) : wpAny (model P w) A (Builtin.Slice.sliceApplied (.ref sl) (pure (n : Int))) Q E s := by
  obtain ⟨os, hos, hcs, hds⟩ := id hs
  unfold Builtin.Slice.sliceApplied Builtin.Slice.sliceFields
  refine wpAny_bind (wpAny_bind (wpAny_field hos hds (x := .none) rfl (wpAny_bind (wpAny_field hos hds (x := .none) rfl (wpAny_bind (wpAny_field hos hds (x := vs) rfl (wpAny_pure ?_)))))))
  refine wpAny_bind (slicePart_ ps ?_)
  show wpAny _ _ (if ((-1 : Int) == 0) = true then _ else _) _ _ s
  rw [if_neg (by decide)]
  refine wpAny_bind (slicePart_none (wpAny_bind (slicePart_none (wpAny_bind (wpAny_pure ?_)))))
  show wpAny _ _ (match Builtin.Slice.sliceAdjust none none (-1) (n : Int) with | (lo, hi) => pure (lo, (-1 : Int), Builtin.Slice.slicePlaces lo hi (-1))) _ _ s
  rw [adjust_rev n]
  show wpAny _ _ (pure ((n : Int) - 1, (-1 : Int), Builtin.Slice.slicePlaces ((n : Int) - 1) (-1) (-1))) _ _ s
  rw [places_rev]
  exact wpAny_pure h
theorem fm_some {α β : Type} {f : α → Option β} {g : α → β} : ∀ {l : List α}, (∀ x, x ∈ l → f x = some (g x)) → l.filterMap f = l.map g
  | [], _ => rfl
  | x :: l, h => by
    rw [List.filterMap_cons, h x List.mem_cons_self, List.map_cons]
    exact congrArg (g x :: ·) (fm_some fun y hy => h y (List.mem_cons_of_mem _ hy))
theorem pick_rev (xs : Array Value) : ((List.range xs.size).filterMap fun (m : Nat) => xs[(((xs.size : Int) - 1) + (m : Int) * (-1)).toNat]?).toArray = xs.toList.reverse.toArray := by
  have e : (List.range xs.size).filterMap (fun (m : Nat) => xs[(((xs.size : Int) - 1) + (m : Int) * (-1)).toNat]?) = (List.range xs.size).map fun m => xs.toList.reverse[m]?.getD .none := by
    refine fm_some fun m hm => ?_
    have hm' := List.mem_range.mp hm
    have e1 : (((xs.size : Int) - 1) + (m : Int) * (-1)).toNat = xs.size - 1 - m := by omega
    rw [e1]
    show _ = some (xs.toList.reverse[m]?.getD .none)
    rw [List.getElem?_reverse (by rw [Array.length_toList]; exact hm'), Array.length_toList, Array.getElem?_toList]
    rw [Array.getElem?_eq_getElem (by omega)]
    rfl
  rw [e]
  refine congrArg List.toArray ?_
  apply List.ext_getElem?
  intro i
  rw [List.getElem?_map]
  by_cases hi : i < xs.size
  · have h2 : i < xs.toList.reverse.length := by rw [List.length_reverse, Array.length_toList]; exact hi
    rw [List.getElem?_range hi]
    show some (xs.toList.reverse[i]?.getD .none) = _
    rw [List.getElem?_eq_getElem h2]
    rfl
  · rw [List.getElem?_eq_none (by rw [List.length_range]; omega), List.getElem?_eq_none (by rw [List.length_reverse, Array.length_toList]; omega)]
    rfl
theorem getItem_tuple_rev {t sl : Addr} {items : Array Value} {vs : Value} {Q : Value → Shared → Prop} (ht : IsTup s.heap t items) (hs : s.heap.IsSliceOf sl .none .none vs) (ps : IsPart vs (some (-1)))
    (h : Q (.ref s.heap.objs.size) { s with heap := s.heap.push { cls := .type "tuple", data := .seq items.toList.reverse.toArray } })
    (hsz : items.size ≤ sizeLine) : wpAny (model P w) A (getItem (.ref t) (.ref sl)) Q E s := by
  have htake : sizeOk (.seq items.toList.reverse.toArray) := by
    show items.toList.reverse.toArray.size ≤ sizeLine
    rw [List.size_toArray, List.length_reverse, Array.length_toList]
    exact hsz
  obtain ⟨os, hos, hcs, hds⟩ := id hs
  have hTs : s.TypeIs (.ref sl) "slice" := ⟨os, hos, hcs⟩
  unfold getItem
  try with_reducible refine wpAny_holding ?_
  first | refine wpAny_bind (wpAny_pure ?_) | skip
  refine wpAny_bind (wpAny_sequenceKey ht.typeIs (by decide) ?_)
  refine wpAny_bind (wpAny_callSpecial?_slot (name := Str.ofString "__getitem__") ht.typeIs PyProof.Rows.slot_tuple_getitem
    (wpAny_call_entry PyProof.Rows.slot_tuple_getitem ht.typeIs entry_tuple_getitem ?_ (args_tuple_getitem _ _)))
  show wpAny _ _ (Builtin.Tuple.tupleItemsOf (.ref t) >>= _) _ _ s
  refine wpAny_bind (tupleItemsOf_ ht ?_)
  refine wpAny_bind (wpAny_typeOf hTs ?_)
  rw [if_pos (by decide)]
  refine wpAny_bind (sliceApplied_rev hs ps ?_)
  show wpAny _ _ (if (((items.size : Int) - 1) == 0 && (-1 : Int) == 1 && items.size == items.size) = true then _ else _) _ _ s
  rw [if_neg (by simp), pick_rev]
  first
    | exact wpAny_bind (m := Builtin.Tuple.tupleExact _) (wpAny_newObj_type (wpAny_pure ⟨_, rfl, wpAny_pure h⟩) htake)
    | exact wpAny_bind (m := Builtin.Tuple.tupleExact _) (wpAny_newObj_type (wpAny_bind (wpAny_pure (wpAny_pure ⟨_, rfl, wpAny_pure h⟩))) htake)
    | exact wpAny_bind (wpAny_bind (m := Builtin.Tuple.tupleExact _) (wpAny_newObj_type (wpAny_pure (wpAny_pure ⟨_, rfl, wpAny_pure h⟩)) htake))
    | exact wpAny_bind (wpAny_bind (m := Builtin.Tuple.tupleExact _) (wpAny_newObj_type (wpAny_pure ⟨_, rfl, wpAny_pure h⟩) htake))
end
section
variable {X : Cx}
def tRevT (K : PySem.W.Frag) (te : TE) : TE := fun σ H Q => te σ H fun x H1 => ∃ a xs, x = .ref a ∧ SqT K H1 a xs ∧ ∀ p, H1 p = none → Q (.ref p) (upd H1 p (.tup xs.reverse))
theorem pe_revT {e : Expr} {te : TE} {k : Nat} {p1 p2 p3 pos : Pos} {K : PySem.W.Frag} (he : PE X e te) (hK : X.K = K := by rfl) : PE X (.Subscript e (.Slice none none (some (.UnaryOp .USub (.Constant (.int 1) k p1) p2)) p3) pos) (tRevT K te) := by
  subst hK
  refine ⟨fun pins s σ H Q I h => ?_⟩
  refine Subscript_ (thn (he.run pins s σ H _ I h) fun v s1 ⟨x, H1, I1, r1, q1⟩ => ?_)
  obtain ⟨a, xs, ex, hx, q⟩ := q1
  subst ex
  cases r1
  have hst : PO X (some (.UnaryOp .USub (.Constant (.int 1) k p1) p2)) (tPart (tUn (rU fun i => .int (-i)) (tC (.int 1)))) := po_some (pe_un un_neg pe_int)
  refine wpAny_Slice (thn (po_none.run pins s1 σ H1 (fun o H2 => o = none ∧ H2 = H1) I1 ⟨rfl, rfl⟩) fun vl s2 ⟨l, H2, I2, pl, el, e2⟩ => ?_)
  subst el e2
  refine thn (po_none.run pins s2 σ H2 (fun o H3 => o = none ∧ H3 = H2) I2 ⟨rfl, rfl⟩) fun vu s3 ⟨u, H3, I3, pu, eu, e3⟩ => ?_
  subst eu e3
  refine thn (hst.run pins s3 σ H3 (fun o H4 => o = some (-1) ∧ H4 = H3) I3 ⟨1, rfl, -1, rfl, rfl, rfl⟩) fun vs s4 ⟨o, H4, I4, ps, eo, e4⟩ => ?_
  subst eo e4
  have I5 : Inv X pins σ H4 { s4 with heap := s4.heap.push { cls := .type "slice", data := .fields #[vl, vu, vs] } } := I4.kept (t' := s4.toks) fun b ob q => Heap.get?_push_of_some _ q
  obtain ⟨its, r, ht, hz⟩ := I5.tuple hx
  have hlen := r.length
  cases pl
  cases pu
  show wpAny (model X.prog X.w) X.A (subscriptTail e (.Slice none none (some (.UnaryOp .USub (.Constant (.int 1) k p1) p2)) p3) (.ref a) (.ref s4.heap.objs.size)) (EP X pins σ Q) X.xe { s4 with heap := s4.heap.push { cls := .type "slice", data := .fields #[.none, .none, vs] } }
  refine tail_any (ops := [.ref a, .ref s4.heap.objs.size]) ht.typeIs (PyProof.Rows.slot_tuple_getitem.lookup) ?_ (by with_unfolding_all rfl)
  refine getItem_tuple_rev ht (Heap.IsSliceOf.new _ .none .none vs) ps ?_ (by rw [List.size_toArray]; omega)
  refine ⟨.ref _, _, I5.laid (t' := s4.toks) (o := .tup xs.reverse) (fun b ob q => Heap.get?_push_of_some _ q) (Nat.le_refl _) ?_, rfl, q _ (I5.hok.fresh (Nat.le_refl _))⟩
  exact ⟨by rw [List.length_reverse]; exact hz, _, r.reverse, IsTup.new _ _⟩
end
end Rb
/-! DN -/
/-! sorted tuples of texts, tuples reversed, join. -/
namespace Dn
open PySem PySem.Spec PyProof.Rows L2
section
variable {K : PySem.W.Frag} {Os : Own} {Γ : Ctx} {te to : TE} {A B C R : Den}
theorem cd_sortedST {xs : List Str} (hl : xs.length < 64) : CD (Rb.rSortedST K) [tupD (xs.map fun x => strD x)] (lstD ((Srt.srt xs).map fun x => strD x)) := fun H0 H vs s hf Q q => by
  cases hf with
  | cons r1 t1 =>
    cases t1
    obtain ⟨a, us, e, h, hf⟩ := r1
    subst e
    rw [fits_map hf] at h
    refine ⟨a, xs, rfl, .of (s _ _ h), hl, fun ys p hp hs hn => ?_⟩
    rw [Srt.srt_eq hp hs]
    refine q _ _ _ (.new0 s hn) ⟨p, _, rfl, upd_same, ?_⟩
    have e : ((Srt.srt xs).map fun x => strD x) = ((Srt.srt xs).map V.str).map valD := by rw [List.map_map]; rfl
    rw [e]
    exact Fits.of_vals _
theorem fits_rev {H : Hp} : ∀ {Rs : List Den} {vs : List V}, Fits H Rs vs → Fits H Rs.reverse vs.reverse
  | _, _, .nil => .nil
  | _, _, .cons r t => by
    rw [List.reverse_cons, List.reverse_cons]
    exact fits_app (fits_rev t) (.cons r .nil)
theorem ed_revT {Rs : List Den} (h : ED Os te Γ (tupD Rs)) : ED Os (Rb.tRevT K te) Γ (tupD Rs.reverse) := fun σ H0 H e s w Q q =>
  h σ H0 H e s w _ fun x H1 H1' g1 ⟨a, vs, ex, ha, hf⟩ => ⟨a, vs, ex, .of (g1.sub _ _ ha), fun p hp => q _ _ _ (g1.trans (.new g1.sub g1.ow hp)) ⟨p, _, rfl, upd_same, (fits_rev hf).mono (same_upd (g1.sub.free hp))⟩⟩
/-- "..".join(list of texts) -/
theorem ed_join {z : Str} {xs : List Str} (ho : ED Os to Γ (strD z)) (h : ED Os te Γ (lstD (xs.map fun x => strD x))) (hl : (xs.map (·.length)).sum + xs.length * z.length ≤ 16777216) : ED Os (tM1 (fun x vs H Q => ∃ a p, ∃ ys : List Str, x = .str a ∧ vs = [.ref p] ∧ (SqL K H p (ys.map V.str) ∨ SqT K H p (ys.map V.str)) ∧
      (ys.map (·.length)).sum + ys.length * a.length ≤ 16777216 ∧ Q (.str (Txt.join a ys)) H) to te) Γ (strD (Txt.join z xs)) := fun σ H0 H e s w Q q =>
  ho σ H0 H e s w _ fun x H1 H1' g1 hx => ⟨⟨z, hx⟩, h σ H1 H1' (e.mono g1.s0) g1.sub g1.ow _ fun y H2 H2' g2 ⟨a, us, ey, ha, hf⟩ => by
    rw [fits_map hf] at ha
    exact ⟨z, a, xs, hx, by rw [ey], .inl (.of (g2.sub _ _ ha)), hl, q _ H2 H2' (g1.trans g2) rfl⟩⟩
theorem gd_tup3 {g g' g'' : TG} {Γ1 Γ2 Γ' : Ctx} {is js ks : List Nat} (h1 : GD g Γ A Γ1 is) (h2 : GD g' Γ1 B Γ2 js) (h3 : GD g'' Γ2 C Γ' ks) : GD (gTup K 3 (gCons g (gCons g' (gCons g'' gNil)))) Γ (tupD [A, B, C]) Γ' (is ++ (js ++ ks)) := fun σ H0 H x e s ⟨a, vs, ex, ht, hf⟩ Q q => by
  cases hf with
  | cons r1 t1 => cases t1 with
    | cons r2 t2 => cases t2 with
      | cons r3 t3 =>
        cases t3
        refine ⟨a, _, ex, .of (s _ _ ht), rfl, _, _, rfl, h1 σ H0 H _ e s r1 _ fun σ1 H1 H1' g1 e1 w1 => ?_⟩
        refine ⟨_, _, rfl, h2 σ1 H1 H1' _ e1 g1.sub (B.mono g1.s0 r2) _ fun σ2 H2 H2' g2 e2 w2 => ?_⟩
        refine ⟨_, _, rfl, h3 σ2 H2 H2' _ e2 g2.sub (C.mono (g1.s0.trans g2.s0) r3) _ fun σ3 H3 H3' g3 e3 w3 => ⟨rfl, q _ H3 H3' ((g1.trans g2).trans g3) e3 fun vs hv => ?_⟩⟩
        rw [w3 vs fun i hi => hv i (List.mem_append_right _ (List.mem_append_right _ hi)), w2 vs fun i hi => hv i (List.mem_append_right _ (List.mem_append_left _ hi)), w1 vs fun i hi => hv i (List.mem_append_left _ hi)]
end
end Dn
/-! VS -/
namespace Pr
open PySem PySem.Spec PyProof.Rows L2 Dn Rb
/-- all sorted lists of some names -/
def setsS (f : List (List Str)) (n : Str) : List (List Str) := f ++ f.map fun o => Srt.srt (o ++ [n])
def setsL (ns : List Str) : List (List Str) := ns.foldl setsS [[]]
theorem setsL_snoc (ns : List Str) (n : Str) : setsL (ns ++ [n]) = setsS (setsL ns) n := by
  unfold setsL
  rw [List.foldl_append]
  rfl
theorem setsL_len : ∀ k (ns : List Str), ns.length = k → (setsL ns).length = 2 ^ k ∧ ∀ o, o ∈ setsL ns → o.length ≤ k := by
  intro k
  induction k with
  | zero =>
    intro ns h
    rw [List.length_eq_zero_iff.mp h]
    refine ⟨rfl, fun o ho => ?_⟩
    rw [List.mem_singleton.mp ho]
    exact Nat.le_refl _
  | succ k ih =>
    intro ns h
    have hne : ns ≠ [] := fun z => by rw [z] at h; cases h
    have e := List.dropLast_concat_getLast hne
    have hl : ns.dropLast.length = k := by rw [List.length_dropLast]; omega
    obtain ⟨i1, i2⟩ := ih _ hl
    rw [← e, setsL_snoc]
    unfold setsS
    refine ⟨by rw [List.length_append, List.length_map, i1, Nat.pow_succ]; omega, fun o ho => ?_⟩
    rcases List.mem_append.mp ho with z | z
    · exact Nat.le_succ_of_le (i2 o z)
    · obtain ⟨u, hu, eu⟩ := List.mem_map.mp z
      have := i2 u hu
      rw [← eu, Srt.length_srt, List.length_append, List.length_singleton]
      omega
section
variable {P : Program} {w : World} {K : PySem.W.Frag} {mg : Str → Option Value} {base : Heap}
abbrev r_l_sets (K : PySem.W.Frag) : List Den → Own → Own → Den → Prop := pu (fun ns : List Str => ns.length ≤ 10) (fun ns => [strsD ns]) (fun ns => lstD ((setsL ns).map fun o => strsT o))
theorem ok_l_sets (T : Txt K mg) : FnOk P w K mg base CX0 1 (a_l_sets K) (fdOf K (a_l_sets K)) ["_law_some"] (DefSp (r_l_sets K)) := by
  refine ow_ok (F_l_sets T) sc_l_sets (fun _ => rfl) fun cdv A outer s H E hr => ⟨_, PSs.nox (pss_cons (ps_set (i := 1) sc_l_sets.nd rfl (Or.inl rfl) (pe_lst (pa_cons (pe_tup pa_nil) pa_nil)))
  (pss_cons (ps_for PassesOwn.never rfl (pi_listK (K := K) (pv 0)) (pg_name (i := 2) sc_l_sets.nd rfl (Or.inr rfl))
  (pss_one (ps_set (i := 1) sc_l_sets.nd rfl (Or.inl rfl) (pe_op op_cat (pv 1) (pe_lc (own := [("_law_one", 3)]) (by rfl) sc_l_sets.nd (pi_listK (K := K) (pv 1)) (blkOk_by (N := n_l_sets) (sc := defScope s_l_sets) (by decide +kernel)) (fun _ _ _ _ _ => (pg_name (i := 3) sc_l_sets.nd rfl (Or.inl rfl))) (fun _ _ _ _ _ => pts_nil) (fun _ _ _ _ _ => (pe_callTy (call_tuple_ofK (K := K)) (by rfl) (z_tuple T) boot_tuple (pa_cons (pe_callB cr_sortedST (by rfl) (z_sorted T) boot_sorted (pa_cons (pe_op (op_catAK (K := K)) (pv 3) (pe_tup (pa_cons (pv 2) pa_nil))) pa_nil)) pa_nil))))))))
  (pss_one (ps_ret (pv 1))))), ?_⟩
  intro ns h
  refine sb_seq (sb_asg (A := lstD [strsT []]) (ed_lst (ea_cons (ed_tup ea_nil) ea_nil))) ?_
  refine sb_seq (Γ1 := [some (strsD ns), some (lstD ((setsL ns).map fun o => strsT o)), none, none]) (Os1 := []) (sb_forP (xs := ns) (d := fun n => strD n) (Oz := fun _ => []) (Γs := fun pre => [some (strsD ns), some (lstD ((setsL pre).map fun o => strsT o)), none, none]) (ei_list (ed_var rfl)) rfl (fun _ => rfl) .refl (fun pre n post sp => ⟨_, _, gd_name, ?_⟩) ⟨rfl, rfl⟩) (sb_ret (ed_var rfl))
  have lp : pre.length ≤ 9 := by
    have := congrArg List.length sp
    rw [List.length_append, List.length_cons] at this
    omega
  obtain ⟨l1, l2⟩ := setsL_len _ pre rfl
  have l3 : (setsL pre).length ≤ 512 := by
    rw [l1]
    exact Nat.le_trans (Nat.pow_le_pow_right (by decide) lp) (by decide)
  have e : ((setsL (pre ++ [n])).map fun o => strsT o) = ((setsL pre).map fun o => strsT o) ++ (setsL pre).map fun o => strsT (Srt.srt (o ++ [n])) := by
    rw [setsL_snoc]
    unfold setsS
    rw [List.map_append, List.map_map]
    rfl
  rw [e]
  refine SB.less (sb_asg (ed_op (ed_var rfl) (ed_lc0 (xs := setsL pre) (d := fun o => strsT o) (f := fun o => strsT (Srt.srt (o ++ [n]))) (ei_list (ed_var rfl)) (fun o _ => gd_name) (fun o ho => ed_cb (ea_cons (ed_cb (ea_cons (ED.cast (R := strsT (o ++ [n])) (A := tupD ((o.map fun x => strD x) ++ [strD n])) (ed_op (ed_var rfl) (ed_tup (ea_cons (ed_var rfl) ea_nil)) (od_catT (by rw [List.length_map]; have := l2 o ho; show o.length + 1 ≤ _; omega))) (by unfold strsT; rw [List.map_append]; rfl)) ea_nil) (cd_sortedST (by rw [List.length_append]; have := l2 o ho; show o.length + 1 < 64; omega))) ea_nil) cd_tuple) (by decide) (by omega)) (od_cat (by rw [List.length_map, List.length_map]; omega)))) (.keep (.keep (.drop (.drop .nil))))
end
end Pr
/-! VT -/
namespace Pr
open PySem PySem.Spec PyProof.Rows L2 Dn Rb
structure ScA where
  ls : List (Str × Ends4)
  ps : List Pr2
  prs : List (Str × List Pr2)
structure okSc (a : ScA) : Prop where
  ll : a.ls.length ≤ 100
  pl : a.ps.length ≤ 100
  keys : ∀ q, q ∈ a.ls → q.1 ∈ a.prs.map (·.1)
  pk : ∀ k, k ∈ a.prs.map (·.1) → (lk a.prs k).length ≤ 1000
def pastQ (a : ScA) (k : Str) (e : Bool) (n : Str) : Bool := match (manyAt a.ls k e).2 with
  | none => false
  | some j => decide (j < ((degC (lk a.prs k) e n : Nat) : Int))
def pastL (a : ScA) : Bool := a.ls.any fun q => [false, true].any fun e => (namesOf a.ps (kindAt a.ls q.1 e)).any (pastQ a q.1 e)
theorem namesOf_len (ps : List Pr2) (k : Str) : (namesOf ps k).length ≤ ps.length := by
  unfold namesOf
  rw [List.length_map]
  exact List.length_filter_le _ _
section
variable {P : Program} {w : World} {K : PySem.W.Frag} {mg : Str → Option Value} {base : Heap}
abbrev ispG (a : ScA) : Dn.Ctx := [some (rowsD a.ls), some (prsD a.ps), some (prssD a.prs), none, none, none, none, none]
abbrev r_l_is_past (K : PySem.W.Frag) : List Den → Own → Own → Den → Prop := pu okSc (fun a => [rowsD a.ls, prsD a.ps, prssD a.prs]) (fun a => blD (pastL a))
theorem ok_l_is_past (T : Txt K mg) : FnOk P w K mg base CX0 2 (a_l_is_past K) (fdOf K (a_l_is_past K)) ["_law_rows", "_law_people_here", "_law_pairs_here"] (DefSp (r_l_is_past K)) := by
  refine ow_ok (F_l_is_past T) sc_l_is_past (fun _ => rfl) fun cdv A outer s H E hr => ⟨_, PSs.nox (pss_cons (ps_for PassesOwn.never rfl (pi_listK (K := K) (pv 0)) (pg_name (i := 3) sc_l_is_past.nd rfl (Or.inl rfl))
  (pss_one (ps_for PassesOwn.never rfl (pi_listK (K := K) (pe_lst (pa_cons pe_str (pa_cons pe_str pa_nil)))) (pg_name (i := 4) sc_l_is_past.nd rfl (Or.inl rfl))
  (pss_cons (ps_asg (pe_call (ok_l_at T) (hr.mono (by decide)) rfl (g_l_at T) (F_l_at T).kp (b_l_at T) .nil pass0 (pa_cons (pv 0) (pa_cons (pe_ix (ix_tupK (K := K)) (pv 3) pe_int (fun _ _ => rfl)) (pa_cons (pv 4) pa_nil)))) (pg_tupK (K := K) (n := 2) rfl (pgs_cons (pg_name (i := 6) sc_l_is_past.nd rfl (Or.inl rfl)) (pgs_cons (pg_name (i := 7) sc_l_is_past.nd rfl (Or.inl rfl)) pgs_nil))))
  (pss_one (ps_for PassesOwn.never rfl (pi_listK (K := K) (pe_call (ok_l_of T) (hr.mono (by decide)) rfl (g_l_of T) (F_l_of T).kp (b_l_of T) .nil pass0 (pa_cons (pv 1) (pa_cons (pv 6) pa_nil)))) (pg_name (i := 5) sc_l_is_past.nd rfl (Or.inl rfl))
  (pss_one (ps_if (PW.pt (pw_and (pt_cmpR op_notN (pe_ix (ix_tupK (K := K)) (pv 7) pe_int (fun _ _ => rfl)) pe_non (nomark _)) (pw_and1 (pt_cmpR op_gt (pe_call (ok_l_degree T) (hr.mono (by decide)) rfl (g_l_degree T) (F_l_degree T).kp (b_l_degree T) .nil pass0 (pa_cons (pv 2) (pa_cons (pe_ix (ix_tupK (K := K)) (pv 3) pe_int (fun _ _ => rfl)) (pa_cons (pv 4) (pa_cons (pv 5) pa_nil))))) (pe_ix (ix_tupK (K := K)) (pv 7) pe_int (fun _ _ => rfl)) (nomark _))))) (pss_one (ps_ret pe_bl)) pss_nil))))))))
  (pss_one (ps_ret pe_bl))), ?_⟩
  intro a h
  refine sb_seqG (M := tw (∀ q, q ∈ a.ls → ([false, true].any fun e => (namesOf a.ps (kindAt a.ls q.1 e)).any (pastQ a q.1 e)) = false) [] (ispG a)) (sb_forIS (xs := a.ls) (d := fun q => rowD q) (Γ' := ispG a) (fun pre => ∀ q, q ∈ pre → ([false, true].any fun e => (namesOf a.ps (kindAt a.ls q.1 e)).any (pastQ a q.1 e)) = false) (ei_list (ed_var rfl)) (fun q z => nomatch z) .refl (fun pre q post sp hI => ?_) fun hI => ⟨hI, rfl, .refl⟩) fun o g m => ?_
  · have hq : q ∈ a.ls := by rw [sp]; exact List.mem_append_right _ List.mem_cons_self
    have hk := h.keys q hq
    have hkk : q.1 ∈ a.ls.map (·.1) := List.mem_map.mpr ⟨q, hq, rfl⟩
    refine ⟨_, _, gd_name, ?_⟩
    refine sb_forIS (xs := [false, true]) (d := fun e => strD (endS e)) (Γ' := [some (rowsD a.ls), some (prsD a.ps), some (prssD a.prs), some (rowD q), none, none, none, none]) (fun pre => ∀ e, e ∈ pre → ((namesOf a.ps (kindAt a.ls q.1 e)).any (pastQ a q.1 e)) = false) (ei_list (ed_lst (ea_cons ed_c (ea_cons ed_c ea_nil)))) (fun e z => nomatch z) .refl (fun pre2 e post2 sp2 hI2 => ?_) fun hI2 => ⟨all_pre hI (any_false fun e he => hI2 e he), rfl, .keep (.keep (.keep (.drop (.drop (.drop (.drop (.drop .nil)))))))⟩
    have he : e ∈ [false, true] := by rw [sp2]; exact List.mem_append_right _ List.mem_cons_self
    refine ⟨_, _, gd_name, ?_⟩
    refine sb_seq (sb_asgG (A := tupD [strD (kindAt a.ls q.1 e), pairD (manyAt a.ls q.1 e)]) (ed_callP (α := LaA2) ⟨a.ls, q.1, e⟩ (ea_cons (ed_var rfl) (ea_cons (ed_op (ed_var rfl) ed_c (od_ixT (i := 0) rfl)) (ea_cons (ed_var rfl) ea_nil))) ⟨hkk, by have := h.ll; dsimp only; omega⟩) (gd_tup2 gd_name gd_name)) ?_
    refine sb_forIS (xs := namesOf a.ps (kindAt a.ls q.1 e)) (d := fun n => strD n) (Γ' := [some (rowsD a.ls), some (prsD a.ps), some (prssD a.prs), some (rowD q), some (strD (endS e)), none, some (strD (kindAt a.ls q.1 e)), some (pairD (manyAt a.ls q.1 e))]) (fun pre => ∀ n, n ∈ pre → pastQ a q.1 e n = false) (ei_list (ed_callP (α := List Pr2 × Str) (a.ps, kindAt a.ls q.1 e) (ea_cons (ed_var rfl) (ea_cons (ed_var rfl) ea_nil)) (by have := h.pl; dsimp only; omega))) (fun n z => nomatch z) .refl (fun pre3 n post3 sp3 hI3 => ?_) fun hI3 => ⟨all_pre hI2 (any_false hI3), rfl, .keep (.keep (.keep (.keep (.drop (.drop (.drop (.drop .nil)))))))⟩
    have hn : n ∈ namesOf a.ps (kindAt a.ls q.1 e) := by rw [sp3]; exact List.mem_append_right _ List.mem_cons_self
    refine ⟨_, _, gd_name, ?_⟩
    have hret : pastQ a q.1 e n = true → pastL a = true := fun z => by
      unfold pastL
      rw [List.any_eq_true]
      refine ⟨q, hq, ?_⟩
      rw [List.any_eq_true]
      refine ⟨e, he, ?_⟩
      rw [List.any_eq_true]
      exact ⟨n, hn, z⟩
    refine sb_if (b := pastQ a q.1 e n) ?_ (fun z => sb_ret (R := blD true) ed_c ⟨rfl, by rw [hret z]; exact Sub.refl⟩) fun z => sb_next ⟨all_pre hI3 z, rfl, .keep (.keep (.keep (.keep (.keep (.drop (.keep (.keep .nil)))))))⟩
    unfold pastQ
    cases ht : (manyAt a.ls q.1 e).2 with
    | none => exact et_and (a := false) (b := false) (et_test (ed_op (ed_op (ed_var rfl) ed_c (od_ixT (i := 1) (R := nonD) (by rw [ht]; rfl))) ed_c od_notN)) fun z => nomatch z
    | some j =>
      exact et_and (a := true) (b := decide (j < ((degC (lk a.prs q.1) e n : Nat) : Int))) (et_test (ed_op (ed_op (ed_var rfl) ed_c (od_ixT (i := 1) (R := intD j) (by rw [ht]; rfl))) ed_c (od_notN' notN_int))) fun _ => et_test (ed_op (ed_callP (α := LdA) ⟨a.prs, q.1, e, n⟩ (ea_cons (ed_var rfl) (ea_cons (ed_op (ed_var rfl) ed_c (od_ixT (i := 0) rfl)) (ea_cons (ed_var rfl) (ea_cons (ed_var rfl) ea_nil)))) ⟨hk, h.pk _ hk⟩) (ed_op (ed_var rfl) ed_c (od_ixT (i := 1) (R := intD j) (by rw [ht]; rfl))) od_gt)
  · obtain ⟨m1, rfl, m3⟩ := m
    have hb : pastL a = false := any_false m1
    rw [hb]
    exact sb_ret ed_c
end
end Pr
/-! VU -/
namespace Pr
open PySem PySem.Spec PyProof.Rows L2 Dn Rb
structure LkA where
  sc : ScA
  q : Str × Ends4
  e : Bool
  names : List Str
  new : Int
  others : Int
abbrev LkA.pr (a : LkA) : List Pr2 := lk a.sc.prs a.q.1
abbrev LkA.low (a : LkA) : Int := (manyAt a.sc.ls a.q.1 a.e).1
abbrev LkA.top (a : LkA) : Option Int := (manyAt a.sc.ls a.q.1 !a.e).2
abbrev LkA.k (a : LkA) : Int := ((a.names.length : Nat) : Int) + a.new
def lkN (a : LkA) (n : Str) : Int := max 0 (a.low - (degC a.pr a.e n : Nat))
def lkF0 (a : LkA) (o : Str) : Int := a.k - ((((orient a.e a.pr).filter fun p => decide (p.2 = o) && decide (p.1 ∈ a.names)).length : Nat) : Int)
def lkF (a : LkA) (o : Str) : Int := match a.top with
  | none => lkF0 a o
  | some t => min (lkF0 a o) (t - (degC a.pr (!a.e) o : Nat))
def lkLack (a : LkA) (ns : List Str) : Int := a.new * a.low + (ns.map (lkN a)).sum
def lkOff (a : LkA) (os : List Str) : Int := (os.map (lkF a)).sum
def lkLast (a : LkA) : Int := match a.top with
  | none => a.k
  | some t => min t a.k
def lacksB (a : LkA) : Bool := decide (lkOff a (namesOf a.sc.ps (kindAt a.sc.ls a.q.1 !a.e)) + a.others * lkLast a < lkLack a a.names)
abbrev scD (a : ScA) : Den := tupD [rowsD a.ls, prsD a.ps, prssD a.prs]
structure okLk (a : LkA) : Prop where
  sc : okSc a.sc
  q : a.q ∈ a.sc.ls
  new : 0 ≤ a.new ∧ a.new ≤ 10 ^ 50
  oth : 0 ≤ a.others ∧ a.others ≤ 10 ^ 50
  nl : a.names.length ≤ 50
  low : 0 ≤ a.low ∧ a.low ≤ 100
  top : ∀ t, a.top = some t → 0 ≤ t ∧ t ≤ 100
theorem sb_par3v {Os : Own} {Γ : Dn.Ctx} {i j l : Nat} {tA : TA} {A B C : Den} {N : Own → Dn.Ctx → Prop} {O : Own → Den → Prop} (h : EA Os tA Γ [A, B, C]) (hn : N Os (((Γ.set i (some A)).set j (some B)).set l (some C)) := by exact ⟨rfl, rfl⟩) : SB Os (tPar3 i j l tA) Γ N O := fun σ H0 H D e s w q _ => h σ H0 H e s w _ fun vs H1 H1' g1 hf => by
  cases hf with
  | cons r1 t1 => cases t1 with
    | cons r2 t2 => cases t2 with
      | cons r3 t3 =>
        cases t3
        exact ⟨_, _, _, rfl, q _ _ hn _ H1 H1' g1 ((((e.mono g1.s0).set i r1).set j r2).set l r3)⟩
section
variable {P : Program} {w : World} {K : PySem.W.Frag} {mg : Str → Option Value} {base : Heap}
abbrev lkG (a : LkA) (off lck : Int) : Dn.Ctx := [some (scD a.sc), some (rowD a.q), some (strD (endS a.e)), some (strsT a.names), some (intD a.new), some (intD a.others), some (prsD (orient a.e a.pr)), none, some (rowsD a.sc.ls), some (prsD a.sc.ps), some (prssD a.sc.prs), some (pairD (manyAt a.sc.ls a.q.1 a.e)), some (strD (endS !a.e)), some (strD (kindAt a.sc.ls a.q.1 !a.e)), some (pairD (manyAt a.sc.ls a.q.1 !a.e)), some (intD lck), some (intD off), some (intD a.k), none, none]
abbrev r_l_lacks (K : PySem.W.Frag) : List Den → Own → Own → Den → Prop := pu okLk (fun a => [scD a.sc, rowD a.q, strD (endS a.e), strsT a.names, intD a.new, intD a.others]) (fun a => blD (lacksB a))
theorem ok_l_lacks (T : Txt K mg) : FnOk P w K mg base CX0 2 (a_l_lacks K) (fdOf K (a_l_lacks K)) ["_law_scene", "_law_row", "_law_side", "_law_names_here", "_law_new", "_law_others"] (DefSp (r_l_lacks K)) := by
  refine ow_ok (F_l_lacks T) sc_l_lacks (fun _ => rfl) fun cdv A outer s H E hr => ⟨_, PSs.nox (pss_cons (ps_asg (pv 0) (pg_tupK (K := K) (n := 3) rfl (pgs_cons (pg_name (i := 8) sc_l_lacks.nd rfl (Or.inl rfl)) (pgs_cons (pg_name (i := 9) sc_l_lacks.nd rfl (Or.inl rfl)) (pgs_cons (pg_name (i := 10) sc_l_lacks.nd rfl (Or.inl rfl)) pgs_nil)))))
  (pss_cons (ps_par (i := 11) (j := 12) (by rfl) sc_l_lacks.nd rfl rfl (by decide) rfl rfl (pa_cons (pe_ix (ix_tupK (K := K)) (pe_call (ok_l_at T) (hr.mono (by decide)) rfl (g_l_at T) (F_l_at T).kp (b_l_at T) .nil pass0 (pa_cons (pv 8) (pa_cons (pe_ix (ix_tupK (K := K)) (pv 1) pe_int (fun _ _ => rfl)) (pa_cons (pv 2) pa_nil)))) pe_int (fun _ _ => rfl)) (pa_cons (pe_dget (rm1 hr) (pe_frz (pe_disp (pps_cons pe_str pe_str (pps_cons pe_str pe_str pps_nil)) (by rfl) (by rfl) (fun z => by cases z) (by decide))) (pv 2) (fun _ _ => rfl)) pa_nil)) (by rfl))
  (pss_cons (ps_asg (pe_call (ok_l_at T) (hr.mono (by decide)) rfl (g_l_at T) (F_l_at T).kp (b_l_at T) .nil pass0 (pa_cons (pv 8) (pa_cons (pe_ix (ix_tupK (K := K)) (pv 1) pe_int (fun _ _ => rfl)) (pa_cons (pv 12) pa_nil)))) (pg_tupK (K := K) (n := 2) rfl (pgs_cons (pg_name (i := 13) sc_l_lacks.nd rfl (Or.inl rfl)) (pgs_cons (pg_name (i := 14) sc_l_lacks.nd rfl (Or.inl rfl)) pgs_nil))))
  (pss_cons (ps_setLc (i := 6) (own := [("_law_one", 19)]) (by rfl) sc_l_lacks.nd rfl rfl (sw_true rfl rfl rfl (by decide +kernel)) (pi_listK (K := K) (pe_dget (rm1 hr) (pv 10) (pe_ix (ix_tupK (K := K)) (pv 1) pe_int (fun _ _ => rfl)) (fun _ _ => rfl))) (blkOk_by (N := n_l_lacks) (sc := defScope s_l_lacks) (by decide +kernel)) (fun _ _ _ _ _ => (pg_name (i := 19) sc_l_lacks.nd rfl (Or.inl rfl))) (fun _ _ _ _ _ => pts_nil) (fun _ _ _ _ _ => (pe_ifExp (pt_cmpR op_eq (pv 2) pe_str (nomark _)) (pv 19) (pe_revT (pv 19)))))
  (pss_cons (ps_par3 (i := 15) (j := 16) (l := 17) (by rfl) sc_l_lacks.nd rfl rfl rfl (by decide) (by decide) (by decide) rfl rfl rfl (pa_cons (pe_op op_mulW (pv 4) (pe_ix (ix_tupK (K := K)) (pv 11) pe_int (fun _ _ => rfl))) (pa_cons pe_int (pa_cons (pe_op op_add (pe_callB (call_lenK (K := K)) (by rfl) (z_len T) boot_len (pa_cons (pv 3) pa_nil)) (pv 4)) pa_nil))) (by rfl))
  (pss_cons (ps_for PassesOwn.never rfl (pi_tupK (K := K) (pv 3)) (pg_name (i := 7) sc_l_lacks.nd rfl (Or.inr rfl))
  (pss_one (ps_set (i := 15) sc_l_lacks.nd rfl (Or.inl rfl) (pe_op op_add (pv 15) (pe_callB (call_max2 rfl) (by rfl) (z_max T) boot_max (pa_cons pe_int (pa_cons (pe_op op_sub (pe_ix (ix_tupK (K := K)) (pv 11) pe_int (fun _ _ => rfl)) (pe_call (ok_l_degree T) (hr.mono (by decide)) rfl (g_l_degree T) (F_l_degree T).kp (b_l_degree T) .nil pass0 (pa_cons (pv 10) (pa_cons (pe_ix (ix_tupK (K := K)) (pv 1) pe_int (fun _ _ => rfl)) (pa_cons (pv 2) (pa_cons (pv 7) pa_nil)))))) pa_nil)))))))
  (pss_cons (ps_for PassesOwn.never rfl (pi_listK (K := K) (pe_call (ok_l_of T) (hr.mono (by decide)) rfl (g_l_of T) (F_l_of T).kp (b_l_of T) .nil pass0 (pa_cons (pv 9) (pa_cons (pv 13) pa_nil)))) (pg_name (i := 7) sc_l_lacks.nd rfl (Or.inr rfl))
  (pss_cons (ps_set (i := 18) sc_l_lacks.nd rfl (Or.inl rfl) (pe_op op_sub (pv 17) (pe_callB (call_lenK (K := K)) (by rfl) (z_len T) boot_len (pa_cons (pe_lc (own := [("_law_one", 19)]) (by rfl) sc_l_lacks.nd (pi_listK (K := K) (pv 6)) (blkOk_by (N := n_l_lacks) (sc := defScope s_l_lacks) (by decide +kernel)) (fun _ _ _ _ _ => (pg_name (i := 19) sc_l_lacks.nd rfl (Or.inl rfl))) (fun _ _ _ _ _ => (pts_one (PW.pt (pw_and (pt_cmpR op_eq (pe_ix (ix_tupK (K := K)) (pv 19) pe_int (fun _ _ => rfl)) (pv 7) (nomark _)) (pw_and1 (pt_cmpR (op_in_seqK (K := K)) (pe_ix (ix_tupK (K := K)) (pv 19) pe_int (fun _ _ => rfl)) (pv 3) (by rfl))))))) (fun _ _ _ _ _ => (pv 19))) pa_nil))))
  (pss_cons (ps_if (pt_cmpR op_notN (pe_ix (ix_tupK (K := K)) (pv 14) pe_int (fun _ _ => rfl)) pe_non (nomark _)) (pss_one (ps_set (i := 18) sc_l_lacks.nd rfl (Or.inl rfl) (pe_callB (call_min2 rfl) (by rfl) (z_min T) boot_min (pa_cons (pv 18) (pa_cons (pe_op op_sub (pe_ix (ix_tupK (K := K)) (pv 14) pe_int (fun _ _ => rfl)) (pe_call (ok_l_degree T) (hr.mono (by decide)) rfl (g_l_degree T) (F_l_degree T).kp (b_l_degree T) .nil pass0 (pa_cons (pv 10) (pa_cons (pe_ix (ix_tupK (K := K)) (pv 1) pe_int (fun _ _ => rfl)) (pa_cons (pv 12) (pa_cons (pv 7) pa_nil)))))) pa_nil))))) pss_nil)
  (pss_one (ps_set (i := 16) sc_l_lacks.nd rfl (Or.inl rfl) (pe_op op_add (pv 16) (pv 18)))))))
  (pss_one (ps_ret (pe_cmpR op_gt (pv 15) (pe_op op_add (pv 16) (pe_op op_mulW (pv 5) (pe_ifExp (pt_cmpR op_isN (pe_ix (ix_tupK (K := K)) (pv 14) pe_int (fun _ _ => rfl)) pe_non (nomark _)) (pv 17) (pe_callB (call_min2 rfl) (by rfl) (z_min T) boot_min (pa_cons (pe_ix (ix_tupK (K := K)) (pv 14) pe_int (fun _ _ => rfl)) (pa_cons (pv 17) pa_nil)))))) (nomark _))))))))))), ?_⟩
  intro a h
  have hsc := h.sc
  have hk := hsc.keys _ h.q
  have hkk : a.q.1 ∈ a.sc.ls.map (·.1) := List.mem_map.mpr ⟨a.q, h.q, rfl⟩
  have hl := hsc.ll
  have hp := hsc.pl
  have hpk : a.pr.length ≤ 1000 := hsc.pk _ hk
  have hnew := h.new
  have hoth := h.oth
  have hnl := h.nl
  have hlow : 0 ≤ (manyAt a.sc.ls a.q.1 a.e).1 ∧ (manyAt a.sc.ls a.q.1 a.e).1 ≤ 100 := h.low
  refine sb_seq (sb_asgG (A := scD a.sc) (ed_var rfl) (gd_tup3 gd_name gd_name gd_name)) ?_
  refine sb_seq (sb_par (A := pairD (manyAt a.sc.ls a.q.1 a.e)) (B := strD (endS !a.e)) (ea_cons (ed_op (ed_callP (α := LaA2) ⟨a.sc.ls, a.q.1, a.e⟩ (ea_cons (ed_var rfl) (ea_cons (ed_op (ed_var rfl) ed_c (od_ixT (i := 0) rfl)) (ea_cons (ed_var rfl) ea_nil))) ⟨hkk, by dsimp only; omega⟩) ed_c (od_ixT (i := 1) rfl)) (ea_cons (dget_k (kvs := [(.inr "near", strD "far"), (.inr "far", strD "near")]) (k := .inr (endS a.e)) (by cases a.e <;> rfl) (ed_disp2 (k1 := .inr "near") (k2 := .inr "far") ed_c ed_c ed_c ed_c (by decide)) (ed_var rfl)) ea_nil))) ?_
  refine sb_seq (sb_asgG (A := tupD [strD (kindAt a.sc.ls a.q.1 !a.e), pairD (manyAt a.sc.ls a.q.1 !a.e)]) (ed_callP (α := LaA2) ⟨a.sc.ls, a.q.1, !a.e⟩ (ea_cons (ed_var rfl) (ea_cons (ed_op (ed_var rfl) ed_c (od_ixT (i := 0) rfl)) (ea_cons (ed_var rfl) ea_nil))) ⟨hkk, by dsimp only; omega⟩) (gd_tup2 gd_name gd_name)) ?_
  have eor : prsD (orient a.e a.pr) = lstD (a.pr.map fun p => prD (if a.e then swapP p else p)) := by
    unfold orient prsD
    cases a.e with
    | false => rfl
    | true => simp only [if_true]; rw [List.map_map]; rfl
  have lor : (orient a.e a.pr).length = a.pr.length := by unfold orient; split <;> simp
  refine sb_seq (sb_asg (A := prsD (orient a.e a.pr)) (ED.cast (A := lstD (a.pr.map fun p => prD (if a.e then swapP p else p))) (R := prsD (orient a.e a.pr)) (ed_lc0 (xs := a.pr) (f := fun p => prD (if a.e then swapP p else p)) (ei_list (dget_s (f := fun x => prsD x) (ls := a.sc.prs) hk (ed_var rfl) (ed_op (ed_var rfl) ed_c (od_ixT (i := 0) rfl)))) (fun p _ => gd_name) (fun p _ => ed_if (b := !a.e) (ET.cast (et_test (ed_op (ed_var rfl) ed_c od_eqS)) (by cases a.e <;> decide)) (fun z => ?_) fun z => ?_) (by decide) (by omega)) eor.symm)) ?_
  · have z2 : a.e = false := by cases h2 : a.e <;> simp [h2] at z ⊢
    rw [z2]
    exact ed_var rfl
  · have z2 : a.e = true := by cases h2 : a.e <;> simp [h2] at z ⊢
    rw [z2]
    exact ed_revT (Rs := [strD p.1, strD p.2]) (ed_var rfl)
  refine sb_seq (Γ1 := lkG a 0 (lkLack a [])) (Os1 := []) (sb_par3v (A := intD (lkLack a [])) (B := intD 0) (C := intD a.k) (ea_cons (ED.cast (ed_op (ed_var rfl) (ed_op (ed_var rfl) ed_c (od_ixT (i := 0) rfl)) (od_mulW (by unfold sm; omega) (by unfold sm; omega))) (by unfold lkLack; simp)) (ea_cons ed_c (ea_cons (ed_op ((ed_cb (ea_cons (ed_var rfl) ea_nil) cd_lenT).cast (by rw [List.length_map])) (ed_var rfl) od_add) ea_nil)))) ?_
  refine sb_seq (Γ1 := lkG a 0 (lkLack a a.names)) (Os1 := []) (sb_forP (xs := a.names) (d := fun n => strD n) (Oz := fun _ => []) (Γs := fun pre => lkG a 0 (lkLack a pre)) (ei_tup (ed_var rfl)) rfl (fun _ => rfl) .refl (fun pre n post sp => ⟨_, _, gd_name, ?_⟩) ⟨rfl, rfl⟩) ?_
  · have e : lkLack a (pre ++ [n]) = lkLack a pre + lkN a n := by unfold lkLack; rw [List.map_append, List.sum_append]; simp; omega
    rw [e]
    exact SB.less (sb_asg (ed_op (ed_var rfl) (ed_cb (ea_cons ed_c (ea_cons (ed_op (ed_op (ed_var rfl) ed_c (od_ixT (i := 0) rfl)) (ed_callP (α := LdA) ⟨a.sc.prs, a.q.1, a.e, n⟩ (ea_cons (ed_var rfl) (ea_cons (ed_op (ed_var rfl) ed_c (od_ixT (i := 0) rfl)) (ea_cons (ed_var rfl) (ea_cons (ed_var rfl) ea_nil)))) ⟨hk, hpk⟩) od_sub) ea_nil)) cd_max) od_add)) (.keep (.keep (.keep (.keep (.keep (.keep (.keep (.drop (.keep (.keep (.keep (.keep (.keep (.keep (.keep (.keep (.keep (.keep (.keep (.keep .nil))))))))))))))))))))
  have hkS : kindAt a.sc.ls a.q.1 (!a.e) = kindAt a.sc.ls a.q.1 !a.e := rfl
  refine sb_seq (Γ1 := lkG a (lkOff a (namesOf a.sc.ps (kindAt a.sc.ls a.q.1 !a.e))) (lkLack a a.names)) (Os1 := []) (sb_forP (xs := namesOf a.sc.ps (kindAt a.sc.ls a.q.1 !a.e)) (d := fun n => strD n) (Oz := fun _ => []) (Γs := fun pre => lkG a (lkOff a pre) (lkLack a a.names)) (ei_list (ed_callP (α := List Pr2 × Str) (a.sc.ps, kindAt a.sc.ls a.q.1 !a.e) (ea_cons (ed_var rfl) (ea_cons (ed_var rfl) ea_nil)) (by dsimp only; omega))) rfl (fun _ => rfl) .refl (fun pre o post sp => ⟨_, _, gd_name, ?_⟩) ⟨rfl, rfl⟩) ?_
  · have e : lkOff a (pre ++ [o]) = lkOff a pre + lkF a o := by unfold lkOff; rw [List.map_append, List.sum_append]; simp
    rw [e]
    refine sb_seq (sb_asg (A := intD (lkF0 a o)) (ED.cast (ed_op (ed_var rfl) (ed_cb (ea_cons (ed_lc (xs := orient a.e a.pr) (p := fun p => decide (p.2 = o) && decide (p.1 ∈ a.names)) (f := fun p => prD p) (ei_list (ed_var rfl)) (fun p _ => gd_name) (fun p _ => et_and (et_test (ed_op (ed_op (ed_var rfl) ed_c (od_ixT (i := 1) rfl)) (ed_var rfl) od_eqS)) fun _ => et_test (ed_op (ed_op (ed_var rfl) ed_c (od_ixT (i := 0) rfl)) (ed_var rfl) od_inT)) (fun p _ _ => ed_var rfl) (by decide) (by omega)) ea_nil) (cd_len (by rw [List.length_map]; exact Nat.le_trans (List.length_filter_le _ _) (by omega)))) od_sub) (by unfold lkF0; rw [List.length_map]))) ?_
    cases ht : a.top with
    | none =>
      have ef : lkF a o = lkF0 a o := by unfold lkF; rw [ht]
      rw [ef]
      refine sb_seq (sb_if (b := false) (et_test (ed_op (ed_op (ed_var rfl) ed_c (od_ixT (i := 1) (R := nonD) (by rw [show (manyAt a.sc.ls a.q.1 !a.e).2 = _ from ht]; rfl))) ed_c od_notN)) (fun z => nomatch z) fun _ => sb_next) ?_
      exact SB.less (sb_asg (ed_op (ed_var rfl) (ed_var rfl) od_add)) (.keep (.keep (.keep (.keep (.keep (.keep (.keep (.drop (.keep (.keep (.keep (.keep (.keep (.keep (.keep (.keep (.keep (.keep (.drop (.keep .nil))))))))))))))))))))
    | some t =>
      have ef : lkF a o = min (lkF0 a o) (t - (degC a.pr (!a.e) o : Nat)) := by unfold lkF; rw [ht]
      rw [ef]
      refine sb_seq (sb_if (b := true) (et_test (ed_op (ed_op (ed_var rfl) ed_c (od_ixT (i := 1) (R := intD t) (by rw [show (manyAt a.sc.ls a.q.1 !a.e).2 = _ from ht]; rfl))) ed_c (od_notN' notN_int))) (fun _ => sb_asg (A := intD (min (lkF0 a o) (t - (degC a.pr (!a.e) o : Nat)))) (ed_cb (ea_cons (ed_var rfl) (ea_cons (ed_op (ed_op (ed_var rfl) ed_c (od_ixT (i := 1) (R := intD t) (by rw [show (manyAt a.sc.ls a.q.1 !a.e).2 = _ from ht]; rfl))) (ed_callP (α := LdA) ⟨a.sc.prs, a.q.1, !a.e, o⟩ (ea_cons (ed_var rfl) (ea_cons (ed_op (ed_var rfl) ed_c (od_ixT (i := 0) rfl)) (ea_cons (ed_var rfl) (ea_cons (ed_var rfl) ea_nil)))) ⟨hk, hpk⟩) od_sub) ea_nil)) cd_min)) fun z => nomatch z) ?_
      exact SB.less (sb_asg (ed_op (ed_var rfl) (ed_var rfl) od_add)) (.keep (.keep (.keep (.keep (.keep (.keep (.keep (.drop (.keep (.keep (.keep (.keep (.keep (.keep (.keep (.keep (.keep (.keep (.drop (.keep .nil))))))))))))))))))))
  have hkk0 : 0 ≤ a.k ∧ a.k ≤ 10 ^ 51 := by show 0 ≤ ((a.names.length : Nat) : Int) + a.new ∧ ((a.names.length : Nat) : Int) + a.new ≤ 10 ^ 51; omega
  have hs1 : sm a.others := by unfold sm; omega
  have hs2 : sm (lkLast a) := by
    unfold lkLast sm
    cases ht : a.top with
    | none => dsimp only; omega
    | some t => have := h.top t ht; dsimp only; omega
  refine sb_ret (R := blD (lacksB a)) (ed_op (ed_var rfl) (ed_op (ed_var rfl) (ed_op (B := intD (lkLast a)) (ed_var rfl) ?_ (od_mulW hs1 hs2)) od_add) od_gt)
  unfold lkLast
  cases ht : a.top with
  | none => exact ed_if (b := true) (et_test (ed_op (ed_op (ed_var rfl) ed_c (od_ixT (i := 1) (R := nonD) (by rw [show (manyAt a.sc.ls a.q.1 !a.e).2 = _ from ht]; rfl))) ed_c od_isN)) (fun _ => ed_var rfl) fun z => nomatch z
  | some t => exact ed_if (b := false) (et_test (ed_op (ed_op (ed_var rfl) ed_c (od_ixT (i := 1) (R := intD t) (by rw [show (manyAt a.sc.ls a.q.1 !a.e).2 = _ from ht]; rfl))) ed_c (od_isN' notN_int))) (fun z => nomatch z) fun _ => ed_cb (ea_cons (ed_op (ed_var rfl) ed_c (od_ixT (i := 1) (R := intD t) (by rw [show (manyAt a.sc.ls a.q.1 !a.e).2 = _ from ht]; rfl))) (ea_cons (ed_var rfl) ea_nil)) cd_min
end
end Pr
/-! DO -/
/-! Readings told by one of some; a list of one's own asked for a member; new instances of one's own. -/
namespace Dn
open PySem PySem.Spec PyProof.Rows L2
section
variable {K : PySem.W.Frag} {Os : Own} {Γ : Ctx} {te tq ti ta tb : TE} {A B C R : Den} {g : TG} {tt : TT} {sa : TS} {vs : List Nat} {wi : TI} {N : Own → Ctx → Prop} {O : Own → Den → Prop}
/-- range of one of some numbers -/
theorem ed_lcR {P : Nat → Prop} {tA : TA} (h : EA Os tA Γ [exD P fun n => intD (n : Nat)]) (hb : ∀ n, P n → ED Os (tLc (iRng1 (tCons (tC (.int (n : Nat))) tNil)) g tt te vs) Γ R) : ED Os (tLc (iRng1 tA) g tt te vs) Γ R := fun σ H0 H e s w Q q =>
  h σ H0 H e s w _ fun us H1 H1' g1 hf => by
    cases hf with
    | cons r1 t1 =>
      cases t1
      obtain ⟨n, hn, hv⟩ := r1
      rw [show _ = V.int (n : Nat) from hv]
      exact hb n hn σ H1 H1' (e.mono g1.s0) g1.sub g1.ow Q fun v H2 H2' g2 hv => q v H2 H2' (g1.trans g2) hv
theorem sb_forR {P : Nat → Prop} {tA : TA} (h : EA Os tA Γ [exD P fun n => intD (n : Nat)]) (hb : ∀ n, P n → SB Os (tFor (iRng1 (tCons (tC (.int (n : Nat))) tNil)) g sa) Γ N O) : SB Os (tFor (iRng1 tA) g sa) Γ N O := fun σ H0 H D e s w q r =>
  h σ H0 H e s w _ fun us H1 H1' g1 hf => by
    cases hf with
    | cons r1 t1 =>
      cases t1
      obtain ⟨n, hn, hv⟩ := r1
      rw [show _ = V.int (n : Nat) from hv]
      exact hb n hn σ H1 H1' D (e.mono g1.s0) g1.sub g1.ow (fun o g m σ' H2 H2' g2 e2 => q o g m σ' H2 H2' (g1.trans g2) e2) fun o d m v H2 H2' g2 hv => r o d m v H2 H2' (g1.trans g2) hv
/-- a list that is one of some -/
theorem ei_listX {ι α : Type} {P : ι → Prop} {xs : ι → List α} {d : α → Den} (h : ED Os te Γ (exD P fun x => lstD ((xs x).map d))) : EI Os (iList K te) Γ (fun Rs => ∃ x, P x ∧ Rs = (xs x).map d) := fun σ H0 H e s w R q => h σ H0 H e s w _ fun v H1 H1' g1 ⟨x, hx, a, vs, ex, hl, hf⟩ =>
  ⟨a, ex, ⟨vs, .of (g1.sub _ _ hl)⟩, q _ H1 H1' ((xs x).map d) ⟨x, hx, rfl⟩ g1 fun H2 H2' s0 s2 => by
    have l2 : SqL K H2' a vs := .of (s2 _ _ (s0 _ _ hl))
    have len := Paired.length hf
    refine ⟨fun i hi => ⟨vs, vs[i]'(by omega), l2, by simp [show i < vs.length by omega]⟩, ⟨vs, l2, Nat.le_of_eq len.symm⟩, fun i y H3' hy R hR => ?_⟩
    obtain ⟨e1, e2⟩ := hy
    subst e1
    obtain ⟨y, h1, h2⟩ := Paired.get' hf hR
    have e3 := e2 vs l2
    rw [h1] at e3
    cases e3
    exact ⟨H2, .refl s2 .nil, R.mono s0 h2⟩⟩
theorem sb_forX {ι α : Type} {P : ι → Prop} {xs : ι → List α} {d : α → Den} {Oz : ι → List α → Own} {Γs : ι → List α → Ctx} (hi : EI Os wi Γ (fun Rs => ∃ x, P x ∧ Rs = (xs x).map d))
    (hz : ∀ x, P x → Oz x [] = Os ∧ (∀ l, ads (Oz x l) = ads Os) ∧ Less (Γs x []) Γ ∧ N (Oz x (xs x)) (Γs x (xs x)))
    (hs : ∀ x, P x → ∀ pre y post, xs x = pre ++ y :: post → ∃ Γ1 is, GD g (Γs x pre) (d y) Γ1 is ∧ SB (Oz x pre) sa Γ1 (to (Oz x (pre ++ [y])) (Γs x (pre ++ [y]))) O) : SB Os (tFor wi g sa) Γ N O := by
  refine sb_for hi fun Rs hR => ?_
  obtain ⟨x, hx, rfl⟩ := hR
  obtain ⟨z0, za, h0, hn⟩ := hz x hx
  refine ⟨fun i => Oz x ((xs x).take i), fun i => Γs x ((xs x).take i), by dsimp only; rw [List.take_zero]; exact z0, fun i => za _, by dsimp only; rw [List.take_zero]; exact h0, ?_, fun i A hA => ?_⟩
  · dsimp only
    rw [List.length_map, List.take_length]
    exact hn
  · rw [List.getElem?_map] at hA
    cases hy : (xs x)[i]? with
    | none => rw [hy] at hA; cases hA
    | some y =>
      rw [hy] at hA
      have e : d y = A := Option.some.inj hA
      subst e
      obtain ⟨hlt, ex⟩ := List.getElem?_eq_some_iff.mp hy
      have e1 : (xs x).take (i + 1) = (xs x).take i ++ [y] := by rw [List.take_add_one, hy] <;> rfl
      dsimp only
      rw [e1]
      refine hs x hx _ y ((xs x).drop (i + 1)) ?_
      rw [← ex, List.getElem_cons_drop, List.take_append_drop]
/-- a list each of whose elements is one of some -/
theorem fits_ex {α β : Type} {P : α → β → Prop} {F : α → β → Den} {H : Hp} : ∀ {xs : List α} {us : List V}, Fits H (xs.map fun x => exD (P x) (F x)) us → ∃ ys : List (α × β), ys.map (·.1) = xs ∧ (∀ y, y ∈ ys → P y.1 y.2) ∧ Fits H (ys.map fun y => F y.1 y.2) us
  | [], _, h => by
    cases h
    exact ⟨[], rfl, (fun _ z => nomatch z), .nil⟩
  | x :: xs, _, h => by
    cases h with
    | cons r t =>
      obtain ⟨y, hy, ry⟩ := r
      obtain ⟨ys, h1, h2, h3⟩ := fits_ex (xs := xs) t
      refine ⟨(x, y) :: ys, by rw [List.map_cons, h1], fun z hz => ?_, .cons ry h3⟩
      rcases List.mem_cons.mp hz with e | m
      · subst e; exact hy
      · exact h2 z m
theorem ed_exs {α β : Type} {P : α → β → Prop} {F : α → β → Den} {xs : List α} (h : ED Os te Γ (lstD (xs.map fun x => exD (P x) (F x)))) : ED Os te Γ (exD (fun ys : List (α × β) => ys.map (·.1) = xs ∧ ∀ y, y ∈ ys → P y.1 y.2) fun ys => lstD (ys.map fun y => F y.1 y.2)) := h.imp fun H v ⟨a, us, e, ha, hf⟩ => by
  obtain ⟨ys, h1, h2, h3⟩ := fits_ex hf
  exact ⟨ys, ⟨h1, h2⟩, a, us, e, ha, h3⟩
/-- parts of a tuple told by one of some -/
theorem tup_ex2 {α β : Type} {P : α → Prop} {Q : β → Prop} {F : α → Den} {G : β → Den} : ∀ H v, (tupD [exD P F, exD Q G]).p H v → (exD (fun p : α × β => P p.1 ∧ Q p.2) fun p => tupD [F p.1, G p.2]).p H v := fun H v ⟨a, us, e, ha, hf⟩ => by
  cases hf with
  | cons r1 t1 => cases t1 with
    | cons r2 t2 =>
      cases t2
      obtain ⟨x, hx, rx⟩ := r1
      obtain ⟨y, hy, ry⟩ := r2
      exact ⟨(x, y), ⟨hx, hy⟩, a, _, e, ha, .cons rx (.cons ry .nil)⟩
theorem ed_joinX {P : List Str → Prop} {z : Str} (ho : ED Os tq Γ (strD z)) (h : ED Os te Γ (exD P fun xs => lstD (xs.map fun x => strD x))) (hl : ∀ xs, P xs → (xs.map (·.length)).sum + xs.length * z.length ≤ 16777216) : ED Os (tM1 (fun x vs H Q => ∃ a p, ∃ ys : List Str, x = .str a ∧ vs = [.ref p] ∧ (SqL K H p (ys.map V.str) ∨ SqT K H p (ys.map V.str)) ∧
      (ys.map (·.length)).sum + ys.length * a.length ≤ 16777216 ∧ Q (.str (Txt.join a ys)) H) tq te) Γ (exD P fun xs => strD (Txt.join z xs)) := fun σ H0 H e s w Q q =>
  ho σ H0 H e s w _ fun x H1 H1' g1 hx => ⟨⟨z, hx⟩, h σ H1 H1' (e.mono g1.s0) g1.sub g1.ow _ fun y H2 H2' g2 ⟨xs, hxs, a, us, ey, ha, hf⟩ => by
    rw [fits_map hf] at ha
    exact ⟨z, a, xs, hx, by rw [ey], .inl (.of (g2.sub _ _ ha)), hl xs hxs, q _ H2 H2' (g1.trans g2) ⟨xs, hxs, rfl⟩⟩⟩
/-! ### members of a list of one's own -/
theorem ed_notInO {a : Addr} {x : Str} {xs : List Str} (hx : ED Os ta Γ (strD x)) (h : ED Os tb Γ (valD (.ref a))) (hm : (a, lstO (xs.map fun y => strD y)) ∈ Os) : ED Os (tOp (rIn K true) ta tb) Γ (blD (!decide (x ∈ xs))) := fun σ H0 H e s w Q q =>
  hx σ H0 H e s w _ fun v H1 H1' g1 hv => h σ H1 H1' (e.mono g1.s0) g1.sub g1.ow _ fun u H2 H2' g2 hu => by
    obtain ⟨_, o, eo, us, po, hf⟩ := g2.ow.at_ _ hm
    subst po
    rw [fits_map hf] at eo
    have ev : v = .str x := hv
    subst ev
    refine ⟨a, xs.map V.str, hu, .inl (.of eo), rfl, flat_str xs, ?_⟩
    rw [if_pos rfl, inV_str]
    exact q _ H2 H2' (g1.trans g2) rfl
theorem ed_notInDO {a : Addr} {d : PyData} {Rs : List Den} {ds : List PyData} (hA : Dat K A d) (hB : Paired (Dat K) Rs ds) (sd : SeqAt.shaped d = true) (se : SeqAt.shaped (.list ds) = true) (hx : ED Os ta Γ A) (h : ED Os tb Γ (valD (.ref a))) (hm : (a, lstO Rs) ∈ Os) : ED Os (tOp (rNotInD K) ta tb) Γ (blD (!ds.any fun z => PyData.eqv z d)) := fun σ H0 H e s w Q q =>
  hx σ H0 H e s w _ fun v H1 H1' g1 hv => h σ H1 H1' (e.mono g1.s0) g1.sub g1.ow _ fun u H2 H2' g2 hu => by
    obtain ⟨_, o, eo, us, po, hf⟩ := g2.ow.at_ _ hm
    subst po
    have eu : u = .ref a := hu
    subst eu
    exact ⟨d, ds, Dp.mono (g2.s0.trans g2.sub) (hA _ _ hv), .lst (.of eo) (DpAll.mono g2.sub (dat_all hB hf)), sd, se, q _ H2 H2' (g1.trans g2) rfl⟩
/-! ### new things of one's own beside others -/
theorem grow_newL {H0 H : Hp} {a : Addr} {o : HO} {O1 : Ow} (s : Same H0 H) (w : Hold Os H0 H) (ha : H a = none) (p : O1.p H0 o) : Grow Os H0 H ((a, O1) :: Os) H0 (upd H a o) := ⟨Same.refl _, fun b u _ hb => same_upd ha b u hb, s.trans (same_upd ha), fun b u _ _ n => n,
    ⟨List.nodup_cons.mpr ⟨w.out ha, w.nd⟩, fun p' hp => by
      rcases List.mem_cons.mp hp with z | z
      · subst z; exact ⟨s.free ha, _, upd_same, p⟩
      · obtain ⟨n, u, eo, po⟩ := w.at_ p' z
        exact ⟨n, u, same_upd ha _ _ eo, po⟩⟩, fun b hb => by
      rcases List.mem_cons.mp hb with z | z
      · exact .inr (by rw [show b = a from z]; exact ha)
      · exact .inl z⟩
/-- x, y = e, [] -/
theorem sb_par2n {i j : Nat} (h : ED Os te Γ A) (hn : ∀ a, N ((a, lstO []) :: Os) ((Γ.set i (some A)).set j (some (valD (.ref a))))) : SB Os (tPar i j (tCons te (tCons (tLst tNil) tNil))) Γ N O := fun σ H0 H D e s w q _ =>
  h σ H0 H e s w _ fun v H1 H1' g1 hv => ⟨sz_of (Nat.zero_le _), fun a ha => ⟨_, _, rfl, q _ _ (hn a) _ H1 _ (g1.trans (grow_newL g1.sub g1.ow ha ⟨[], rfl, .nil⟩)) (((e.mono g1.s0).set i hv).set j rfl)⟩⟩
/-- x, y = (e, []) by a tuple -/
theorem sb_tup2n {i j : Nat} (h : ED Os te Γ A) (hn : ∀ a, N ((a, lstO []) :: Os) ((Γ.set i (some A)).set j (some (valD (.ref a))))) : SB Os (tAsg (tTup (tCons te (tCons (tLst tNil) tNil))) (gTup K 2 (gCons (gName i) (gCons (gName j) gNil)))) Γ N O := fun σ H0 H D e s w q _ =>
  h σ H0 H e s w _ fun v H1 H1' g1 hv => ⟨sz_of (Nat.zero_le _), fun a ha => ⟨sz_of (by show 2 ≤ _; omega), fun p hp => by
    have ga := grow_newL (Os := Os) (O1 := lstO []) g1.sub g1.ow ha ⟨[], rfl, .nil⟩
    have gp := Grow.new (o := .tup [v, .ref a]) ga.sub ga.ow hp
    refine ⟨p, _, rfl, .of upd_same, rfl, _, _, rfl, _, _, rfl, rfl, q _ _ (hn a) _ _ _ (g1.trans (ga.trans gp)) ?_⟩
    exact ((((e.mono g1.s0).mono gp.s0).set i (A.mono gp.s0 hv)).set j rfl)⟩⟩
/-- x = C(..), of one's own -/
theorem sb_makeO {C : Addr} {fs : List (Str × Den)} {i : Nat} {rel : List Den → Own → Own → Den → Prop} {tA : TA} {Rs : List Den} (ha : EA Os tA Γ Rs) (hr : ∀ x, rel (valD (.ref x) :: Rs) [(x, insO C [])] [(x, insO C fs)] nonD) (hn : ∀ a, N ((a, insO C fs) :: Os) (Γ.set i (some (valD (.ref a))))) : SB Os (tAsg (tMake C (DefSp rel) [] E0 tA) (gName i)) Γ N O := fun σ H0 H D e s w q _ =>
  ha σ H0 H e s w _ fun vs H1 H1' g1 h1 x dx nx ndx ne => by
    rw [List.append_nil]
    have n0x := g1.sub.free nx
    have n0d := g1.sub.free ndx
    have sub2 : Same H1 (upd (upd H1' dx (.own x)) x (.ins C dx [])) := fun b o hb => by
      rw [upd_ne (ne_of_none hb n0x), upd_ne (ne_of_none hb n0d)]
      exact g1.sub b o hb
    refine def_sp sub2 ⟨nd1, fun q hq => ?_⟩ (.cons rfl h1) (hr x) fun v H2 H2' g2 hv => ⟨hv, ?_⟩
    · rw [List.mem_singleton.mp hq]
      exact ⟨n0x, _, upd_same, dx, [], rfl, .nil⟩
    · have xo : ∀ b, b ≠ x → b ∉ ads [(x, insO C [])] := fun b n z => n (List.mem_singleton.mp z)
      refine q _ _ (hn x) _ H2 H2' (g1.trans ⟨g2.s0, fun b o _ hb => ?_, g2.sub, fun b o _ hb n => ?_, ⟨List.nodup_cons.mpr ⟨g1.ow.out nx, g1.ow.nd⟩, fun p hp => ?_⟩, fun b hb => ?_⟩) ((e.mono (g1.s0.trans g2.s0)).set i rfl)
      · have hb1 := ne_of_none hb nx
        have hb2 := ne_of_none hb ndx
        exact g2.s1 b o (xo b hb1) (by rw [upd_ne hb1, upd_ne hb2]; exact hb)
      · have hb1 := ne_of_none hb nx
        have hb2 := ne_of_none hb ndx
        exact g2.fr b o (xo b hb1) (by rw [upd_ne hb1, upd_ne hb2]; exact hb) n
      · rcases List.mem_cons.mp hp with z | z
        · subst z; exact g2.ow.at_ _ List.mem_cons_self
        · obtain ⟨n, o, eo, po⟩ := g1.ow.at_ p z
          have hb1 := ne_of_none eo nx
          have hb2 := ne_of_none eo ndx
          have eo2 : upd (upd H1' dx (.own x)) x (.ins C dx []) p.1 = some o := by rw [upd_ne hb1, upd_ne hb2]; exact eo
          exact ⟨g2.fr _ _ (xo _ hb1) eo2 n, o, g2.s1 _ _ (xo _ hb1) eo2, p.2.mono g2.s0 po⟩
      · rcases List.mem_cons.mp hb with z | z
        · exact .inr (by rw [show b = x from z]; exact nx)
        · exact .inl z
end
section
variable {K : PySem.W.Frag} {Os : Own} {Γ : Ctx} {te tq ti ta tb : TE} {A B R : Den} {g : TG} {sa : TS} {N : Own → Ctx → Prop} {O : Own → Den → Prop} {α : Type} {Pr : α → Prop} {args : α → List Den} {os os' : α → Own} {res : α → Den} {C : Addr} {fs fs' : List (Str × Den)} {a : Addr}
/-- x[i] = e by an own __setitem__ -/
theorem sb_setOwn (b : α) (h : ED ((a, insO C fs) :: Os) te Γ B) (ho : ED ((a, insO C fs) :: Os) tq Γ (valD (.ref a))) (hi : ED ((a, insO C fs) :: Os) ti Γ A) (hp : Pr b) (e1 : args b = [valD (.ref a), A, B]) (e2 : os b = [(a, insO C fs)]) (e3 : os' b = [(a, insO C fs')]) (hn : N ((a, insO C fs') :: Os) Γ) :
    SB ((a, insO C fs) :: Os) (tAsg te (gSub tq ti (rOwnSet C (DefSp (ow Pr args os os' res))))) Γ N O := fun σ H0 H D e s w q _ =>
  h σ H0 H e s w _ fun v H1 H1' g1 hv => ho σ H1 H1' (e.mono g1.s0) g1.sub g1.ow _ fun x H2 H2' g2 hx => hi σ H2 H2' ((e.mono g1.s0).mono g2.s0) g2.sub g2.ow _ fun y H3 H3' g3 hy => by
    obtain ⟨_, o, eo, dx, us, po, pr⟩ := id (g3.ow.at_ _ List.mem_cons_self)
    subst po
    have ex : x = .ref a := hx
    subst ex
    refine ⟨a, dx, us, rfl, eo, ?_⟩
    exact def_sp (E := E0) g3.sub (g3.ow.part (fun p hp => by rw [List.mem_singleton.mp hp]; exact List.mem_cons_self) nd1) (.cons rfl (.cons hy (.cons (B.mono (g2.s0.trans g3.s0) hv) .nil))) ⟨b, hp, e1.symm, e2.symm, e3.symm, rfl⟩ fun v H4 H4' g4 _ => q _ _ hn _ H4 H4' ((g1.trans g2).trans (g3.trans (g4.head g3.ow))) (e.mono ((g1.s0.trans g2.s0).trans (g3.s0.trans g4.s0)))
/-- x += e by an own __iadd__ that gives itself -/
theorem sb_augOwn {i : Nat} (b : α) (hΓ : Γ[i]? = some (some (valD (.ref a)))) (h : ED ((a, insO C fs) :: Os) te Γ B) (hp : Pr b) (e1 : args b = [valD (.ref a), B]) (e2 : os b = [(a, insO C fs)]) (e3 : os' b = [(a, insO C fs')]) (e4 : res b = valD (.ref a)) (hn : N ((a, insO C fs') :: Os) (Γ.set i (some (valD (.ref a))))) :
    SB ((a, insO C fs) :: Os) (tAug i te (rOwnIadd C (DefSp (ow Pr args os os' res)))) Γ N O := fun σ H0 H D e s w q _ => by
  obtain ⟨x, hx, rx⟩ := e.get hΓ
  have ex : x = .ref a := rx
  subst ex
  refine ⟨_, hx, h σ H0 H e s w _ fun v H1 H1' g1 hv => ?_⟩
  obtain ⟨_, o, eo, dx, us, po, pr⟩ := id (g1.ow.at_ _ List.mem_cons_self)
  subst po
  refine ⟨a, dx, us, rfl, eo, ?_⟩
  refine def_sp (E := E0) g1.sub (g1.ow.part (fun p hp => by rw [List.mem_singleton.mp hp]; exact List.mem_cons_self) nd1) (.cons rfl (.cons hv .nil)) ⟨b, hp, e1.symm, e2.symm, e3.symm, rfl⟩ fun v H4 H4' g4 hr => ?_
  rw [e4] at hr
  exact q _ _ hn _ H4 H4' (g1.trans (g4.head g1.ow)) ((e.mono (g1.s0.trans g4.s0)).set i hr)
/-- x.m(..), which changes x -/
theorem sb_methOwn {m : Str} {tA : TA} {Rs : List Den} (b : α) (ho : ED ((a, insO C fs) :: Os) tq Γ (valD (.ref a))) (h : EA ((a, insO C fs) :: Os) tA Γ Rs) (hp : Pr b) (e1 : args b = valD (.ref a) :: Rs) (e2 : os b = [(a, insO C fs)]) (e3 : os' b = [(a, insO C fs')]) (hn : N ((a, insO C fs') :: Os) Γ) (l : fs.lookup m = none := by rfl) :
    SB ((a, insO C fs) :: Os) (tDrop (tMeth C m (DefSp (ow Pr args os os' res)) [] E0 tq tA)) Γ N O := fun σ H0 H D e s w q _ =>
  ho σ H0 H e s w _ fun x H1 H1' g1 hx => by
    obtain ⟨_, o, eo, dx, us, po, pr⟩ := id (g1.ow.at_ _ List.mem_cons_self)
    subst po
    have ex : x = .ref a := hx
    subst ex
    refine ⟨a, dx, us, rfl, eo, (lookup_paired pr).2 l, h σ H1 H1' (e.mono g1.s0) g1.sub g1.ow _ fun vs H2 H2' g2 h2 => ?_⟩
    rw [List.append_nil]
    exact def_sp (E := E0) g2.sub (g2.ow.part (fun p hp => by rw [List.mem_singleton.mp hp]; exact List.mem_cons_self) nd1) (.cons rfl h2) ⟨b, hp, e1.symm, e2.symm, e3.symm, rfl⟩ fun v H4 H4' g4 _ => q _ _ hn _ H4 H4' (g1.trans (g2.trans (g4.head g2.ow))) (e.mono (g1.s0.trans (g2.s0.trans g4.s0)))
end
section
variable {K : PySem.W.Frag} {Os : Own} {Γ : Ctx} {te tq ti ta tb : TE} {A B R : Den} {N : Own → Ctx → Prop} {O : Own → Den → Prop} {M : Own → Den → Prop}
/-- a call of a def that makes something of one's own, beside others -/
theorem ex_callNew {rel : List Den → Own → (Own → Den → Prop) → Prop} {tA : TA} {Rs : List Den} (h : EA Os tA Γ Rs) (hr : rel Rs [] M) : EX Os (tCall (DefN rel) [] E0 tA) Γ (fun o r => ∃ o1, M o1 r ∧ o = o1 ++ Os) := fun σ H0 H e s w Q q =>
  h σ H0 H e s w _ fun vs H1 H1' g1 h1 => by
    rw [List.append_nil]
    exact ⟨H1, [], _, M, g1.sub, .nil, h1, hr, fun Os' R v H2 H2' m g2 hv => q (Os' ++ Os) R v H2 H2' ⟨Os', m, rfl⟩ (g1.trans (Grow.part (Os1 := []) (Os2 := Os) g2 g1.ow)) hv⟩
/-- x, y = f(..), e by a tuple, f making something of one's own -/
theorem sb_tup2X {i j : Nat} (h : EX Os te Γ M) (h2 : ∀ o r, M o r → ED o tb Γ B) (hn : ∀ o r, M o r → N o ((Γ.set i (some r)).set j (some B))) : SB Os (tAsg (tTup (tCons te (tCons tb tNil))) (gTup K 2 (gCons (gName i) (gCons (gName j) gNil)))) Γ N O := fun σ H0 H D e s w q _ =>
  h σ H0 H e s w _ fun o r v H1 H1' m g1 hv => h2 o r m σ H1 H1' (e.mono g1.s0) g1.sub g1.ow _ fun u H2 H2' g2 hu => ⟨sz_of (by show 2 ≤ _; omega), fun p hp => by
    have gp := Grow.new (o := .tup [v, u]) g2.sub g2.ow hp
    exact ⟨p, _, rfl, .of upd_same, rfl, _, _, rfl, _, _, rfl, rfl, q _ _ (hn o r m) _ _ _ (g1.trans (g2.trans gp)) ((((e.mono g1.s0).mono (g2.s0.trans gp.s0)).set i (r.mono (g2.s0.trans gp.s0) hv)).set j (B.mono gp.s0 hu))⟩⟩
end
/-! ### dict(list of pairs) -/
section
variable {K : PySem.W.Frag} {Os : Own} {Γ : Ctx} {te tq : TE}
abbrev KvP (H : Hp) : (Key × Den) → (Key × V) → Prop := fun p q => p.1 = q.1 ∧ p.2.p H q.2
theorem merge_paired {H : Hp} : ∀ {l : List (Key × Den)} {kvs : List (Key × V)} {acc : List (Key × Den)} {us : List (Key × V)}, Paired (KvP H) acc us → Paired (KvP H) l kvs → (acc.map (·.1) ++ l.map (·.1)).Nodup → Paired (KvP H) (acc ++ l) (mergeK us kvs)
  | _, _, acc, us, h, .nil, _ => by
    rw [List.append_nil]
    exact h
  | _, _, acc, us, h, .cons (a := p) (b := q) (l₁ := l) (l₂ := kvs) r t, nd => by
    have e : mergeK us (q :: kvs) = mergeK (putK us q.1 q.2) kvs := rfl
    have n : p.1 ∉ acc.map (·.1) := fun m => by
      rw [List.map_cons, List.nodup_append] at nd
      exact nd.2.2 _ m _ List.mem_cons_self rfl
    have h2 := put_new (R := p.2) h n r.2
    rw [r.1] at h2
    have ep : (acc ++ p :: l) = (acc ++ [(q.1, p.2)]) ++ l := by rw [List.append_assoc, ← r.1]; rfl
    rw [e, ep]
    refine merge_paired h2 t ?_
    rw [List.map_append, List.append_assoc]
    rw [List.map_cons] at nd
    rw [← r.1]
    exact nd
theorem fits_pairs {α : Type} {key : α → Key} {f : α → Den} {H : Hp} : ∀ {xs : List α} {us : List V}, Fits H (xs.map fun x => tupD [valD (kV (key x)), f x]) us → ∃ (ps : List Addr) (kvs : List (Key × V)), us = ps.map V.ref ∧ Paired (fun p (kv : Key × V) => H p = some (.tup [kV kv.1, kv.2])) ps kvs ∧ Paired (KvP H) (xs.map fun x => (key x, f x)) kvs
  | [], _, h => by
    cases h
    exact ⟨[], [], rfl, .nil, .nil⟩
  | x :: xs, _, h => by
    cases h with
    | cons r t =>
      obtain ⟨a, vs, e, ha, hf⟩ := r
      cases hf with
      | cons r1 t1 => cases t1 with
        | cons r2 t2 =>
          cases t2
          obtain ⟨ps, kvs, h1, h2, h3⟩ := fits_pairs (xs := xs) t
          rw [show _ = kV (key x) from r1] at ha
          exact ⟨a :: ps, (key x, _) :: kvs, by rw [e, h1]; rfl, .cons ha h2, .cons ⟨rfl, r2⟩ h3⟩
theorem ed_dictPX {ι α : Type} {P : ι → Prop} {xs : ι → List α} {key : α → Key} {f : α → Den} (h : ED Os te Γ (exD P fun i => lstD ((xs i).map fun x => tupD [valD (kV (key x)), f x]))) (nd : ∀ i, P i → ((xs i).map key).Nodup) : ED Os (tFrz (tCB (Rb.rDictP K) (tCons te tNil))) Γ (exD P fun i => dkD ((xs i).map fun x => (key x, f x))) := fun σ H0 H e s w Q q =>
  h σ H0 H e s w _ fun v H1 H1' g1 ⟨i, hi, a, us, ex, ha, hf⟩ => by
    obtain ⟨ps, kvs, h1, h2, h3⟩ := fits_pairs hf
    rw [h1] at ha
    refine ⟨a, ps, kvs, by rw [ex], .of (g1.sub _ _ ha), Paired.mono' (fun p kv hp => .of (g1.sub _ _ hp)) h2, fun p hpn => ⟨p, _, rfl, upd_same, True.intro, fun od => ?_⟩⟩
    have e2 : ∀ u u' : HO, upd (upd H1' p u) p u' = upd H1' p u' := fun u u' => by
      funext b
      by_cases z : b = p
      · subst z; rw [upd_same, upd_same]
      · rw [upd_ne z, upd_ne z, upd_ne z]
    rw [e2]
    have h4 := merge_paired (H := H1) (acc := []) (us := []) .nil h3 (by
      rw [List.map_nil, List.nil_append, List.map_map]
      exact nd i hi)
    rw [List.nil_append] at h4
    exact q _ _ _ (g1.trans (.new g1.sub g1.ow hpn)) ⟨i, hi, p, od, _, rfl, upd_same, Paired.mono' (fun p' _ h => ⟨h.1, p'.2.mono (same_upd (g1.sub.free hpn)) h.2⟩) h4⟩
theorem ed_dictP {α : Type} {xs : List α} {key : α → Key} {f : α → Den} (h : ED Os te Γ (lstD (xs.map fun x => tupD [valD (kV (key x)), f x]))) (nd : (xs.map key).Nodup) : ED Os (tFrz (tCB (Rb.rDictP K) (tCons te tNil))) Γ (dkD (xs.map fun x => (key x, f x))) :=
  (ed_dictPX (ι := Unit) (P := fun _ => True) (xs := fun _ => xs) (key := key) (f := f) (h.imp fun H v hv => ⟨(), trivial, hv⟩) fun _ _ => nd).imp fun H v ⟨_, _, hv⟩ => hv
end
section
variable {K : PySem.W.Frag} {Os : Own} {Γ : Ctx} {te tq : TE} {N : Own → Ctx → Prop} {O : Own → Den → Prop} {α β : Type} {Pr : α → Prop} {args : α → List Den} {os os' : α → Own} {res : α → Den} {C : Addr} {fs : List (Str × Den)} {a : Addr}
/-- x.m(e), which changes x, e one of some -/
theorem sb_methOwnX {m : Str} {P : β → Prop} {F : β → Den} {fs' : β → List (Str × Den)} (b : β → α) (ho : ED ((a, insO C fs) :: Os) tq Γ (valD (.ref a))) (h : ED ((a, insO C fs) :: Os) te Γ (exD P F)) (hp : ∀ x, P x → Pr (b x) ∧ args (b x) = [valD (.ref a), F x] ∧ os (b x) = [(a, insO C fs)] ∧ os' (b x) = [(a, insO C (fs' x))]) (hn : ∀ x, P x → N ((a, insO C (fs' x)) :: Os) Γ) (l : fs.lookup m = none := by rfl) :
    SB ((a, insO C fs) :: Os) (tDrop (tMeth C m (DefSp (ow Pr args os os' res)) [] E0 tq (tCons te tNil))) Γ N O := fun σ H0 H D e s w q _ =>
  ho σ H0 H e s w _ fun x H1 H1' g1 hx => by
    obtain ⟨_, o, eo, dx, us, po, pr⟩ := id (g1.ow.at_ _ List.mem_cons_self)
    subst po
    have ex : x = .ref a := hx
    subst ex
    refine ⟨a, dx, us, rfl, eo, (lookup_paired pr).2 l, h σ H1 H1' (e.mono g1.s0) g1.sub g1.ow _ fun v H2 H2' g2 ⟨y, hy, ry⟩ => ?_⟩
    obtain ⟨p1, e1, e2, e3⟩ := hp y hy
    exact def_sp (E := E0) g2.sub (g2.ow.part (fun p hp => by rw [List.mem_singleton.mp hp]; exact List.mem_cons_self) nd1) (.cons rfl (.cons ry .nil)) ⟨b y, p1, e1.symm, e2.symm, e3.symm, rfl⟩ fun v H4 H4' g4 _ => q _ _ (hn y hy) _ H4 H4' (g1.trans (g2.trans (g4.head g2.ow))) (e.mono (g1.s0.trans (g2.s0.trans g4.s0)))
end
end Dn
/-! DP -/
/-! Own things told again by one of some; signs of texts. -/
namespace Dn
open PySem PySem.Spec PyProof.Rows L2
section
variable {K : PySem.W.Frag} {Os Os1 : Own} {Γ Γ1 : Ctx} {te tq ti ta tb : TE} {A B C R : Den} {sa : TS} {N N' : Own → Ctx → Prop} {O : Own → Den → Prop}
theorem hold_sub {a : Addr} {O1 O2 : Ow} {H0 H : Hp} (f : ∀ H o, O1.p H o → O2.p H o) (w : Hold ((a, O1) :: Os) H0 H) : Hold ((a, O2) :: Os) H0 H := ⟨w.nd, fun p hp => by
  rcases List.mem_cons.mp hp with z | z
  · subst z
    obtain ⟨na, o, ea, px⟩ := w.at_ (a, O1) List.mem_cons_self
    exact ⟨na, o, ea, f _ _ px⟩
  · exact w.at_ p (List.mem_cons_of_mem _ z)⟩
theorem SB.close (h : SB Os sa Γ N' O) (hn : ∀ o g, N' o g → ∃ o2 g2, N o2 g2 ∧ Less g2 g ∧ (∀ b, b ∈ ads o2 → b ∈ ads o) ∧ ∀ H0 H, Hold o H0 H → Hold o2 H0 H) : SB Os sa Γ N O := fun σ H0 H D e s w q r =>
  h σ H0 H D e s w (fun o g m σ' H0' H' gr e1 => by
    obtain ⟨o2, g2, h1, h0, h2, h3⟩ := hn o g m
    exact q o2 g2 h1 σ' H0' H' ⟨gr.s0, gr.s1, gr.sub, gr.fr, h3 _ _ gr.ow, fun b hb => gr.nw b (h2 b hb)⟩ (e1.less h0)) r
theorem SB.exO {α : Type} {P : α → Prop} {F : α → Ow} {b : Addr} (h : SB Os sa Γ (fun o g => ∃ x, P x ∧ o = (b, F x) :: Os1 ∧ Less Γ1 g) O) : SB Os sa Γ (to ((b, Dn.exO P F) :: Os1) Γ1) O := SB.close h fun o g ⟨x, hx, e, l⟩ => ⟨_, Γ1, ⟨rfl, rfl⟩, l, fun c hc => by rw [e]; exact hc, fun H0 H w => hold_sub (fun _ _ p => ⟨x, hx, p⟩) (e ▸ w)⟩
theorem SB.exO2 {α β : Type} {P : α → Prop} {F : α → Ow} {P' : β → Prop} {F' : β → Ow} {b : Addr} {Γ2 : Ctx} (h : SB Os sa Γ (to ((b, Dn.exO P F) :: Os1) Γ2) O) (l : Less Γ1 Γ2) (f : ∀ x, P x → ∃ y, P' y ∧ ∀ H o, (F x).p H o → (F' y).p H o) : SB Os sa Γ (to ((b, Dn.exO P' F') :: Os1) Γ1) O :=
  SB.close h fun o g ⟨e1, e2⟩ => ⟨_, _, ⟨rfl, rfl⟩, by rw [e2]; exact l, fun c hc => by rw [e1]; exact hc, fun H0 H w => hold_sub (O1 := Dn.exO P F) (fun H o ⟨x, hx, p⟩ => by
    obtain ⟨y, hy, g⟩ := f x hx
    exact ⟨y, hy, g H o p⟩) (e1 ▸ w)⟩
/-- a sign at a drawn place -/
theorem od_ixSX {z : Str} {n : Int} (hz : z.length ≤ sizeLine) (hn : n = ((z.cps.toList.length : Nat) : Int)) : OD rIxS (strD z) (exD (fun i : Nat => (i : Int) < n) fun i => intD (i : Nat)) (exD (fun c => c ∈ z.cps.toList) fun c => strD ⟨#[c]⟩) := fun H0 H x y s hx ⟨i, hi, hy⟩ Q q => by
  have hl : i < z.cps.toList.length := by omega
  have e : z.cps.toList[i]? = some z.cps.toList[i] := List.getElem?_eq_getElem hl
  exact ⟨z, i, z.cps.toList[i], hx, hy, hz, atI_nat e, q _ H0 H (.refl s .nil) ⟨_, List.getElem_mem _, rfl⟩⟩
theorem od_addS {i j : Str} (h : i.length + j.length ≤ 100000) : OD (fun x y H Q => ∃ i j, x = .str i ∧ y = .str j ∧ i.length + j.length ≤ sizeLine ∧ Q (.str (i ++ j)) H) (strD i) (strD j) (strD (i ++ j)) := fun H0 H x y s hx hy Q q => ⟨i, j, hx, hy, sz_of h, q _ H0 H (.refl s .nil) rfl⟩
end
section
variable {K : PySem.W.Frag} {Os Os1 : Own} {Γ Γ1 : Ctx} {te tq ti ta tb : TE} {A B C R : Den} {sa sb : TS} {t u : TT} {N N' : Own → Ctx → Prop} {O : Own → Den → Prop}
theorem fits_snoc {H : Hp} {Rs : List Den} : ∀ {Ss : List Den} {us : List V}, Fits H (Ss ++ [A]) us → ∃ vs v, us = vs ++ [v] ∧ Fits H Ss vs ∧ A.p H v
  | [], us, h => by
    cases h with
    | cons r t => cases t; exact ⟨[], _, rfl, .nil, r⟩
  | S :: Ss, us, h => by
    cases h with
    | cons r t =>
      obtain ⟨vs, v, e, h1, h2⟩ := fits_snoc (Rs := Rs) (Ss := Ss) t
      exact ⟨_ :: vs, v, by rw [e]; rfl, .cons r h1, h2⟩
theorem lstO_ex {α : Type} {P : α → Prop} {F : α → Den} {Rs : List Den} (H : Hp) (o : HO) (h : (lstO (Rs ++ [Dn.exD P F])).p H o) : (Dn.exO P fun x => lstO (Rs ++ [F x])).p H o := by
  obtain ⟨us, e, hf⟩ := h
  obtain ⟨vs, v, e2, h1, x, hx, h2⟩ := fits_snoc (Rs := []) hf
  exact ⟨x, hx, us, e, e2 ▸ fits_app h1 (.cons h2 .nil)⟩
/-- xs.append(e), e one of some -/
theorem sb_appX {α : Type} {P : α → Prop} {F : α → Den} {a : Addr} {tA : TA} {Rs : List Den} (ho : ED ((a, lstO Rs) :: Os) te Γ (valD (.ref a))) (h : EA ((a, lstO Rs) :: Os) tA Γ [Dn.exD P F]) (hl : Rs.length < 100000) (hn : N ((a, Dn.exO P fun x => lstO (Rs ++ [F x])) :: Os) Γ) : SB ((a, lstO Rs) :: Os) (tDrop (tBM K "list" rAppend te tA)) Γ N O :=
  SB.close (N' := to ((a, lstO (Rs ++ [Dn.exD P F])) :: Os) Γ) (sb_app ho h hl ⟨rfl, rfl⟩) fun o g ⟨e1, e2⟩ => ⟨_, _, hn, by rw [e2]; exact .refl, fun c hc => by rw [e1]; exact hc, fun H0 H w => hold_sub (fun H o p => lstO_ex H o p) (e1 ▸ w)⟩
theorem en_test {α : Type} {P : α → Prop} {F : α → Bool} (h : ED Os te Γ (Dn.exD P fun x => blD (F x))) : EN Os (tTest te) Γ := fun σ H0 H e s w Q q => h σ H0 H e s w _ fun v H1 H1' g ⟨x, hx, hv⟩ => by
  have ev : v = .bl (F x) := hv
  subst ev
  exact (et_test (Os := Os) (Γ := Γ) (te := tC (.bl (F x))) ed_c) σ H1 H1' (e.mono g.s0) g.sub g.ow _ fun H2 H2' g2 => q _ H2 H2' (g.trans g2)
theorem etp_and {b : Bool} (h1 : EN Os t Γ) (h2 : ET Os u Γ b) : ETP Os (tAnd t u) Γ (fun c => c = true → b = true) := fun σ H0 H e s w Q q => h1 σ H0 H e s w _ fun c H1 H1' g => by
  cases c with
  | true =>
    show u σ H1' Q
    exact h2 σ H1 H1' (e.mono g.s0) g.sub g.ow Q fun H2 H2' g2 => q b H2 H2' (fun z => z) (g.trans g2)
  | false =>
    show Q false H1'
    exact q false H1 H1' (fun z => nomatch z) g
theorem sb_ifP {pb : Bool → Prop} (h : ETP Os t Γ pb) (h1 : pb true → SB Os sa Γ N O) (h2 : pb false → SB Os sb Γ N O) : SB Os (tIfS t sa sb) Γ N O := fun σ H0 H D e s w q r => h σ H0 H e s w _ fun c H1 H1' p g1 => by
  cases c with
  | true => exact h1 p σ H1 H1' D (e.mono g1.s0) g1.sub g1.ow (fun o g m σ' H2 H2' g2 e2 => q o g m σ' H2 H2' (g1.trans g2) e2) fun o d m v H2 H2' g2 hv => r o d m v H2 H2' (g1.trans g2) hv
  | false => exact h2 p σ H1 H1' D (e.mono g1.s0) g1.sub g1.ow (fun o g m σ' H2 H2' g2 e2 => q o g m σ' H2 H2' (g1.trans g2) e2) fun o d m v H2 H2' g2 hv => r o d m v H2 H2' (g1.trans g2) hv
/-- 1 + one below, one below == a number -/
theorem od_1pl {z : Int} : OD (rI0 fun i j => .int (i + j)) (intD 1) (exD (fun i : Nat => (i : Int) < z) fun i => intD (i : Nat)) (exD (fun n : Nat => 1 ≤ n ∧ (n : Int) ≤ z) fun n => intD (n : Nat)) := od_exR fun i hi => od_add.res fun H v hv => ⟨1 + i, by omega, by
  show v = V.int _
  rw [Int.natCast_add]
  exact hv⟩
theorem od_eqX {P : Nat → Prop} {k : Int} : OD rEq (exD P fun i => intD (i : Nat)) (intD k) (exD (fun _ : Bool => True) fun b => blD b) := od_exL fun i _ => od_eqI.res fun H v hv => ⟨_, trivial, hv⟩
end
section
variable {K : PySem.W.Frag} {Os Os1 : Own} {Γ Γ1 : Ctx} {te tk tv : TE} {A B C R : Den} {sa sb : TS} {N N' : Own → Ctx → Prop} {O : Own → Den → Prop}
theorem kvs_snoc {κ : Type} {H : Hp} {k : κ} : ∀ {kvs : List (κ × Den)} {us : List (κ × V)}, Paired (fun (p : κ × Den) (q : κ × V) => p.1 = q.1 ∧ p.2.p H q.2) (kvs ++ [(k, A)]) us → ∃ vs v, us = vs ++ [(k, v)] ∧ Paired (fun (p : κ × Den) (q : κ × V) => p.1 = q.1 ∧ p.2.p H q.2) kvs vs ∧ A.p H v
  | [], us, h => by
    cases h with
    | cons r t =>
      cases t
      rename_i b
      obtain ⟨k', v⟩ := b
      obtain ⟨e, r⟩ := r
      dsimp only at e r
      subst e
      exact ⟨[], v, rfl, .nil, r⟩
  | S :: Ss, us, h => by
    cases h with
    | cons r t =>
      obtain ⟨vs, v, e, h1, h2⟩ := kvs_snoc (kvs := Ss) t
      exact ⟨_ :: vs, v, by rw [e]; rfl, .cons r h1, h2⟩
theorem dct_ex {κ α : Type} {mk : List (κ × V) → HO} {P : α → Prop} {F : α → Den} {kvs : List (κ × Den)} {k : κ} (H : Hp) (o : HO) (h : (dctO mk (kvs ++ [(k, Dn.exD P F)])).p H o) : (Dn.exO P fun x => dctO mk (kvs ++ [(k, F x)])).p H o := by
  obtain ⟨us, e, hf⟩ := h
  obtain ⟨vs, v, e2, h1, x, hx, h2⟩ := kvs_snoc hf
  exact ⟨x, hx, us, e, e2 ▸ Paired.app h1 (.cons ⟨rfl, h2⟩ .nil)⟩
theorem sb_dputKX {α : Type} {P : α → Prop} {F : α → Den} {a : Addr} {kvs : List (Key × Den)} {k : Key} (hv : ED ((a, dctO .dK kvs) :: Os) tv Γ (Dn.exD P F)) (h : ED ((a, dctO .dK kvs) :: Os) te Γ (valD (.ref a))) (hb : ED ((a, dctO .dK kvs) :: Os) tk Γ (valD (kV k))) (nk : k ∉ kvs.map (·.1)) (hl : kvs.length < 100000) (hn : N ((a, Dn.exO P fun x => dctO .dK (kvs ++ [(k, F x)])) :: Os) Γ) : SB ((a, dctO .dK kvs) :: Os) (sDPut te tk tv) Γ N O :=
  SB.close (N' := to ((a, dctO .dK (kvs ++ [(k, Dn.exD P F)])) :: Os) Γ) (sb_dputK hv h hb nk hl ⟨rfl, rfl⟩) fun o g ⟨e1, e2⟩ => ⟨_, _, hn, by rw [e2]; exact .refl, fun c hc => by rw [e1]; exact hc, fun H0 H w => hold_sub (fun H o p => dct_ex H o p) (e1 ▸ w)⟩
end
section
variable {K : PySem.W.Frag} {Os Os1 : Own} {Γ Γ1 : Ctx} {te ta tb tk tv : TE} {A B C R : Den} {sa sb : TS} {N N' : Own → Ctx → Prop} {O : Own → Den → Prop} {M : Own → Den → Prop}
/-- x = a + b, a list of one's own -/
theorem sb_catO {i : Nat} {Rs Ss : List Den} (h1 : ED Os ta Γ (lstD Rs)) (h2 : ED Os tb Γ (lstD Ss)) (hl : Rs.length + Ss.length ≤ 100000) (hn : ∀ a, N ((a, lstO (Rs ++ Ss)) :: Os) (Γ.set i (some (valD (.ref a))))) : SB Os (tAsg (tOp rCat ta tb) (gName i)) Γ N O := fun σ H0 H D e s w q _ =>
  h1 σ H0 H e s w _ fun x H1 H1' g1 hx => h2 σ H1 H1' (e.mono g1.s0) g1.sub g1.ow _ fun y H2 H2' g2 hy => by
    obtain ⟨a, vs, ex, ha, hf⟩ := hx
    obtain ⟨b, us, ey, hb, hg⟩ := hy
    have l1 := Paired.length hf
    have l2 := Paired.length hg
    refine ⟨a, b, vs, us, ex, ey, g2.sub _ _ (g2.s0 _ _ ha), g2.sub _ _ hb, sz_of (by omega), fun p hp => ?_⟩
    exact q _ _ (hn p) _ H2 _ (g1.trans (g2.trans (grow_newL g2.sub g2.ow hp ⟨_, rfl, fits_app (hf.mono g2.s0) hg⟩))) ((e.mono (g1.s0.trans g2.s0)).set i rfl)
/-- return [..], a list of one's own -/
theorem sb_retNew {tA : TA} {Rs : List Den} (h : EA Os tA Γ Rs) (hr : ∀ a, O ((a, lstO Rs) :: Os) (valD (.ref a))) (hl : Rs.length ≤ 100000 := by first | decide | (simp; done) | (simp <;> omega)) : SB Os (tRet (tLst tA)) Γ N O := fun σ H0 H D e s w _ q => h σ H0 H e s w _ fun vs H1 H1' g1 hf =>
  ⟨sz_of (by rw [← Paired.length hf]; exact hl), fun a ha => q _ _ (hr a) _ H1 _ (g1.trans (grow_newL g1.sub g1.ow ha ⟨_, rfl, hf⟩)) rfl⟩
/-- f(g(..)), g making something of one's own that is left behind -/
theorem ed_callOf {rel : List Den → Own → Own → Den → Prop} (h : EX [] te Γ M) (hr : ∀ o r, M o r → ∃ o', rel [r] o o' R) : ED [] (tCall (DefSp rel) [] E0 (tCons te tNil)) Γ R := fun σ H0 H e s w Q q =>
  h σ H0 H e s w _ fun o r v H1 H1' m g1 hv => by
    obtain ⟨o', hr⟩ := hr o r m
    show DefSp rel [v] H1' Q E0
    refine def_sp (E := E0) g1.sub g1.ow (.cons hv .nil) hr fun u H2 H2' g2 hu => ?_
    have g := g1.trans g2
    exact q u H2 H2' ⟨g.s0, g.s1, g.sub, g.fr, .nil, fun _ z => nomatch z⟩ hu
end
/-! ### the script: a list that may be frozen -/
theorem _root_.L2.Same.sql {K : PySem.W.Frag} {H H' : Hp} {a : Addr} {xs : List V} (e : Same H H') (h : SqL K H a xs) : SqL K H' a xs := by
  rcases h with (h | ⟨o, h⟩) | h
  · exact .inl (.inl (e _ _ h))
  · exact .inl (.inr ⟨o, e _ _ h⟩)
  · exact .inr h
def scrD (K : PySem.W.Frag) (L : List Int) : Den := ⟨fun H x => ∃ a, x = .ref a ∧ SqL K H a (L.map V.int), fun s ⟨a, h1, h2⟩ => ⟨a, h1, s.sql h2⟩⟩
theorem cd_lenQ {K : PySem.W.Frag} {L : List Int} (hl : L.length ≤ 100000) : CD (rLen K) [scrD K L] (intD (L.length : Nat)) := fun H0 H xs s hf Q q => by
  cases hf with
  | cons r1 t1 =>
    cases t1
    obtain ⟨a, e, h⟩ := r1
    subst e
    exact ⟨_, _, rfl, .inl ⟨L.map V.int, s.sql h, rfl⟩, q _ H0 H (.refl s .nil) (by rw [List.length_map]; rfl)⟩
theorem od_ixQ {K : PySem.W.Frag} {L : List Int} {i : Nat} {z : Int} (h : L[i]? = some z) : OD (rIxL K) (scrD K L) (intD (i : Nat)) (intD z) := fun H0 H x y s ⟨a, e, ha⟩ hy Q q => by
  subst e
  exact ⟨a, L.map V.int, i, .int z, rfl, hy, s.sql ha, atI_nat (by rw [List.getElem?_map, h]; rfl), q _ H0 H (.refl s .nil) rfl⟩
theorem str_ext {a b : Str} (h : a.cps.toList = b.cps.toList) : a = b := by
  obtain ⟨x⟩ := a
  obtain ⟨y⟩ := b
  exact congrArg Str.mk (Array.toList_inj.mp h)
theorem app_cps (a b : Str) : (a ++ b).cps.toList = a.cps.toList ++ b.cps.toList := by
  show (a.cps ++ b.cps).toList = _
  exact Array.toList_append
def sgn (c : Nat) : Str := ⟨#[c]⟩
theorem sgn_cps (c : Nat) : (sgn c).cps.toList = [c] := rfl
theorem join_sgn : ∀ cs : List Nat, (Txt.join "" (cs.map sgn)).cps.toList = cs := by
  intro cs
  have e : Txt.join "" (cs.map sgn) = Str.join "" (cs.map sgn) := PySem.StrLaws.glued_eq_join _ _
  rw [e]
  clear e
  induction cs with
  | nil => rfl
  | cons c cs ih =>
    cases cs with
    | nil => rfl
    | cons d cs =>
      have e : Str.join "" ((c :: d :: cs).map sgn) = sgn c ++ "" ++ Str.join "" ((d :: cs).map sgn) := rfl
      rw [e, app_cps, app_cps, ih, sgn_cps]
      rfl
end Dn
/-! VV -/
namespace Pr
open PySem PySem.Spec PyProof.Rows L2 Dn Rb
/-- some names -/
def NamesP (lo hi : Nat) (l : List Str) : Prop := (lo ≤ l.length ∧ l.length ≤ hi) ∧ l.Nodup ∧ ∀ x, x ∈ l → okN x ∧ x.length ≠ 6
abbrev namesO (l : List Str) : Ow := lstO (l.map fun x => strD x)
def fresh6 (w : Str) (c : Nat) : Str := (⟨(w.cps.toList.take 6).toArray⟩ : Str) ++ sgn c ++ "q"
def freshOf (w : Str) : List Str := w :: letters.map (fresh6 w)
theorem fresh6_cps (w : Str) (c : Nat) : (fresh6 w c).cps.toList = w.cps.toList.take 6 ++ [c] ++ ("q" : Str).cps.toList := by
  unfold fresh6
  rw [app_cps, app_cps]
  rfl
theorem letters_nd : letters.Nodup := by decide +kernel
theorem letters_len : letters.length = 26 := by decide +kernel
theorem q_cps : ("q" : Str).cps.toList = [113] := by decide +kernel
theorem q_in : 113 ∈ letters := by decide +kernel
theorem okN_of {z : Str} {cs : List Nat} (e : z.cps.toList = cs) (h : 1 ≤ cs.length ∧ cs.length ≤ 8) (hc : ∀ c, c ∈ cs → c ∈ letters) : okN z := by
  have l : z.length = cs.length := by rw [← e]; exact Array.length_toList.symm
  unfold okN nameB
  rw [l, e]
  simp only [h, and_self, decide_true, Bool.true_and, List.all_eq_true, decide_eq_true_eq]
  exact hc
theorem okN.cs {z : Str} (h : okN z) : (1 ≤ z.cps.toList.length ∧ z.cps.toList.length ≤ 8) ∧ ∀ c, c ∈ z.cps.toList → c ∈ letters := by
  have hl := h.len
  have l : z.length = z.cps.toList.length := Array.length_toList.symm
  rw [l] at hl
  refine ⟨hl, ?_⟩
  unfold okN nameB at h
  rw [Bool.and_eq_true, List.all_eq_true] at h
  intro c hc
  have := h.2 c hc
  simpa using this
theorem fresh_ok {w x : Str} (h : okN w) (hx : x ∈ freshOf w) : okN x := by
  rcases List.mem_cons.mp hx with e | m
  · rw [e]; exact h
  · obtain ⟨c, hc, e⟩ := List.mem_map.mp m
    subst e
    refine okN_of (fresh6_cps w c) ?_ ?_
    · rw [q_cps]
      simp only [List.length_append, List.length_singleton, List.length_take]
      omega
    · rw [q_cps]
      intro d hd
      rcases List.mem_append.mp hd with hd | hd
      · rcases List.mem_append.mp hd with hd | hd
        · exact h.cs.2 d (List.mem_of_mem_take hd)
        · rw [List.mem_singleton.mp hd]; exact hc
      · rw [List.mem_singleton.mp hd]; exact q_in
theorem fresh_one {w : Str} {l : List Str} (hl : l.length ≤ 20) : ∃ x, ((freshOf w).filter fun x => !decide (x ∈ l))[0]? = some x ∧ x ∈ freshOf w ∧ x ∉ l := by
  cases e : (freshOf w).filter fun x => !decide (x ∈ l) with
  | cons x r =>
    have m : x ∈ (freshOf w).filter fun x => !decide (x ∈ l) := by rw [e]; exact List.mem_cons_self
    obtain ⟨m1, m2⟩ := List.mem_filter.mp m
    exact ⟨x, rfl, m1, by simpa using m2⟩
  | nil =>
    have all : ∀ x, x ∈ letters.map (fresh6 w) → x ∈ l := fun x hx => by
      have := List.filter_eq_nil_iff.mp e x (List.mem_cons_of_mem _ hx)
      simpa using this
    have nd : (letters.map (fresh6 w)).Nodup := List.pairwise_map.mpr (letters_nd.imp fun {a b} n z => n (by
      have := congrArg (fun s : Str => s.cps.toList) z
      rw [fresh6_cps, fresh6_cps] at this
      have := List.append_cancel_right this
      have := List.append_cancel_left this
      exact (List.cons.inj this).1))
    have := len_le nd all
    rw [List.length_map, letters_len] at this
    omega
theorem fresh_six {w x : Str} (h : w.length ≤ 3 ∨ w.length = 8) (hx : x ∈ freshOf w) : x.length ≠ 6 := by
  rcases List.mem_cons.mp hx with e | m
  · rw [e]; omega
  · obtain ⟨c, hc, e⟩ := List.mem_map.mp m
    subst e
    have l1 : (fresh6 w c).length = (fresh6 w c).cps.toList.length := Array.length_toList.symm
    have l2 : w.length = w.cps.toList.length := Array.length_toList.symm
    rw [l1, fresh6_cps, q_cps]
    rw [l2] at h
    simp only [List.length_append, List.length_singleton, List.length_take]
    omega
structure NmA where
  r : Addr
  lo : Nat
  hi : Nat
section
variable {P : Program} {w : World} {K : PySem.W.Frag} {mg : Str → Option Value} {base : Heap}
abbrev nmG (r b : Addr) (n : Nat) : Dn.Ctx := [some (valD (.ref r)), some (intD (n : Nat)), none, some (strD "abcdefghijklmnopqrstuvwxyz"), some (valD (.ref b)), none, none, none, none, none]
abbrev r_l_names (K : PySem.W.Frag) : List Den → Own → Own → Den → Prop := ow (fun a : NmA => a.hi ≤ 20) (fun a => [valD (.ref a.r), exD (fun n : Nat => a.lo ≤ n ∧ n ≤ a.hi) fun n => intD (n : Nat)]) (fun a => rngP a.r) (fun a => rngP a.r) (fun a => exD (NamesP a.lo a.hi) strsD)
theorem ok_l_names (T : Txt K mg) : FnOk P w K mg base CX0 3 (a_l_names K) (fdOf K (a_l_names K)) ["_law_rng_here", "_law_size"] (DefSp (r_l_names K)) := by
  refine ow_ok (F_l_names T) sc_l_names (fun _ => rfl) fun cdv A outer s H E hr => ⟨_, PSs.nox (pss_cons (ps_asg (pe_tup (pa_cons pe_str (pa_cons (pe_lst pa_nil) pa_nil))) (pg_tupK (K := K) (n := 2) rfl (pgs_cons (pg_name (i := 3) sc_l_names.nd rfl (Or.inr rfl)) (pgs_cons (pg_name (i := 4) sc_l_names.nd rfl (Or.inr rfl)) pgs_nil))))
  (pss_cons (ps_for PassesOwn.never rfl (pi_range1 rfl (z_range T) (pa_cons (pv 1) pa_nil)) (pg_name (i := 2) sc_l_names.nd rfl (Or.inl rfl))
  (pss_cons (ps_set (i := 5) sc_l_names.nd rfl (Or.inr rfl) (pe_join pe_str (pe_lc (own := [("_law_turn", 7)]) (by rfl) sc_l_names.nd (pi_range1 rfl (z_range T) (pa_cons (pe_op op_add pe_int (pe_call (ok_l_choice T) (hr.mono (by decide)) rfl (g_l_choice T) (F_l_choice T).kp (b_l_choice T) .nil pass0 (pa_cons (pv 0) (pa_cons (pe_lst (pa_cons pe_int (pa_cons pe_int (pa_cons pe_int (pa_cons pe_int (pa_cons pe_int pa_nil)))))) pa_nil)))) pa_nil)) (blkOk_by (N := n_l_names) (sc := defScope s_l_names) (by decide +kernel)) (fun _ _ _ _ _ => (pg_name (i := 7) sc_l_names.nd rfl (Or.inl rfl))) (fun _ _ _ _ _ => pts_nil) (fun _ _ _ _ _ => (pe_ix ix_str (pv 3) (pe_call (ok_l_draw T) (hr.mono (by decide)) rfl (g_l_draw T) (F_l_draw T).kp (b_l_draw T) .nil pass0 (pa_cons (pv 0) (pa_cons pe_int pa_nil))) (fun _ _ => rfl))))))
  (pss_cons (ps_set (i := 6) sc_l_names.nd rfl (Or.inl rfl) (pe_op op_cat (pe_lst (pa_cons (pv 5) pa_nil)) (pe_lc (own := [("_law_sign", 8)]) (by rfl) sc_l_names.nd (pi_str (pv 3)) (blkOk_by (N := n_l_names) (sc := defScope s_l_names) (by decide +kernel)) (fun _ _ _ _ _ => (pg_name (i := 8) sc_l_names.nd rfl (Or.inl rfl))) (fun _ _ _ _ _ => pts_nil) (fun _ _ _ _ _ => (pe_op op_add_str (pe_op op_add_str (pe_slice sl_str (pv 5) po_none (po_some pe_int)) (pv 8)) pe_str)))))
  (pss_one (ps_expr (pe_bm PySem.F.plainAttrs_list PySem.F.slot_list_append PySem.F.type_list_append mt_append (pv 4) (pa_cons (pe_ix (ix_listK (K := K)) (pe_lc (own := [("_law_name", 9)]) (by rfl) sc_l_names.nd (pi_listK (K := K) (pv 6)) (blkOk_by (N := n_l_names) (sc := defScope s_l_names) (by decide +kernel)) (fun _ _ _ _ _ => (pg_name (i := 9) sc_l_names.nd rfl (Or.inl rfl))) (fun _ _ _ _ _ => (pts_one (pt_cmpR (op_notIn_seqK (K := K)) (pv 9) (pv 4) (by rfl)))) (fun _ _ _ _ _ => (pv 9))) pe_int (fun _ _ => rfl)) pa_nil)))))))
  (pss_one (ps_ret (pv 4))))), ?_⟩
  rintro ⟨r, lo, hi⟩ h
  dsimp only at h ⊢
  refine sb_exv (i := 1) rfl fun n hn => ?_
  refine sb_seqG (M := fun o g => ∃ b, o = (b, lstO []) :: rngP r ∧ g = nmG r b n) (sb_tup2n ed_c fun b => ⟨b, rfl, rfl⟩) fun o g m => ?_
  obtain ⟨b, rfl, rfl⟩ := m
  refine sb_own (O2 := exO (NamesP 0 0) namesO) (fun H o p => ⟨[], ⟨⟨Nat.le_refl _, Nat.le_refl _⟩, List.nodup_nil, fun x z => nomatch z⟩, p⟩) ?_
  refine sb_seq (Γ1 := nmG r b n) (Os1 := (b, exO (NamesP n n) namesO) :: rngP r) (sb_forP (xs := List.range n) (d := fun i => intD (i : Nat)) (Oz := fun pre => (b, exO (NamesP pre.length pre.length) namesO) :: rngP r) (Γs := fun _ => nmG r b n) (ei_range (n := ((n : Nat) : Int)) (ea_cons (ed_var rfl) ea_nil) (by omega) (by omega)) rfl (fun _ => rfl) .refl (fun pre x post sp => ⟨_, _, gd_name, ?_⟩) ⟨by rw [List.length_range], rfl⟩) ?_
  · have hpl : pre.length < 20 := by
      have := congrArg List.length sp
      rw [List.length_range, List.length_append, List.length_cons] at this
      omega
    refine sb_open fun l hl => SB.exO ?_
    obtain ⟨hl1, hl2, hl3⟩ := hl
    refine sb_seqG (M := fun o g => ∃ u, (okN u ∧ (u.length ≤ 3 ∨ u.length = 8)) ∧ o = (b, namesO l) :: rngP r ∧ g = ((nmG r b n).set 2 (some (intD (x : Nat)))).set 5 (some (strD u))) (sb_asgX (P := fun xs : List Str => ∃ cs : List Nat, (1 ≤ cs.length ∧ (cs.length ≤ 3 ∨ cs.length = 8)) ∧ (∀ c, c ∈ cs → c ∈ letters) ∧ xs = cs.map sgn) (F := fun xs => strD (Txt.join "" xs)) (ed_joinX ed_c (ed_lcR (P := fun k => 1 ≤ k ∧ (k ≤ 3 ∨ k = 8)) (ea_cons (ed_op ed_c (ed_choice (xs := [(0 : Int), 0, 1, 2, 7]) (d := fun i => intD i) (ea_cons (ed_var rfl) (ea_cons (ed_ints (is := [(0 : Int), 0, 1, 2, 7]) (ea_cons ed_c (ea_cons ed_c (ea_cons ed_c (ea_cons ed_c (ea_cons ed_c ea_nil))))) (by decide)) ea_nil)) ⟨by decide, by decide⟩ (List.mem_cons_of_mem _ List.mem_cons_self)) (od_exR fun i hi => od_add.res fun H v hv => ⟨(1 + i).toNat, by simp at hi; omega, by
        have : ((1 + i).toNat : Int) = 1 + i := by simp at hi; omega
        show v = V.int _
        rw [this]; exact hv⟩)) ea_nil) fun k hk => (ed_exs (ed_lc0 (xs := List.range k) (d := fun i => intD (i : Nat)) (f := fun _ => exD (fun c => c ∈ letters) fun c => strD (sgn c)) (ei_range (n := ((k : Nat) : Int)) (ea_cons ed_c ea_nil) (by omega) (by omega)) (fun i _ => gd_name) (fun i _ => ed_op (ed_var rfl) (ed_draw (z := 26) (ea_cons (ed_var rfl) (ea_cons ed_c ea_nil)) ⟨by decide, by decide⟩ (List.mem_cons_of_mem _ List.mem_cons_self)) (od_ixSX (by decide +kernel) (by decide +kernel))) (by decide) (by rw [List.length_range]; omega))).imp fun H v ⟨ys, ⟨y1, y2⟩, hv⟩ => ⟨(ys.map (·.2)).map sgn, ⟨ys.map (·.2), by
          have := congrArg List.length y1
          rw [List.length_map, List.length_range] at this
          rw [List.length_map]
          omega, fun c hc => by
          obtain ⟨y, hy, e⟩ := List.mem_map.mp hc
          rw [← e]; exact y2 y hy, rfl⟩, by
          show (lstD (((ys.map (·.2)).map sgn).map fun x => strD x)).p H v
          rw [List.map_map, List.map_map]
          exact hv⟩) fun xs hx => ?_) fun xs hx => ?_) fun o g m => ?_
    · obtain ⟨cs, h1, h2, rfl⟩ := hx
      have e1 : (("" : Str)).length = 0 := by decide +kernel
      rw [e1, Nat.mul_zero, Nat.add_zero, List.map_map]
      have e2 : (List.map (Str.length ∘ sgn) cs).sum = cs.length := by
        clear h1 h2
        induction cs with
        | nil => rfl
        | cons c cs ih => rw [List.map_cons, List.sum_cons, ih, List.length_cons]; show 1 + _ = _; omega
      rw [e2]
      omega
    · obtain ⟨cs, h1, h2, rfl⟩ := hx
      have hl : (Txt.join "" (cs.map sgn)).length = cs.length := by rw [← join_sgn cs]; rw [join_sgn]; exact (Array.length_toList.symm).trans (congrArg List.length (join_sgn cs))
      exact ⟨_, ⟨okN_of (join_sgn cs) ⟨h1.1, by omega⟩ h2, by rw [hl]; exact h1.2⟩, rfl, rfl⟩
    · obtain ⟨u, ⟨hu, hu6⟩, rfl, rfl⟩ := m
      have hul := hu.len
      have hlen : ∀ z : Str, z.length = z.cps.toList.length := fun z => Array.length_toList.symm
      refine sb_seq (sb_asg (A := strsD (freshOf u)) (ed_op (ed_lst (ea_cons (ed_var rfl) ea_nil)) (ed_lc0 (xs := letters) (d := fun c => strD ⟨#[c]⟩) (f := fun c => strD (fresh6 u c)) (ei_strC (ed_var rfl)) (fun c _ => gd_name) (fun c _ => ed_op (ed_op (ed_slS (ed_var rfl) eo_no (eo_some ed_c) (sz_of (by omega))) (ed_var rfl) (od_addS ?_)) ed_c (od_addS ?_)) (by decide) (by rw [letters_len]; omega)) ((od_cat (by rw [List.length_map, letters_len]; show 1 + 26 ≤ _; omega)).res fun H v hv => by
        unfold freshOf strsD
        rw [List.map_cons, List.map_map]
        exact hv))) ?_
      · rw [hlen, hlen]
        show (List.take 6 u.cps.toList).length + 1 ≤ _
        rw [List.length_take]
        omega
      · rw [hlen, hlen, app_cps, List.length_append]
        show (List.take 6 u.cps.toList).length + 1 + 1 ≤ _
        rw [List.length_take]
        omega
      obtain ⟨nm, e1, e2, e3⟩ := fresh_one (w := u) (l := l) (by omega)
      have fl : (freshOf u).length = 27 := by unfold freshOf; rw [List.length_cons, List.length_map, letters_len]
      refine sb_app (A := strD nm) (ed_var rfl) (ea_cons (ed_op (ed_lc (xs := freshOf u) (d := fun z => strD z) (p := fun z => !decide (z ∈ l)) (f := fun z => strD z) (ei_list (ed_var rfl)) (fun z _ => gd_name) (fun z _ => et_test (ed_notInO (ed_var rfl) (ed_var rfl) List.mem_cons_self)) (fun z _ _ => ed_var rfl) (by decide) (by omega)) ed_c (od_ixL (i := 0) (by rw [List.getElem?_map, e1]; rfl))) ea_nil) (by rw [List.length_map]; omega) ⟨l ++ [nm], ⟨?_, ?_, ?_⟩, by unfold namesO; rw [List.map_append]; rfl, .keep (.keep (.drop (.keep (.keep (.drop (.drop (.drop (.drop (.drop .nil)))))))))⟩
      · rw [List.length_append, List.length_append]
        exact ⟨Nat.add_le_add_right hl1.1 1, Nat.add_le_add_right hl1.2 1⟩
      · refine List.nodup_append.mpr ⟨hl2, List.nodup_cons.mpr ⟨(fun z => nomatch z), List.nodup_nil⟩, fun x hx y hy e => ?_⟩
        rw [List.mem_singleton.mp hy] at e
        exact e3 (e ▸ hx)
      · intro x hx
        rcases List.mem_append.mp hx with m | m
        · exact hl3 x m
        · rw [List.mem_singleton.mp m]; exact ⟨fresh_ok hu e2, fresh_six hu6 e2⟩
  · refine sb_open fun l hl => sb_keep keeps_lst (i := 4) rfl (sb_ret (ed_var rfl) ⟨rfl, ex_sub (P := NamesP lo hi) (F := strsD) (x := l) ⟨⟨by have := hl.1; omega, by have := hl.1; omega⟩, hl.2⟩⟩)
end
end Pr
/-! VW -/
namespace Pr
open PySem PySem.Spec PyProof.Rows L2 Dn Rb
theorem PairP.ok {m : Mny} (h : PairP m) : okM m := ⟨h.1, fun k e => by have := h.2.2 k e; have := h.1; omega⟩
theorem PairP.small {m : Mny} (h : PairP m) : smallM m := ⟨by have := h.2.1; omega, fun k e => by have := h.2.2 k e; omega⟩
/-- a row of the frame -/
def rowP (ks : List Str) (e : Ends4) : Prop := (e.1 ∈ ks ∧ PairP e.2.1) ∧ e.2.2.1 ∈ ks ∧ PairP e.2.2.2
def RowsP (ks pre : List Str) (ls : List (Str × Ends4)) : Prop := ls.map (·.1) = pre ∧ ∀ q, q ∈ ls → rowP ks q.2
abbrev rowsO (ls : List (Str × Ends4)) : Ow := lstO (ls.map fun q => rowD q)
abbrev frameD (f : MoA) : Den := tupD [strsD f.1, rowsD f.2]
def FrameP (f : MoA) : Prop := NamesP 1 3 f.1 ∧ NamesP 0 5 (f.2.map (·.1)) ∧ ∀ q, q ∈ f.2 → rowP f.1 q.2
theorem FrameP.mo {f : MoA} (h : FrameP f) : okMo f.1 f.2 where
  ne := fun z => by have := h.1.1.1; rw [z] at this; cases this
  le := by have := h.1.1.2; omega
  nd := h.1.2.1
  nm := fun k hk => (h.1.2.2 k hk).1
  lle := by have := h.2.1.1.2; rw [List.length_map] at this; omega
  lnd := h.2.1.2.1
  lnm := fun p hp => (h.2.1.2.2 _ (List.mem_map.mpr ⟨p, hp, rfl⟩)).1
  le4 := fun p hp => by
    obtain ⟨⟨a1, a2⟩, a3, a4⟩ := h.2.2 p hp
    exact ⟨⟨(h.1.2.2 _ a1).1, a1⟩, ⟨a2.ok, a2.small⟩, ⟨(h.1.2.2 _ a3).1, a3⟩, a4.ok, a4.small⟩
theorem row_ex {ks : List Str} {n : Str} (H : Hp) (v : V) (h : (tupD [strD n, exD (fun x => x ∈ ks) fun x => strD x, exD PairP pairD, exD (fun x => x ∈ ks) fun x => strD x, exD PairP pairD]).p H v) : (exD (rowP ks) fun e => rowD (n, e)).p H v := by
  obtain ⟨a, us, e, ha, hf⟩ := h
  cases hf with
  | cons r1 t => cases t with
    | cons r2 t => cases t with
      | cons r3 t => cases t with
        | cons r4 t => cases t with
          | cons r5 t =>
            cases t
            obtain ⟨x2, h2, r2⟩ := r2
            obtain ⟨x3, h3, r3⟩ := r3
            obtain ⟨x4, h4, r4⟩ := r4
            obtain ⟨x5, h5, r5⟩ := r5
            exact ⟨(x2, x3, x4, x5), ⟨⟨h2, h3⟩, h4, h5⟩, a, _, e, ha, .cons r1 (.cons r2 (.cons r3 (.cons r4 (.cons r5 .nil))))⟩
section
variable {P : Program} {w : World} {K : PySem.W.Frag} {mg : Str → Option Value} {base : Heap}
abbrev r_l_many (K : PySem.W.Frag) : List Den → Own → Own → Den → Prop := pu (fun m : Mny => PairP m) (fun m => [pairD m]) (fun m => manyD K m)
theorem ok_l_many (T : Txt K mg) : FnOk P w K mg base CX0 6 (a_l_many K) (fdOf K (a_l_many K)) ["_law_pair_here"] (DefSp (r_l_many K)) := by
  refine ow_ok (F_l_many T) sc_l_many (fun _ => rfl) fun cdv A outer s H E hr => ⟨_, PSs.nox (pss_one (ps_ret (pe_ifExp (pt_cmpR op_isN (pe_ix (ix_tupK (K := K)) (pv 0) pe_int (fun _ _ => rfl)) pe_non (nomark _)) (pe_make (mk_Many T) (ok_Many_init T) (hr.mono (by decide)) rfl (g_Many T) (b1_Many_init T) (.cons (show L2.RelV V.non Value.none from rfl) .nil) pass0 (pa_cons (pe_ix (ix_tupK (K := K)) (pv 0) pe_int (fun _ _ => rfl)) pa_nil)) (pe_make (mk_Many T) (ok_Many_init T) (hr.mono (by decide)) rfl (g_Many T) (b_Many_init T) .nil pass0 (pa_cons (pe_ix (ix_tupK (K := K)) (pv 0) pe_int (fun _ _ => rfl)) (pa_cons (pe_ix (ix_tupK (K := K)) (pv 0) pe_int (fun _ _ => rfl)) pa_nil)))))), ?_⟩
  rintro ⟨lo, o⟩ h
  have hM : okM (lo, o) := h.ok
  cases o with
  | none => exact sb_ret (ed_if (b := true) (et_test (ed_op (ed_op (ed_var rfl) ed_c (od_ixT (i := 1) (R := nonD) rfl)) ed_c od_isN)) (fun _ => ed_makeSl (m := (lo, none)) (Rs := [intD lo]) (Ds := [nonD]) (f := slF (lo, none)) (ea_cons (ed_op (ed_var rfl) ed_c (od_ixT (i := 0) rfl)) ea_nil) (fun H => .cons rfl .nil) rfl rfl (fun x dx => ⟨(x, dx, (lo, none)), hM, rfl, rfl, rfl, rfl⟩)) fun z => nomatch z)
  | some k => exact sb_ret (ed_if (b := false) (et_test (ed_op (ed_op (ed_var rfl) ed_c (od_ixT (i := 1) (R := intD k) rfl)) ed_c (od_isN' notN_int))) (fun z => nomatch z) fun _ => ed_makeSl (m := (lo, some k)) (Rs := [intD lo, intD k]) (Ds := []) (f := slF (lo, some k)) (ea_cons (ed_op (ed_var rfl) ed_c (od_ixT (i := 0) rfl)) (ea_cons (ed_op (ed_var rfl) ed_c (od_ixT (i := 1) rfl)) ea_nil)) (fun H => .nil) rfl rfl (fun x dx => ⟨(x, dx, (lo, some k)), hM, rfl, rfl, rfl, rfl⟩))
abbrev frG (r b : Addr) (ks : List Str) : Dn.Ctx := [some (valD (.ref r)), some (intD 3), none, some (strsD ks), some (valD (.ref b))]
abbrev r_l_frame (K : PySem.W.Frag) : List Den → Own → Own → Den → Prop := ow (fun _ : Addr => True) (fun r => [valD (.ref r), intD 3]) (fun r => rngP r) (fun r => rngP r) (fun _ => exD FrameP frameD)
theorem ok_l_frame (T : Txt K mg) : FnOk P w K mg base CX0 4 (a_l_frame K) (fdOf K (a_l_frame K)) ["_law_rng_here", "_law_size"] (DefSp (r_l_frame K)) := by
  refine ow_ok (F_l_frame T) sc_l_frame (fun _ => rfl) fun cdv A outer s H E hr => ⟨_, PSs.nox (pss_cons (ps_par (i := 3) (j := 4) (by rfl) sc_l_frame.nd rfl rfl (by decide) rfl rfl (pa_cons (pe_call (ok_l_names T) (hr.mono (by decide)) rfl (g_l_names T) (F_l_names T).kp (b_l_names T) .nil pass0 (pa_cons (pv 0) (pa_cons (pe_op op_add pe_int (pe_call (ok_l_draw T) (hr.mono (by decide)) rfl (g_l_draw T) (F_l_draw T).kp (b_l_draw T) .nil pass0 (pa_cons (pv 0) (pa_cons (pv 1) pa_nil)))) pa_nil))) (pa_cons (pe_lst pa_nil) pa_nil)) (by rfl))
  (pss_cons (ps_for PassesOwn.never rfl (pi_listK (K := K) (pe_call (ok_l_names T) (hr.mono (by decide)) rfl (g_l_names T) (F_l_names T).kp (b_l_names T) .nil pass0 (pa_cons (pv 0) (pa_cons (pe_call (ok_l_draw T) (hr.mono (by decide)) rfl (g_l_draw T) (F_l_draw T).kp (b_l_draw T) .nil pass0 (pa_cons (pv 0) (pa_cons (pe_op op_mul pe_int (pv 1)) pa_nil))) pa_nil)))) (pg_name (i := 2) sc_l_frame.nd rfl (Or.inl rfl))
  (pss_one (ps_expr (pe_bm PySem.F.plainAttrs_list PySem.F.slot_list_append PySem.F.type_list_append mt_append (pv 4) (pa_cons (pe_tup (pa_cons (pv 2) (pa_cons (pe_call (ok_l_choice T) (hr.mono (by decide)) rfl (g_l_choice T) (F_l_choice T).kp (b_l_choice T) .nil pass0 (pa_cons (pv 0) (pa_cons (pv 3) pa_nil))) (pa_cons (pe_call (ok_l_pair T) (hr.mono (by decide)) rfl (g_l_pair T) (F_l_pair T).kp (b_l_pair T) .nil pass0 (pa_cons (pv 0) pa_nil)) (pa_cons (pe_call (ok_l_choice T) (hr.mono (by decide)) rfl (g_l_choice T) (F_l_choice T).kp (b_l_choice T) .nil pass0 (pa_cons (pv 0) (pa_cons (pv 3) pa_nil))) (pa_cons (pe_call (ok_l_pair T) (hr.mono (by decide)) rfl (g_l_pair T) (F_l_pair T).kp (b_l_pair T) .nil pass0 (pa_cons (pv 0) pa_nil)) pa_nil)))))) pa_nil)))))
  (pss_one (ps_ret (pe_tup (pa_cons (pv 3) (pa_cons (pv 4) pa_nil))))))), ?_⟩
  intro r _
  refine sb_seqG (M := fun o g => ∃ b, o = (b, lstO []) :: rngP r ∧ g = [some (valD (.ref r)), some (intD 3), none, some (exD (NamesP 1 3) strsD), some (valD (.ref b))]) (sb_par2n (ed_call1P (α := NmA) ⟨r, 1, 3⟩ (ea_cons (ed_var rfl) (ea_cons ((ed_op ed_c (ed_draw (z := 3) (ea_cons (ed_var rfl) (ea_cons (ed_var rfl) ea_nil)) ⟨by decide, by decide⟩ List.mem_cons_self) od_1pl).imp fun H v ⟨n, hn, hv⟩ => ⟨n, by dsimp only; omega, hv⟩) ea_nil)) (by show 3 ≤ 20; decide) rfl rfl List.mem_cons_self) fun b => ⟨b, rfl, rfl⟩) fun o g m => ?_
  obtain ⟨b, rfl, rfl⟩ := m
  refine sb_exv (i := 3) rfl fun ks hks => ?_
  refine sb_own (O2 := exO (RowsP ks []) rowsO) (fun H o p => ⟨[], ⟨rfl, fun x z => nomatch z⟩, p⟩) ?_
  refine sb_seqG (M := fun o g => ∃ l, NamesP 0 5 l ∧ o = (b, exO (RowsP ks l) rowsO) :: rngP r ∧ g = frG r b ks) (sb_forX (ι := List Str) (P := NamesP 0 5) (xs := fun l => l) (d := fun n => strD n) (Oz := fun l pre => (b, exO (RowsP ks pre) rowsO) :: rngP r) (Γs := fun _ _ => frG r b ks) (ei_listX (ed_call1P (α := NmA) ⟨r, 0, 5⟩ (ea_cons (ed_var rfl) (ea_cons ((ed_draw (z := 6) (ea_cons (ed_var rfl) (ea_cons (ed_op ed_c (ed_var rfl) (od_mul (.inr ⟨by decide, by decide⟩))) ea_nil)) ⟨by decide, by decide⟩ (List.mem_cons_of_mem _ List.mem_cons_self)).imp fun H v ⟨n, hn, hv⟩ => ⟨n, by dsimp only; omega, hv⟩) ea_nil)) (by show 5 ≤ 20; decide) rfl rfl (List.mem_cons_of_mem _ List.mem_cons_self))) (fun l hl => ⟨rfl, fun _ => rfl, .refl, l, hl, rfl, rfl⟩) fun l hl pre n post sp => ⟨_, _, gd_name, ?_⟩) fun o g m => ?_
  · have hpl : pre.length < 5 := by
      have h1 := congrArg List.length sp
      have h2 := hl.1.2
      rw [List.length_append, List.length_cons] at h1
      omega
    refine sb_open fun ls hls => ?_
    have hll : ls.length = pre.length := by rw [← hls.1, List.length_map]
    refine SB.exO2 (P := rowP ks) (F := fun e => lstO ((ls.map fun q => rowD q) ++ [rowD (n, e)])) (Γ2 := (frG r b ks).set 2 (some (strD n))) (sb_appX (ed_var rfl) (ea_cons (ED.imp (ed_tup (ea_cons (ed_var rfl) (ea_cons (ed_choice (d := fun x => strD x) (ea_cons (ed_var rfl) (ea_cons (ed_var rfl) ea_nil)) ⟨?_, ?_⟩ (List.mem_cons_of_mem _ List.mem_cons_self)) (ea_cons (ed_call1P (α := Addr) r (ea_cons (ed_var rfl) ea_nil) trivial rfl rfl (List.mem_cons_of_mem _ List.mem_cons_self)) (ea_cons (ed_choice (d := fun x => strD x) (ea_cons (ed_var rfl) (ea_cons (ed_var rfl) ea_nil)) ⟨?_, ?_⟩ (List.mem_cons_of_mem _ List.mem_cons_self)) (ea_cons (ed_call1P (α := Addr) r (ea_cons (ed_var rfl) ea_nil) trivial rfl rfl (List.mem_cons_of_mem _ List.mem_cons_self)) ea_nil)))))) fun H v hv => row_ex H v hv) ea_nil) (by rw [List.length_map]; omega) ⟨rfl, rfl⟩) (.keep (.keep (.drop (.keep (.keep .nil))))) fun e he => ⟨ls ++ [(n, e)], ⟨by rw [List.map_append, hls.1]; rfl, fun q hq => ?_⟩, fun H o p => by unfold rowsO; rw [List.map_append]; exact p⟩
    · intro z; have := hks.1.1; rw [z] at this; cases this
    · have := hks.1.2; omega
    · intro z; have := hks.1.1; rw [z] at this; cases this
    · have := hks.1.2; omega
    · rcases List.mem_append.mp hq with m | m
      · exact hls.2 q m
      · rw [List.mem_singleton.mp m]; exact he
  · obtain ⟨l, hl, rfl, rfl⟩ := m
    exact sb_open fun ls hls => sb_keep keeps_lst (i := 4) rfl (sb_ret (ed_tup (ea_cons (ed_var rfl) (ea_cons (ed_var rfl) ea_nil))) ⟨rfl, ex_sub (P := FrameP) (F := frameD) (x := (ks, ls)) ⟨hks, by rw [hls.1]; exact hl, hls.2⟩⟩)
abbrev r_l_real (K : PySem.W.Frag) : List Den → Own → Own → Den → Prop := pu (fun f : MoA => FrameP f) (fun f => [strsD f.1, rowsD f.2]) (fun f => modelD K f.1 f.2)
theorem ok_l_real (T : Txt K mg) : FnOk P w K mg base CX0 8 (a_l_real K) (fdOf K (a_l_real K)) ["_law_names_here", "_law_rows"] (DefSp (r_l_real K)) := by
  refine ow_ok (F_l_real T) sc_l_real (fun _ => rfl) fun cdv A outer s H E hr => ⟨_, PSs.nox (pss_cons (ps_set (i := 2) sc_l_real.nd rfl (Or.inl rfl) (pe_frz (pe_callTy (call_dictPK (K := K) rfl) (by rfl) (z_dict T) boot_dict (pa_cons (pe_lc (own := [("_law_row", 3)]) (by rfl) sc_l_real.nd (pi_listK (K := K) (pv 1)) (blkOk_by (N := n_l_real) (sc := defScope s_l_real) (by decide +kernel)) (fun _ _ _ _ _ => (pg_name (i := 3) sc_l_real.nd rfl (Or.inl rfl))) (fun _ _ _ _ _ => pts_nil) (fun _ _ _ _ _ => (pe_tup (pa_cons (pe_ix (ix_tupK (K := K)) (pv 3) pe_int (fun _ _ => rfl)) (pa_cons (pe_tup (pa_cons (pe_ix (ix_tupK (K := K)) (pv 3) pe_int (fun _ _ => rfl)) (pa_cons (pe_call (ok_l_many T) (hr.mono (by decide)) rfl (g_l_many T) (F_l_many T).kp (b_l_many T) .nil pass0 (pa_cons (pe_ix (ix_tupK (K := K)) (pv 3) pe_int (fun _ _ => rfl)) pa_nil)) (pa_cons (pe_ix (ix_tupK (K := K)) (pv 3) pe_int (fun _ _ => rfl)) (pa_cons (pe_call (ok_l_many T) (hr.mono (by decide)) rfl (g_l_many T) (F_l_many T).kp (b_l_many T) .nil pass0 (pa_cons (pe_ix (ix_tupK (K := K)) (pv 3) pe_int (fun _ _ => rfl)) pa_nil)) pa_nil))))) pa_nil))))) pa_nil))))
  (pss_one (ps_ret (pe_make (mk_Model T) (ok_Model_init T) (hr.mono (by decide)) rfl (g_Model T) (b_Model_init T) .nil pass0 (pa_cons (pv 0) (pa_cons (pv 2) pa_nil)))))), ?_⟩
  rintro ⟨ks, ls⟩ h
  have hm := h.mo
  have hl := hm.lle
  dsimp only at hl ⊢
  refine sb_seq (sb_asg (A := linksD K ls) (ed_dictP (xs := ls) (key := fun q => Sum.inr q.1) (f := fun q => endsD K q.2) (ed_lc0 (xs := ls) (d := fun q => rowD q) (f := fun q => tupD [strD q.1, endsD K q.2]) (ei_list (ed_var rfl)) (fun q _ => gd_name) (fun q hq => ?_) (by decide) (by omega)) ?_)) ?_
  · obtain ⟨⟨a1, a2⟩, a3, a4⟩ := h.2.2 q hq
    exact ed_tup (ea_cons (ed_op (ed_var rfl) ed_c (od_ixT (i := 0) rfl)) (ea_cons (ed_tup (ea_cons (ed_op (ed_var rfl) ed_c (od_ixT (i := 1) rfl)) (ea_cons (ed_callP (α := Mny) q.2.2.1 (ea_cons (ed_op (ed_var rfl) ed_c (od_ixT (i := 2) rfl)) ea_nil) a2) (ea_cons (ed_op (ed_var rfl) ed_c (od_ixT (i := 3) rfl)) (ea_cons (ed_callP (α := Mny) q.2.2.2.2 (ea_cons (ed_op (ed_var rfl) ed_c (od_ixT (i := 4) rfl)) ea_nil) a4) ea_nil))))) ea_nil))
  · have e : ls.map (fun q => (Sum.inr q.1 : Key)) = (ls.map (·.1)).map Sum.inr := by rw [List.map_map]; rfl
    rw [e]
    exact nodup_inr hm.lnd
  · exact sb_ret (ed_make (ea_cons (ed_var rfl) (ea_cons (ed_var rfl) ea_nil)) fun x => ⟨(x, (ks, ls)), hm, rfl, rfl, rfl, rfl⟩)
end
end Pr
/-! VX -/
namespace Pr
open PySem PySem.Spec PyProof.Rows L2 Dn Rb
theorem of_nd {ps : List Pr2} (h : ps.Nodup) (k : Str) : (namesOf ps k).Nodup := by
  unfold namesOf
  have h1 := h.filter (fun p : Pr2 => decide (p.1 = k))
  refine List.Pairwise.map _ (R := fun p q : Pr2 => p ≠ q ∧ p.1 = k ∧ q.1 = k) (fun p q n e => n.1 ?_) ?_
  · obtain ⟨a, b⟩ := p
    obtain ⟨c, d⟩ := q
    dsimp only at e n
    rw [n.2.1, n.2.2, e]
  · refine List.Pairwise.imp_of_mem (fun {p q} hp hq n => ⟨n, ?_, ?_⟩) h1
    · exact of_decide_eq_true (List.mem_filter.mp hp).2
    · exact of_decide_eq_true (List.mem_filter.mp hq).2
/-- told rows -/
structure PeopleP (ks : List Str) (ps : List Pr2) : Prop where
  nd : ps.Nodup
  le : ps.length ≤ 8
  nm : ∀ p, p ∈ ps → p.1 ∈ ks ∧ okN p.2
  six : ∀ p, p ∈ ps → p.2.length ≠ 6
  few : ∀ k, (namesOf ps k).length ≤ 4
structure PeI (ks pre : List Str) (ps : List Pr2) : Prop where
  nd : ps.Nodup
  le : ps.length ≤ 2 * pre.length
  nm : ∀ p, p ∈ ps → p.1 ∈ ks ∧ (okN p.2 ∧ p.2.length ≠ 6) ∧ p.2 ∈ pre
theorem PeI.all {ks l : List Str} {ps : List Pr2} (h : PeI ks l ps) (hl : l.length ≤ 4) : PeopleP ks ps where
  nd := h.nd
  le := by have := h.le; omega
  nm := fun p hp => ⟨(h.nm p hp).1, (h.nm p hp).2.1.1⟩
  six := fun p hp => (h.nm p hp).2.1.2
  few := fun k => Nat.le_trans (len_le (of_nd h.nd k) fun x hx => (h.nm _ (mem_namesOf.mp hx)).2.2) hl
abbrev prsO (ps : List Pr2) : Ow := lstO (ps.map fun p => prD p)
section
variable {P : Program} {w : World} {K : PySem.W.Frag} {mg : Str → Option Value} {base : Heap}
abbrev peG (r b : Addr) (ks : List Str) : Dn.Ctx := [some (valD (.ref r)), some (strsD ks), some (intD 4), some (valD (.ref b)), none]
abbrev r_l_people (K : PySem.W.Frag) : List Den → Own → Own → Den → Prop := ow (fun a : Addr × List Str => NamesP 1 3 a.2) (fun a => [valD (.ref a.1), strsD a.2, intD 4]) (fun a => rngP a.1) (fun a => rngP a.1) (fun a => exD (PeopleP a.2) prsD)
theorem ok_l_people (T : Txt K mg) : FnOk P w K mg base CX0 4 (a_l_people K) (fdOf K (a_l_people K)) ["_law_rng_here", "_law_names_here", "_law_size"] (DefSp (r_l_people K)) := by
  refine ow_ok (F_l_people T) sc_l_people (fun _ => rfl) fun cdv A outer s H E hr => ⟨_, PSs.nox (pss_cons (ps_set (i := 3) sc_l_people.nd rfl (Or.inl rfl) (pe_lst pa_nil))
  (pss_cons (ps_for PassesOwn.never rfl (pi_listK (K := K) (pe_call (ok_l_names T) (hr.mono (by decide)) rfl (g_l_names T) (F_l_names T).kp (b_l_names T) .nil pass0 (pa_cons (pv 0) (pa_cons (pe_call (ok_l_draw T) (hr.mono (by decide)) rfl (g_l_draw T) (F_l_draw T).kp (b_l_draw T) .nil pass0 (pa_cons (pv 0) (pa_cons (pe_op op_add (pv 2) pe_int) pa_nil))) pa_nil)))) (pg_name (i := 4) sc_l_people.nd rfl (Or.inl rfl))
  (pss_cons (ps_expr (pe_bm PySem.F.plainAttrs_list PySem.F.slot_list_append PySem.F.type_list_append mt_append (pv 3) (pa_cons (pe_tup (pa_cons (pe_call (ok_l_choice T) (hr.mono (by decide)) rfl (g_l_choice T) (F_l_choice T).kp (b_l_choice T) .nil pass0 (pa_cons (pv 0) (pa_cons (pv 1) pa_nil))) (pa_cons (pv 4) pa_nil))) pa_nil)))
  (pss_one (ps_if (PW.pt (pw_and (pt_cmpR op_eq (pe_call (ok_l_draw T) (hr.mono (by decide)) rfl (g_l_draw T) (F_l_draw T).kp (b_l_draw T) .nil pass0 (pa_cons (pv 0) (pa_cons pe_int pa_nil))) pe_int (nomark _)) (pw_and1 (pt_cmpR (op_notInDK (K := K) (rm65 hr)) (pe_tup (pa_cons (pe_ix (ix_listK (K := K)) (pv 1) pe_int (fun _ _ => rfl)) (pa_cons (pv 4) pa_nil))) (pv 3) (by rfl))))) (pss_one (ps_expr (pe_bm PySem.F.plainAttrs_list PySem.F.slot_list_append PySem.F.type_list_append mt_append (pv 3) (pa_cons (pe_tup (pa_cons (pe_ix (ix_listK (K := K)) (pv 1) pe_int (fun _ _ => rfl)) (pa_cons (pv 4) pa_nil))) pa_nil)))) pss_nil))))
  (pss_one (ps_ret (pv 3))))), ?_⟩
  rintro ⟨r, ks⟩ hks
  dsimp only at hks ⊢
  obtain ⟨k0, hk0⟩ : ∃ k0, ks[0]? = some k0 := ⟨ks[0]'(by have := hks.1.1; omega), List.getElem?_eq_getElem _⟩
  have hkm : k0 ∈ ks := List.mem_of_getElem? hk0
  have hkx : (ks.map fun x => strD x)[0]? = some (strD k0) := by rw [List.getElem?_map, hk0]; rfl
  refine sb_seqG (M := fun o g => ∃ b, o = (b, lstO []) :: rngP r ∧ g = peG r b ks) (sb_new ea_nil fun b => ⟨b, rfl, rfl⟩) fun o g m => ?_
  obtain ⟨b, rfl, rfl⟩ := m
  refine sb_own (O2 := exO (PeI ks []) prsO) (fun H o p => ⟨[], ⟨List.nodup_nil, Nat.le_refl _, fun x z => nomatch z⟩, p⟩) ?_
  refine sb_seqG (M := fun o g => ∃ l, NamesP 0 4 l ∧ o = (b, exO (PeI ks l) prsO) :: rngP r ∧ g = peG r b ks) (sb_forX (ι := List Str) (P := NamesP 0 4) (xs := fun l => l) (d := fun n => strD n) (Oz := fun l pre => (b, exO (PeI ks pre) prsO) :: rngP r) (Γs := fun _ _ => peG r b ks) (ei_listX (ed_call1P (α := NmA) ⟨r, 0, 4⟩ (ea_cons (ed_var rfl) (ea_cons ((ed_draw (z := 5) (ea_cons (ed_var rfl) (ea_cons (ed_op (ed_var rfl) ed_c od_add) ea_nil)) ⟨by decide, by decide⟩ (List.mem_cons_of_mem _ List.mem_cons_self)).imp fun H v ⟨n, hn, hv⟩ => ⟨n, by dsimp only; omega, hv⟩) ea_nil)) (by show 4 ≤ 20; decide) rfl rfl (List.mem_cons_of_mem _ List.mem_cons_self))) (fun l hl => ⟨rfl, fun _ => rfl, .refl, l, hl, rfl, rfl⟩) fun l hl pre n post sp => ⟨_, _, gd_name, ?_⟩) fun o g m => ?_
  · have hpl : pre.length < 4 := by
      have h1 := congrArg List.length sp
      have h2 := hl.1.2
      rw [List.length_append, List.length_cons] at h1
      omega
    have hnn : n ∉ pre := fun z => by
      have := hl.2.1
      rw [sp, List.nodup_append] at this
      exact this.2.2 n z n List.mem_cons_self rfl
    have hno : okN n ∧ n.length ≠ 6 := hl.2.2 n (by rw [sp]; exact List.mem_append_right _ List.mem_cons_self)
    refine sb_open fun ps hps => ?_
    have hpl2 := hps.le
    refine sb_seq (Os1 := (b, exO (fun k => k ∈ ks) fun k => lstO ((ps.map fun p => prD p) ++ [prD (k, n)])) :: rngP r) (Γ1 := (peG r b ks).set 4 (some (strD n))) (sb_appX (ed_var rfl) (ea_cons (ED.imp (ed_tup (ea_cons (ed_choice (d := fun x => strD x) (ea_cons (ed_var rfl) (ea_cons (ed_var rfl) ea_nil)) ⟨?_, ?_⟩ (List.mem_cons_of_mem _ List.mem_cons_self)) (ea_cons (ed_var rfl) ea_nil))) fun H v hv => ?_) ea_nil) (by rw [List.length_map]; omega) ⟨rfl, rfl⟩) ?_
    · intro z; rw [z] at hk0; cases hk0
    · have := hks.1.2; omega
    · obtain ⟨a, us, e, ha, hf⟩ := hv
      cases hf with
      | cons r1 t =>
        obtain ⟨k, hk, rk⟩ := r1
        exact ⟨k, hk, (show (prD (k, n)).p H v from ⟨a, _, e, ha, .cons rk t⟩)⟩
    refine sb_open fun k hk => SB.exO ?_
    have e : (ps.map fun p => prD p) ++ [prD (k, n)] = (ps ++ [(k, n)]).map fun p => prD p := by rw [List.map_append]; rfl
    rw [e]
    have h2 : PeI ks (pre ++ [n]) (ps ++ [(k, n)]) := ⟨List.nodup_append.mpr ⟨hps.nd, List.nodup_cons.mpr ⟨(fun z => nomatch z), List.nodup_nil⟩, fun x hx y hy z => by
      rw [List.mem_singleton.mp hy] at z
      exact hnn (by have := (hps.nm x hx).2.2; rw [z] at this; exact this)⟩, by rw [List.length_append, List.length_append, List.length_singleton, List.length_singleton]; omega, fun p hp => by
      rcases List.mem_append.mp hp with m | m
      · exact ⟨(hps.nm p m).1, (hps.nm p m).2.1, List.mem_append_left _ (hps.nm p m).2.2⟩
      · rw [List.mem_singleton.mp m]; exact ⟨hk, hno, List.mem_append_right _ List.mem_cons_self⟩⟩
    have hok : ∀ q, q ∈ ps ++ [(k, n)] → okN q.1 ∧ okN q.2 := fun q hq => ⟨(hks.2.2 _ (h2.nm q hq).1).1, (h2.nm q hq).2.1.1⟩
    have hk0o : okN k0 := (hks.2.2 _ hkm).1
    refine sb_ifP (pb := fun c => c = true → (!decide ((k0, n) ∈ ps ++ [(k, n)])) = true) (etp_and (en_test (ed_op (ed_draw (z := 3) (ea_cons (ed_var rfl) (ea_cons ed_c ea_nil)) ⟨by decide, by decide⟩ (List.mem_cons_of_mem _ List.mem_cons_self)) ed_c od_eqX)) (ET.cast (et_test (ed_notInDO (A := prD (k0, n)) (dat_pr (k0, n)) (dat_map (fun q => dat_pr q) _) (Sh.ok (sh_pr hk0o hno.1)) (Sh.ok (n := 2) (sh_list (sh_map fun q hq => sh_pr (hok q hq).1 (hok q hq).2))) (ed_tup (ea_cons (ed_op (ed_var rfl) ed_c (od_ixL (i := 0) hkx)) (ea_cons (ed_var rfl) ea_nil))) (ed_var rfl) List.mem_cons_self)) (by rw [any_injD prP_inj]))) (fun hb => ?_) fun _ => sb_next ⟨_, h2, rfl, .keep (.keep (.keep (.keep (.drop .nil))))⟩
    have hb2 : (k0, n) ∉ ps ++ [(k, n)] := by simpa using hb rfl
    refine sb_app (A := prD (k0, n)) (ed_var rfl) (ea_cons (ed_tup (ea_cons (ed_op (ed_var rfl) ed_c (od_ixL (i := 0) hkx)) (ea_cons (ed_var rfl) ea_nil))) ea_nil) (by rw [List.length_map, List.length_append, List.length_singleton]; omega) ⟨(ps ++ [(k, n)]) ++ [(k0, n)], ⟨?_, ?_, fun p hp => ?_⟩, by unfold prsO; rw [List.map_append (l₁ := ps ++ [(k, n)])]; rfl, .keep (.keep (.keep (.keep (.drop .nil))))⟩
    · refine List.nodup_append.mpr ⟨h2.nd, List.nodup_cons.mpr ⟨(fun z => nomatch z), List.nodup_nil⟩, fun x hx y hy z => ?_⟩
      rw [List.mem_singleton.mp hy] at z
      exact hb2 (z ▸ hx)
    · rw [List.length_append, List.length_append, List.length_append, List.length_singleton, List.length_singleton, List.length_singleton]; omega
    · rcases List.mem_append.mp hp with m | m
      · exact h2.nm p m
      · rw [List.mem_singleton.mp m]; exact ⟨hkm, hno, List.mem_append_right _ List.mem_cons_self⟩
  · obtain ⟨l, hl, rfl, rfl⟩ := m
    exact sb_open fun ps hps => sb_keep keeps_lst (i := 3) rfl (sb_ret (ed_var rfl) ⟨rfl, ex_sub (P := PeopleP ks) (F := prsD) (x := ps) (hps.all hl.1.2)⟩)
end
/-- the pairs of a link -/
structure okPr (ps : List Pr2) (e : Ends4) (l : List Pr2) : Prop where
  nd : l.Nodup
  le : l.length ≤ 16
  mem : ∀ p, p ∈ l → p.1 ∈ namesOf ps e.1 ∧ p.2 ∈ namesOf ps e.2.2.1
theorem could_ok {ps : List Pr2} {q : Str × Ends4} (nd : ps.Nodup) (few : ∀ k, (namesOf ps k).length ≤ 4) : okPr ps q.2 (couldL q ps) where
  nd := nodup_fm (of_nd nd _) (fun a _ => List.pairwise_map.mpr ((of_nd nd _).imp fun n z => n (Prod.mk.inj z).2)) fun a b x _ _ h1 h2 => by
    obtain ⟨u, _, e1⟩ := List.mem_map.mp h1
    obtain ⟨v, _, e2⟩ := List.mem_map.mp h2
    have := congrArg Prod.fst (e1.trans e2.symm)
    exact this
  le := by
    have h1 := few q.2.1
    have h2 := few q.2.2.2.1
    unfold couldL
    rw [List.length_flatMap]
    have e : ((namesOf ps q.2.1).map fun a => ((namesOf ps q.2.2.2.1).map fun b => (a, b)).length).sum = (namesOf ps q.2.1).length * (namesOf ps q.2.2.2.1).length := by
      simp only [List.length_map]
      rw [List.map_const', List.sum_replicate_nat]
    rw [e]
    exact Nat.le_trans (Nat.mul_le_mul h1 h2) (by decide)
  mem := fun p hp => by
    obtain ⟨a, ha, h⟩ := List.mem_flatMap.mp hp
    obtain ⟨b, hb, e⟩ := List.mem_map.mp h
    rw [← e]
    exact ⟨ha, hb⟩
theorem okPr.sub {ps : List Pr2} {e : Ends4} {l l' : List Pr2} (h : okPr ps e l) (s : l'.Sublist l) : okPr ps e l' := ⟨h.nd.sublist s, Nat.le_trans s.length_le h.le, fun p hp => h.mem p (s.subset hp)⟩
def PairsP (ls : List (Str × Ends4)) (ps : List Pr2) (prs : List (Str × List Pr2)) : Prop := prs.map (·.1) = ls.map (·.1) ∧ ∀ k, k ∈ ls.map (·.1) → okPr ps (lk ls k) (lk prs k)
def PaI (ps : List Pr2) (pre : List (Str × Ends4)) (prs : List (Str × List Pr2)) : Prop := Paired (fun q z => z.1 = q.1 ∧ okPr ps q.2 z.2) pre prs
theorem PaI.keys {ps : List Pr2} {pre : List (Str × Ends4)} {prs : List (Str × List Pr2)} (h : PaI ps pre prs) : prs.map (·.1) = pre.map (·.1) := by
  unfold PaI at h
  induction h with
  | nil => rfl
  | cons r t ih => rw [List.map_cons, List.map_cons, r.1, ih]
theorem PaI.all {ps : List Pr2} {ls : List (Str × Ends4)} {prs : List (Str × List Pr2)} (h : PaI ps ls prs) (nd : (ls.map (·.1)).Nodup) : PairsP ls ps prs := by
  refine ⟨h.keys, fun k hk => ?_⟩
  have hk2 : k ∈ prs.map (·.1) := by rw [h.keys]; exact hk
  obtain ⟨i, hi⟩ := List.getElem?_of_mem (lk_mem hk2)
  obtain ⟨q, hq, e, ok⟩ := Paired.getR h hi
  have e2 : lk ls k = q.2 := lk_of nd (by rw [show (k, q.2) = q from by rw [show k = q.1 from e]]; exact List.mem_of_getElem? hq)
  rw [e2]
  exact ok
section
variable {P : Program} {w : World} {K : PySem.W.Frag} {mg : Str → Option Value} {base : Heap}
abbrev paG (r b : Addr) (ls : List (Str × Ends4)) (ps : List Pr2) : Dn.Ctx := [some (valD (.ref r)), some (rowsD ls), some (prsD ps), some (valD (.ref b)), none, none]
structure PaA where
  r : Addr
  ks : List Str
  ls : List (Str × Ends4)
  ps : List Pr2
abbrev dctP (prs : List (Str × List Pr2)) : List (Key × Den) := prs.map fun z => (Sum.inr z.1, prsD z.2)
abbrev r_l_pairs (K : PySem.W.Frag) : List Den → Own → Own → Den → Prop := ow (fun a : PaA => (a.ls.length ≤ 8 ∧ (a.ls.map (·.1)).Nodup) ∧ PeopleP a.ks a.ps) (fun a => [valD (.ref a.r), rowsD a.ls, prsD a.ps]) (fun a => rngP a.r) (fun a => rngP a.r) (fun a => exD (PairsP a.ls a.ps) prssD)
theorem ok_l_pairs (T : Txt K mg) : FnOk P w K mg base CX0 3 (a_l_pairs K) (fdOf K (a_l_pairs K)) ["_law_rng_here", "_law_rows", "_law_people_here"] (DefSp (r_l_pairs K)) := by
  refine ow_ok (F_l_pairs T) sc_l_pairs (fun _ => rfl) fun cdv A outer s H E hr => ⟨_, PSs.nox (pss_cons (ps_set (i := 3) sc_l_pairs.nd rfl (Or.inl rfl) pe_dnewK)
  (pss_cons (ps_for PassesOwn.never rfl (pi_listK (K := K) (pv 1)) (pg_name (i := 4) sc_l_pairs.nd rfl (Or.inl rfl))
  (pss_one (ps_dput (rm1 hr) (pv 3) (pe_ix (ix_tupK (K := K)) (pv 4) pe_int (fun _ _ => rfl)) (pe_lc (own := [("_law_pair_here", 5)]) (by rfl) sc_l_pairs.nd (pi_listK (K := K) (pe_call (ok_l_could T) (hr.mono (by decide)) rfl (g_l_could T) (F_l_could T).kp (b_l_could T) .nil pass0 (pa_cons (pv 4) (pa_cons (pv 2) pa_nil)))) (blkOk_by (N := n_l_pairs) (sc := defScope s_l_pairs) (by decide +kernel)) (fun _ _ _ _ _ => (pg_name (i := 5) sc_l_pairs.nd rfl (Or.inl rfl))) (fun _ _ _ _ _ => (pts_one (pt_cmpR op_eq (pe_call (ok_l_draw T) (hr.mono (by decide)) rfl (g_l_draw T) (F_l_draw T).kp (b_l_draw T) .nil pass0 (pa_cons (pv 0) (pa_cons pe_int pa_nil))) pe_int (nomark _)))) (fun _ _ _ _ _ => (pv 5))) rfl)))
  (pss_one (ps_frzB 3 (ps_ret (pv 3)))))), ?_⟩
  rintro ⟨r, ks, ls, ps⟩ ⟨⟨h1, h2⟩, hp⟩
  dsimp only at h1 h2 hp ⊢
  have hpl := hp.le
  refine sb_seqG (M := fun o g => ∃ b, o = (b, dctO .dK []) :: rngP r ∧ g = paG r b ls ps) (sb_newK fun b => ⟨b, rfl, rfl⟩) fun o g m => ?_
  obtain ⟨b, rfl, rfl⟩ := m
  refine sb_own (O2 := exO (PaI ps []) fun prs => dctO .dK (dctP prs)) (fun H o p => ⟨[], .nil, p⟩) ?_
  refine sb_seq (Os1 := (b, exO (PaI ps ls) fun prs => dctO .dK (dctP prs)) :: rngP r) (Γ1 := paG r b ls ps) (sb_forP (xs := ls) (d := fun q => rowD q) (Oz := fun pre => (b, exO (PaI ps pre) fun prs => dctO .dK (dctP prs)) :: rngP r) (Γs := fun _ => paG r b ls ps) (ei_list (ed_var rfl)) rfl (fun _ => rfl) .refl (fun pre q post sp => ⟨_, _, gd_name, ?_⟩) ⟨rfl, rfl⟩) ?_
  · refine sb_open fun prs hprs => ?_
    have hc := could_ok (q := q) hp.nd hp.few
    have hcl := hc.le
    have hlen : prs.length = pre.length := by rw [← List.length_map (f := fun z : Str × List Pr2 => z.1), hprs.keys, List.length_map]
    have hpre : pre.length ≤ 8 := by
      have := congrArg List.length sp
      rw [List.length_append] at this
      omega
    refine SB.exO2 (P := fun l : List Pr2 => l.Sublist (couldL q ps)) (F := fun l => dctO .dK (dctP prs ++ [(Sum.inr q.1, prsD l)])) (Γ2 := (paG r b ls ps).set 4 (some (rowD q))) (sb_dputKX (ed_lcN (xs := couldL q ps) (d := fun p => prD p) (f := fun p => prD p) (ei_list (ed_callP (α := (Str × Ends4) × List Pr2) (q, ps) (ea_cons (ed_var rfl) (ea_cons (ed_var rfl) ea_nil)) (by dsimp only; omega))) (fun p _ => gd_name) (fun p _ => en_test (ed_op (ed_draw (z := 3) (ea_cons (ed_var rfl) (ea_cons ed_c ea_nil)) ⟨by decide, by decide⟩ (List.mem_cons_of_mem _ List.mem_cons_self)) ed_c od_eqX)) (fun p _ => ed_var rfl) (by decide) (by omega)) (ed_var rfl) (ed_op (ed_var rfl) ed_c (od_ixT (i := 0) rfl)) ?_ (by rw [List.length_map]; omega) ⟨rfl, rfl⟩) (.keep (.keep (.keep (.keep (.drop (.drop .nil)))))) fun l hl => ⟨prs ++ [(q.1, l)], Paired.app hprs (.cons ⟨rfl, hc.sub hl⟩ .nil), fun H o p => by unfold dctP; rw [List.map_append]; exact p⟩
    intro z
    obtain ⟨u, hu, e⟩ := List.mem_map.mp z
    obtain ⟨v, hv, e2⟩ := List.mem_map.mp hu
    subst e2
    have e3 : v.1 = q.1 := Sum.inr.inj e
    have hm : q.1 ∈ pre.map (·.1) := by rw [← hprs.keys, ← e3]; exact List.mem_map.mpr ⟨v, hv, rfl⟩
    rw [sp, List.map_append, List.map_cons, List.nodup_append] at h2
    exact h2.2.2 _ hm _ List.mem_cons_self rfl
  · exact sb_open fun prs hprs => sb_frz (fun _ => trivial) rfl (sb_ret (R := prssD prs) (ed_var rfl) ⟨rfl, ex_sub (P := PairsP ls ps) (F := prssD) (x := prs) (hprs.all h2)⟩)
end
end Pr
/-! VY -/
namespace Pr
open PySem PySem.Spec PyProof.Rows L2 Dn Rb
/-! ### told rows and pairs -/
theorem putP_keys (prs : List (Str × List Pr2)) (k : Str) (l : List Pr2) : (putP prs k l).map (·.1) = prs.map (·.1) := by
  unfold putP
  rw [List.map_map]
  rfl
theorem lk_putP {prs : List (Str × List Pr2)} {k k' : Str} {l : List Pr2} (nd : (prs.map (·.1)).Nodup) (h : k' ∈ prs.map (·.1)) : lk (putP prs k l) k' = if k' = k then l else lk prs k' :=
  lk_of (by rw [putP_keys]; exact nd) (List.mem_map.mpr ⟨(k', lk prs k'), lk_mem h, rfl⟩)
theorem okTo.knd {t : ToA} (h : okTo t) : (t.prs.map (·.1)).Nodup := by
  rw [h.keys]
  exact (Srt.srt_perm _).nodup_iff.mpr h.mo.lnd
theorem okPut.to {a : PutA} (h : okPut a) : okTo { a.t with prs := putP a.t.prs a.k a.l } where
  mo := h.t.mo
  rnd := h.t.rnd
  rle := h.t.rle
  rnm := h.t.rnm
  keys := by dsimp only; rw [putP_keys]; exact h.t.keys
  pnd := fun q hq => by
    obtain ⟨u, hu, e⟩ := List.mem_map.mp hq
    rw [← e]
    dsimp only
    split
    · exact ⟨h.nd, h.le⟩
    · exact h.t.pnd u hu
  pin := fun q hq p hp => by
    obtain ⟨u, hu, e⟩ := List.mem_map.mp hq
    rw [← e] at hp ⊢
    dsimp only at hp ⊢
    by_cases z : u.1 = a.k
    · rw [if_pos z] at hp
      rw [z]
      exact ⟨h.near p hp, h.far p hp⟩
    · rw [if_neg z] at hp
      exact h.t.pin u hu p hp
structure SdA where
  mo : MoA
  ps : List Pr2
  prs : List (Str × List Pr2)
structure okSd (a : SdA) : Prop where
  mo : okMo a.mo.1 a.mo.2
  ps : PeopleP a.mo.1 a.ps
  prs : PairsP a.mo.2 a.ps a.prs
/-- a Told of these rows, with the pairs of these links -/
def SaidI (mo : MoA) (ps : List Pr2) (prs pre : List (Str × List Pr2)) (t : ToA) : Prop := (okTo t ∧ t.mo = mo ∧ t.rows = ps) ∧ ∀ q, q ∈ pre → lk t.prs q.1 = lk prs q.1
structure SaidP (mo : MoA) (ps : List Pr2) (prs : List (Str × List Pr2)) (t : ToA) : Prop where
  ok : okTo t
  hmo : t.mo = mo
  hrows : t.rows = ps
  hprs : ∀ k, k ∈ mo.2.map (·.1) → lk t.prs k = lk prs k
theorem SaidI.all {a : SdA} (h : okSd a) {t : ToA} (hs : SaidI a.mo a.ps a.prs a.prs t) : SaidP a.mo a.ps a.prs t := ⟨hs.1.1, hs.1.2.1, hs.1.2.2, fun k hk => by
  rw [← h.prs.1] at hk
  obtain ⟨q, hq, e⟩ := List.mem_map.mp hk
  have := hs.2 q hq
  rw [e] at this
  exact this⟩
theorem okTo.of0 {mo : MoA} (hm : okMo mo.1 mo.2) {ps pre : List Pr2} (hp : PeopleP mo.1 ps) (s : pre.Sublist ps) : okTo { told0 mo with rows := pre } where
  mo := hm
  rnd := hp.nd.sublist s
  rle := by have := s.length_le; have := hp.le; dsimp only; omega
  rnm := fun p h => hp.nm p (s.subset h)
  keys := by
    show ((srtL mo.2).map fun p => (p.1, ([] : List Pr2))).map (·.1) = _
    rw [List.map_map, ← srtL_keys]
    rfl
  pnd := fun q hq => by
    obtain ⟨u, hu, e⟩ := List.mem_map.mp hq
    rw [← e]
    exact ⟨List.nodup_nil, Nat.zero_le _⟩
  pin := fun q hq p hp => by
    obtain ⟨u, hu, e⟩ := List.mem_map.mp hq
    rw [← e] at hp
    cases hp
section
variable {P : Program} {w : World} {K : PySem.W.Frag} {mg : Str → Option Value} {base : Heap}
/-- held[tag] = pairs[tag] -/
theorem sb_putSaid {Γ Γ' : Dn.Ctx} {Os : Own} {O : Own → Den → Prop} {x : Addr} {i j l : Nat} {a : SdA} (h : okSd a) {pre : List (Str × List Pr2)} {q : Str × List Pr2} (hq : q ∈ a.prs) (hi : Γ[i]? = some (some (valD (.ref x)))) (hj : Γ[j]? = some (some (prssD a.prs))) (hl : Γ[l]? = some (some (strD q.1))) (less : Less Γ' Γ) :
    SB ((x, exO (SaidI a.mo a.ps a.prs pre) (toldO K)) :: Os) (tAsg (tDGet (tVar j) (tVar l)) (gSub (tVar i) (tVar l) (rOwnSet (C_Told K) (DefSp (r_Told_setitem K))))) Γ (to ((x, exO (SaidI a.mo a.ps a.prs (pre ++ [q])) (toldO K)) :: Os) Γ') O := by
  refine sb_open fun t ht => SB.exO ?_
  obtain ⟨⟨h1, h2, h3⟩, h4⟩ := ht
  have hk : q.1 ∈ a.prs.map (·.1) := List.mem_map.mpr ⟨q, hq, rfl⟩
  have hk2 : q.1 ∈ a.mo.2.map (·.1) := by rw [← h.prs.1]; exact hk
  have hp := h.prs.2 _ hk2
  have hput : okPut ⟨x, t, q.1, lk a.prs q.1⟩ := ⟨h1, by dsimp only; rw [h2]; exact hk2, hp.nd, Nat.le_trans hp.le (by decide), fun p m => by dsimp only; rw [h2, h3]; exact (hp.mem p m).1, fun p m => by dsimp only; rw [h2, h3]; exact (hp.mem p m).2⟩
  refine sb_setOwn (fs' := toldF K { t with prs := putP t.prs q.1 (lk a.prs q.1) }) (⟨x, t, q.1, lk a.prs q.1⟩ : PutA) (dget_s (f := fun x => prsD x) (ls := a.prs) hk (ed_var hj) (ed_var hl)) (ed_var hi) (ed_var hl) hput rfl rfl rfl ⟨_, ⟨⟨hput.to, h2, h3⟩, fun z hz => ?_⟩, rfl, less⟩
  have hkt : ∀ z : Str × List Pr2, z.1 ∈ a.mo.2.map (·.1) → z.1 ∈ t.prs.map (·.1) := fun z hz => h1.pkey (by rw [h2]; exact hz)
  dsimp only
  rcases List.mem_append.mp hz with m | m
  · by_cases e : z.1 = q.1
    · rw [e, lk_putP h1.knd (hkt q hk2), if_pos rfl]
    · by_cases hzk : z.1 ∈ t.prs.map (·.1)
      · rw [lk_putP h1.knd hzk, if_neg e]
        exact h4 z m
      · have e0 : ∀ prs : List (Str × List Pr2), z.1 ∉ prs.map (·.1) → lk prs z.1 = default := fun prs n => by
          unfold lk
          have : prs.find? (fun p => decide (p.1 = z.1)) = none := List.find?_eq_none.mpr fun p hp => by
            have : p.1 ≠ z.1 := fun e => n (by rw [← e]; exact List.mem_map.mpr ⟨p, hp, rfl⟩)
            simpa using this
          rw [this]
          rfl
        rw [e0 _ (by rw [putP_keys]; exact hzk), ← h4 z m, e0 _ hzk]
  · rw [List.mem_singleton.mp m, lk_putP h1.knd (hkt q hk2), if_pos rfl]
abbrev sdG (x : Addr) (a : SdA) : Dn.Ctx := [some (modelD K a.mo.1 a.mo.2), some (prsD a.ps), some (prssD a.prs), some (valD (.ref x)), none, none]
abbrev r_l_said (K : PySem.W.Frag) : List Den → Own → (Own → Den → Prop) → Prop := owN okSd (fun a => [modelD K a.mo.1 a.mo.2, prsD a.ps, prssD a.prs]) (fun _ => []) (fun a o R => ∃ x t, SaidP a.mo a.ps a.prs t ∧ R = valD (.ref x) ∧ o = [(x, toldO K t)])
theorem ok_l_said (T : Txt K mg) : FnOk P w K mg base CX0 8 (a_l_said K) (fdOf K (a_l_said K)) ["_law_made", "_law_people_here", "_law_pairs_here"] (DefN (r_l_said K)) := by
  refine owN_ok (F_l_said T) sc_l_said (fun _ => rfl) fun cdv A outer s H E hr => ⟨_, PSs.nox (pss_cons (ps_set (i := 3) sc_l_said.nd rfl (Or.inl rfl) (pe_make (mk_Told T) (ok_Told_init T) (hr.mono (by decide)) rfl (g_Told T) (b_Told_init T) .nil pass0 (pa_cons (pv 0) pa_nil)))
  (pss_cons (ps_for PassesOwn.never rfl (pi_listK (K := K) (pv 1)) (pg_name (i := 4) sc_l_said.nd rfl (Or.inl rfl))
  (pss_one (ps_aug (i := 3) sc_l_said.nd rfl (Or.inl rfl) (pv 4) (ip_own (oo_Told_iadd T) (sf_Told T) (ok_Told_iadd T) (hr.mono (by decide)) (b_Told_iadd T)))))
  (pss_cons (ps_for PassesOwn.never rfl (pi_keys (pv 2)) (pg_name (i := 5) sc_l_said.nd rfl (Or.inl rfl))
  (pss_one (ps_asg (pe_dget (rm1 hr) (pv 2) (pv 5) (fun _ _ => rfl)) (pg_sub (pv 3) (pv 5) (set_own (oo_Told_setitem T) (nq_Told T) (ok_Told_setitem T) (hr.mono (by decide)) (b_Told_setitem T))))))
  (pss_one (ps_ret (pv 3)))))), ?_⟩
  intro a h
  have hps := h.ps
  have hpl := hps.le
  refine sb_seqG (M := fun o g => ∃ x, o = [(x, toldO K (told0 a.mo))] ∧ g = sdG (K := K) x a) (sb_makeO (Rs := [modelD K a.mo.1 a.mo.2]) (fs := toldF K (told0 a.mo)) (ea_cons (ed_var rfl) ea_nil) (fun x => ⟨(x, a.mo), h.mo, rfl, rfl, rfl, rfl⟩) fun x => ⟨x, rfl, rfl⟩) fun o g m => ?_
  obtain ⟨x, rfl, rfl⟩ := m
  refine sb_seq (Os1 := [(x, toldO K { told0 a.mo with rows := a.ps })]) (Γ1 := sdG (K := K) x a) (sb_forP (xs := a.ps) (d := fun p => prD p) (Oz := fun pre => [(x, toldO K { told0 a.mo with rows := pre })]) (Γs := fun _ => sdG (K := K) x a) (ei_list (ed_var rfl)) rfl (fun _ => rfl) .refl (fun pre p post sp => ⟨_, _, gd_name, ?_⟩) ⟨rfl, rfl⟩) ?_
  · have hsub : pre.Sublist a.ps := by rw [sp]; exact List.sublist_append_left _ _
    have hpre : pre.length < 8 := by
      have := congrArg List.length sp
      rw [List.length_append, List.length_cons] at this
      omega
    have hmem : p ∈ a.ps := by rw [sp]; exact List.mem_append_right _ List.mem_cons_self
    have hnew : p ∉ pre := fun z => by
      have := hps.nd
      rw [sp, List.nodup_append] at this
      exact this.2.2 p z p List.mem_cons_self rfl
    have hadd : okAdd ⟨x, { told0 a.mo with rows := pre }, p⟩ := ⟨okTo.of0 h.mo hps hsub, (hps.nm p hmem).1, (hps.nm p hmem).2, hnew, Nat.lt_of_le_of_lt (namesOf_len _ _) (by dsimp only; omega), by dsimp only; omega⟩
    exact SB.less (sb_augOwn (fs' := toldF K { told0 a.mo with rows := pre ++ [p] }) (⟨x, { told0 a.mo with rows := pre }, p⟩ : AddA) rfl (ed_var rfl) hadd rfl rfl rfl rfl ⟨rfl, rfl⟩) (.keep (.keep (.keep (.keep (.drop (.keep .nil))))))
  refine sb_own (O2 := exO (SaidI a.mo a.ps a.prs []) (toldO K)) (fun H o p => ⟨_, ⟨⟨okTo.of0 h.mo hps (List.Sublist.refl _), rfl, rfl⟩, fun q z => nomatch z⟩, p⟩) ?_
  refine sb_seq (Os1 := [(x, exO (SaidI a.mo a.ps a.prs a.prs) (toldO K))]) (Γ1 := sdG (K := K) x a) (sb_forP (xs := a.prs) (d := fun q => strD q.1) (Oz := fun pre => [(x, exO (SaidI a.mo a.ps a.prs pre) (toldO K))]) (Γs := fun _ => sdG (K := K) x a) (ei_keysS (ed_var rfl)) rfl (fun _ => rfl) .refl (fun pre q post sp => ⟨_, _, gd_name, sb_putSaid h (by rw [sp]; exact List.mem_append_right _ List.mem_cons_self) rfl rfl rfl (.keep (.keep (.keep (.keep (.keep (.drop .nil))))))⟩) ⟨rfl, rfl⟩) ?_
  exact sb_open fun t ht => sb_ret (R := valD (.ref x)) (ed_var rfl) ⟨valD (.ref x), ⟨x, t, SaidI.all h ht, rfl, rfl⟩, .refl⟩
/-! ### odd values -/
def firstN (ns : List Str) : Str := ((ns ++ [("nobody" : Str)])[0]?).getD "nobody"
theorem firstN_at (ns : List Str) : ((ns ++ [("nobody" : Str)]).map fun x => strD x)[0]? = some (strD (firstN ns)) := by
  unfold firstN
  rw [List.getElem?_map]
  cases ns <;> rfl
abbrev oddA (ns : List Str) : List Den := [nonD, tupD [], lstD [], intD 5, strD "cut", tupD [strsT ns], tupD [strsD ns, blD true], tupD [strsT ns, intD 1], tupD [strsT ns, nonD], tupD [strsT ns, blD true, blD true]]
abbrev oddB (ns : List Str) : List Den := [tupD [tupD [strD "nobody"], blD true], tupD [tupD [strD (firstN ns), strD (firstN ns)], blD false], tupD [tupD [nonD], blD true], lstD [strsT ns, blD false], tupD [strD (firstN ns), blD true]]
def oddL (ns : List Str) : List Den := oddA ns ++ oddB ns ++ [tupD [strsT (ns ++ [("nobody" : Str)]), blD false]] ++ (if 1 < ns.length then [tupD [strsT ns.reverse, blD true]] else [])
abbrev r_l_odd (K : PySem.W.Frag) : List Den → Own → Own → Den → Prop := pu (fun ns : List Str => ns.length ≤ 50) (fun ns => [strsT ns]) (fun ns => lstD (oddL ns))
theorem ok_l_odd (T : Txt K mg) : FnOk P w K mg base CX0 1 (a_l_odd K) (fdOf K (a_l_odd K)) ["_law_names_here"] (DefSp (r_l_odd K)) := by
  refine ow_ok (F_l_odd T) sc_l_odd (fun _ => rfl) fun cdv A outer s H E hr => ⟨_, PSs.nox (pss_cons (ps_set (i := 1) sc_l_odd.nd rfl (Or.inl rfl) (pe_ix (ix_listK (K := K)) (pe_op op_cat (pe_callTy (call_list_ofK (K := K)) (by rfl) (z_list T) boot_list (pa_cons (pv 0) pa_nil)) (pe_lst (pa_cons pe_str pa_nil))) pe_int (fun _ _ => rfl)))
  (pss_cons (ps_set (i := 2) sc_l_odd.nd rfl (Or.inl rfl) (pe_lst (pa_cons pe_non (pa_cons (pe_tup pa_nil) (pa_cons (pe_lst pa_nil) (pa_cons pe_int (pa_cons pe_str (pa_cons (pe_tup (pa_cons (pv 0) pa_nil)) (pa_cons (pe_tup (pa_cons (pe_callTy (call_list_ofK (K := K)) (by rfl) (z_list T) boot_list (pa_cons (pv 0) pa_nil)) (pa_cons pe_bl pa_nil))) (pa_cons (pe_tup (pa_cons (pv 0) (pa_cons pe_int pa_nil))) (pa_cons (pe_tup (pa_cons (pv 0) (pa_cons pe_non pa_nil))) (pa_cons (pe_tup (pa_cons (pv 0) (pa_cons pe_bl (pa_cons pe_bl pa_nil)))) pa_nil))))))))))))
  (pss_cons (ps_set (i := 2) sc_l_odd.nd rfl (Or.inl rfl) (pe_op op_cat (pv 2) (pe_lst (pa_cons (pe_tup (pa_cons (pe_tup (pa_cons pe_str pa_nil)) (pa_cons pe_bl pa_nil))) (pa_cons (pe_tup (pa_cons (pe_tup (pa_cons (pv 1) (pa_cons (pv 1) pa_nil))) (pa_cons pe_bl pa_nil))) (pa_cons (pe_tup (pa_cons (pe_tup (pa_cons pe_non pa_nil)) (pa_cons pe_bl pa_nil))) (pa_cons (pe_lst (pa_cons (pv 0) (pa_cons pe_bl pa_nil))) (pa_cons (pe_tup (pa_cons (pv 1) (pa_cons pe_bl pa_nil))) pa_nil))))))))
  (pss_cons (ps_expr (pe_bm PySem.F.plainAttrs_list PySem.F.slot_list_append PySem.F.type_list_append mt_append (pv 2) (pa_cons (pe_tup (pa_cons (pe_op (op_catAK (K := K)) (pv 0) (pe_tup (pa_cons pe_str pa_nil))) (pa_cons pe_bl pa_nil))) pa_nil)))
  (pss_one (ps_ret (pe_ifExp (pt_cmpR op_gt (pe_callB (call_lenK (K := K)) (by rfl) (z_len T) boot_len (pa_cons (pv 0) pa_nil)) pe_int (nomark _)) (pe_op op_cat (pv 2) (pe_lst (pa_cons (pe_tup (pa_cons (pe_revT (pv 0)) (pa_cons pe_bl pa_nil))) pa_nil))) (pv 2)))))))), ?_⟩
  intro ns h
  refine sb_seq (sb_asg (A := strD (firstN ns)) (ed_op (ed_op (ed_cb (ea_cons (ed_var rfl) ea_nil) cd_listT) (ed_lst (ea_cons ed_c ea_nil)) ((od_cat (by rw [List.length_map]; show ns.length + 1 ≤ _; omega)).res fun H v hv => (show (lstD ((ns ++ [("nobody" : Str)]).map fun x => strD x)).p H v from by rw [List.map_append]; exact hv))) ed_c (od_ixL (i := 0) (firstN_at ns)))) ?_
  refine sb_seq (sb_asg (A := lstD (oddA ns)) (ed_lst (ea_cons ed_c (ea_cons (ed_tup ea_nil) (ea_cons (ed_lst ea_nil) (ea_cons ed_c (ea_cons ed_c (ea_cons (ed_tup (ea_cons (ed_var rfl) ea_nil)) (ea_cons (ed_tup (ea_cons (ed_cb (ea_cons (ed_var rfl) ea_nil) cd_listT) (ea_cons ed_c ea_nil))) (ea_cons (ed_tup (ea_cons (ed_var rfl) (ea_cons ed_c ea_nil))) (ea_cons (ed_tup (ea_cons (ed_var rfl) (ea_cons ed_c ea_nil))) (ea_cons (ed_tup (ea_cons (ed_var rfl) (ea_cons ed_c (ea_cons ed_c ea_nil)))) ea_nil)))))))))) (by show 10 ≤ _; decide))) ?_
  refine sb_seqG (M := fun o g => ∃ b, o = [(b, lstO (oddA ns ++ oddB ns))] ∧ g = [some (strsT ns), some (strD (firstN ns)), some (valD (.ref b))]) (sb_catO (Ss := oddB ns) (ed_var rfl) (ed_lst (ea_cons (ed_tup (ea_cons (ed_tup (ea_cons ed_c ea_nil)) (ea_cons ed_c ea_nil))) (ea_cons (ed_tup (ea_cons (ed_tup (ea_cons (ed_var rfl) (ea_cons (ed_var rfl) ea_nil))) (ea_cons ed_c ea_nil))) (ea_cons (ed_tup (ea_cons (ed_tup (ea_cons ed_c ea_nil)) (ea_cons ed_c ea_nil))) (ea_cons (ed_lst (ea_cons (ed_var rfl) (ea_cons ed_c ea_nil))) (ea_cons (ed_tup (ea_cons (ed_var rfl) (ea_cons ed_c ea_nil))) ea_nil))))) (by show 5 ≤ _; decide)) (by show 10 + 5 ≤ _; decide) fun b => ⟨b, rfl, rfl⟩) fun o g m => ?_
  obtain ⟨b, rfl, rfl⟩ := m
  refine sb_seq (sb_app (A := tupD [strsT (ns ++ [("nobody" : Str)]), blD false]) (ed_var rfl) (ea_cons (ed_tup (ea_cons (ED.imp (ed_op (ed_var rfl) (ed_tup (ea_cons ed_c ea_nil)) (od_catT (by rw [List.length_map]; show ns.length + 1 ≤ _; omega))) fun H v hv => (show (strsT (ns ++ [("nobody" : Str)])).p H v from by unfold strsT; rw [List.map_append]; exact hv)) (ea_cons ed_c ea_nil))) ea_nil) (by show 15 < _; decide)) ?_
  refine sb_keep keeps_lst (i := 2) rfl ?_
  refine sb_ret (R := lstD (oddL ns)) (ed_if (b := decide (1 < ns.length)) (ET.cast (et_test (ed_op (ed_cb (ea_cons (ed_var rfl) ea_nil) cd_lenT) ed_c od_gt)) (decide_eq_decide.mpr (by rw [List.length_map]; omega))) (fun z => ?_) fun z => ?_)
  · have z2 : 1 < ns.length := of_decide_eq_true z
    have e : oddL ns = (oddA ns ++ oddB ns ++ [tupD [strsT (ns ++ [("nobody" : Str)]), blD false]]) ++ [tupD [strsT ns.reverse, blD true]] := by unfold oddL; rw [if_pos z2]
    rw [e]
    exact ed_op (ed_var rfl) (ed_lst (ea_cons (ed_tup (ea_cons (ED.cast (ed_revT (ed_var rfl)) (by unfold strsT; rw [List.map_reverse])) (ea_cons ed_c ea_nil))) ea_nil)) (od_cat (by show 16 + 1 ≤ _; decide))
  · have z2 : ¬ 1 < ns.length := of_decide_eq_false z
    have e : oddL ns = oddA ns ++ oddB ns ++ [tupD [strsT (ns ++ [("nobody" : Str)]), blD false]] := by unfold oddL; rw [if_neg z2, List.append_nil]
    rw [e]
    exact ed_var rfl
/-! ### the numbers to draw by -/
abbrev r_l_rng (K : PySem.W.Frag) : List Den → Own → (Own → Den → Prop) → Prop := owN (fun a : List Int × Nat => a.1.length ≤ 1000 ∧ a.2 ≤ 1000) (fun a => [scrD K a.1, intD (a.2 : Nat)]) (fun _ => []) (fun _ o R => ∃ x, R = valD (.ref x) ∧ o = [(x, rngO)])
theorem ok_l_rng (T : Txt K mg) : FnOk P w K mg base CX0 1 (a_l_rng K) (fdOf K (a_l_rng K)) ["_law_script", "_law_k"] (DefN (r_l_rng K)) := by
  refine owN_ok (F_l_rng T) sc_l_rng (fun _ => rfl) fun cdv A outer s H E hr => ⟨_, PSs.nox (pss_cons (ps_set (i := 2) sc_l_rng.nd rfl (Or.inl rfl) (pe_ifExp (pt_cmpR op_lt (pv 1) (pe_callB (call_lenK (K := K)) (by rfl) (z_len T) boot_len (pa_cons (pv 0) pa_nil)) (nomark _)) (pe_ix (ix_listK (K := K)) (pv 0) (pv 1) (fun _ _ => rfl)) (pe_op op_add (pe_op op_mul pe_int (pv 1)) pe_int)))
  (pss_one (ps_ret (pe_lst (pa_cons (pe_callB (call_max2 rfl) (by rfl) (z_max T) boot_max (pa_cons pe_int (pa_cons (pe_op op_sub (pe_callB call_abs (by rfl) (z_abs T) boot_abs (pa_cons (pv 2) pa_nil)) (pe_op op_pow pe_int pe_int)) pa_nil))) (pa_cons (pe_op op_add (pe_op op_mod (pe_callTy call_int1 (by rfl) (z_int T) boot_int (pa_cons (pe_op op_add (pe_op op_add (pe_op op_mul (pe_op op_mod (pe_callTy call_int1 (by rfl) (z_int T) boot_int (pa_cons (pe_callB call_abs (by rfl) (z_abs T) boot_abs (pa_cons (pv 2) pa_nil)) pa_nil)) pe_int) pe_int) (pe_op op_mul pe_int (pv 1))) pe_int) pa_nil)) pe_int) pe_int) pa_nil)))))), ?_⟩
  rintro ⟨L, k⟩ ⟨h1, h2⟩
  dsimp only at h1 h2 ⊢
  refine sb_seq (sb_asg (A := intD (if k < L.length then (L[k]?).getD 0 else 13 * (k : Nat) + 5)) (ed_if (b := decide (k < L.length)) (ET.cast (et_test (ed_op (ed_var rfl) (ed_cb (ea_cons (ed_var rfl) ea_nil) (cd_lenQ (by omega))) od_lt)) (decide_eq_decide.mpr (by omega))) (fun z => ?_) fun z => ?_)) ?_
  · have z2 : k < L.length := of_decide_eq_true z
    rw [if_pos z2]
    exact ed_op (ed_var rfl) (ed_var rfl) (od_ixQ (by rw [List.getElem?_eq_getElem z2]; rfl))
  · have z2 : ¬ k < L.length := of_decide_eq_false z
    rw [if_neg z2]
    exact ed_op (ed_op ed_c (ed_var rfl) (od_mul (.inr ⟨by omega, by omega⟩))) ed_c od_add
  generalize (if k < L.length then (L[k]?).getD 0 else 13 * ((k : Nat) : Int) + 5) = c
  have q0 := Int.emod_nonneg (if c < 0 then -c else c) (show (2147483549 : Int) ≠ 0 by omega)
  have q1 := Int.emod_lt_of_pos (if c < 0 then -c else c) (show (0 : Int) < 2147483549 by omega)
  generalize hu : (if c < 0 then -c else c) % 2147483549 = u at q0 q1
  have r0 := Int.emod_nonneg (u * 48271 + 7919 * (k : Nat) + 83) (show (2147483629 : Int) ≠ 0 by omega)
  have r1 := Int.emod_lt_of_pos (u * 48271 + 7919 * (k : Nat) + 83) (show (0 : Int) < 2147483629 by omega)
  refine SB.wk2 (N' := no) (O' := fun o d => ∃ x p, RngP p ∧ d = valD (.ref x) ∧ o = [(x, rngL p)]) ?_ (fun _ _ m => nomatch m) fun o d ⟨x, p, hp, e1, e2⟩ => ⟨[(x, rngO)], ⟨d, ⟨x, e1, rfl⟩, .refl⟩, by rw [e2]; exact (rng_back (a := x) (Os := []) hp).1, by rw [e2]; exact (rng_back hp).2⟩
  refine sb_retNew (Rs := [intD (max 0 ((if c < 0 then -c else c) - 10 ^ 18)), intD ((u * 48271 + 7919 * (k : Nat) + 83) % 2147483629 + 1)]) (ea_cons (ed_cb (ea_cons ed_c (ea_cons (ed_op (ed_cb (ea_cons (ed_var rfl) ea_nil) cd_abs) (ed_op ed_c ed_c (od_pow (by unfold CPow; omega))) od_sub) ea_nil)) cd_max) (ea_cons (ed_op (ed_op (ed_cb (ea_cons (ed_op (ed_op (ed_op (hu ▸ ed_op (ed_cb (ea_cons (ed_cb (ea_cons (ed_var rfl) ea_nil) cd_abs) ea_nil) cd_int) ed_c (od_mod (by omega))) ed_c (od_mul (.inr ⟨by omega, by omega⟩))) (ed_op ed_c (ed_var rfl) (od_mul (.inr ⟨by omega, by omega⟩))) od_add) ed_c od_add) ea_nil) cd_int) ed_c (od_mod (by omega))) ed_c od_add) ea_nil)) fun b => ⟨b, (_, _), ⟨Int.le_max_left _ _, by dsimp only; omega, by dsimp only; omega⟩, rfl, rfl⟩
end
end Pr
/-! QB -/
/-! Plain: the law's own lack and offer; all sets; what is past. -/
namespace Pr
open PySem PySem.Spec PyProof.Rows L2 Dn Rb Fl
theorem len_eq {α : Type} [DecidableEq α] {l m : List α} (h1 : l.Nodup) (h2 : m.Nodup) (h : ∀ x, x ∈ l ↔ x ∈ m) : l.length = m.length := Nat.le_antisymm (len_le h1 fun x hx => (h x).mp hx) (len_le h2 fun x hx => (h x).mpr hx)
theorem swap_inj {p q : Pr2} (h : swapP p = swapP q) : p = q := by
  obtain ⟨a, b⟩ := p
  obtain ⟨c, d⟩ := q
  injection h with h1 h2
  rw [show a = c from h2, show b = d from h1]
theorem mem_orient {e : Bool} {l : List Pr2} {p : Pr2} : p ∈ orient e l ↔ (if e then swapP p else p) ∈ l := by
  unfold orient
  cases e with
  | false => exact Iff.rfl
  | true =>
    refine ⟨fun h => ?_, fun h => List.mem_map.mpr ⟨_, h, rfl⟩⟩
    obtain ⟨q, hq, e⟩ := List.mem_map.mp h
    rw [← e]
    exact hq
theorem orient_nd {e : Bool} {l : List Pr2} (h : l.Nodup) : (orient e l).Nodup := by
  unfold orient
  cases e with
  | false => exact h
  | true => exact List.pairwise_map.mpr (h.imp fun n z => n (swap_inj z))
theorem orient_prods {e : Bool} {l : List Pr2} {p : Pr2} : p ∈ orient e (prods l) ↔ p ∈ orient e l := by
  rw [mem_orient, mem_orient, mem_prods]
theorem deg_orient {e : Bool} {l : List Pr2} {n : Str} : degC l e n = ((orient e l).filter fun p => decide (p.1 = n)).length := by
  unfold degC orient
  cases e with
  | false => rfl
  | true =>
    rw [if_pos rfl, List.filter_map, List.length_map]
    rfl
theorem deg_orient2 {e : Bool} {l : List Pr2} {n : Str} : degC l (!e) n = ((orient e l).filter fun p => decide (p.2 = n)).length := by
  unfold degC orient
  cases e with
  | false => rfl
  | true =>
    rw [if_pos rfl, List.filter_map, List.length_map]
    rfl
/-- pairs by their first -/
theorem count_fst {L L' : List Pr2} {others : List Str} {n : Str} (hL : L.Nodup) (ho : others.Nodup) (h : ∀ p, p ∈ L' ↔ p ∈ L) (hs : ∀ p, p ∈ L → p.2 ∈ others) : (others.filter fun o => decide ((n, o) ∈ L')).length = (L.filter fun p => decide (p.1 = n)).length := by
  rw [← List.length_map (f := fun p : Pr2 => p.2) (as := L.filter fun p => decide (p.1 = n))]
  refine len_eq (ho.filter _) ?_ fun x => ?_
  · refine List.Pairwise.map _ (R := fun p q : Pr2 => p ≠ q ∧ p.1 = n ∧ q.1 = n) (fun p q z e => z.1 ?_) (List.Pairwise.imp_of_mem (fun {p q} hp hq z => ⟨z, of_decide_eq_true (List.mem_filter.mp hp).2, of_decide_eq_true (List.mem_filter.mp hq).2⟩) (hL.filter _))
    obtain ⟨a, b⟩ := p
    obtain ⟨c, d⟩ := q
    dsimp only at e z
    rw [z.2.1, z.2.2, e]
  · rw [List.mem_filter, decide_eq_true_eq, h, List.mem_map]
    constructor
    · rintro ⟨_, z⟩
      exact ⟨_, List.mem_filter.mpr ⟨z, decide_eq_true rfl⟩, rfl⟩
    · rintro ⟨p, hp, e⟩
      obtain ⟨h1, h2⟩ := List.mem_filter.mp hp
      have h3 : p.1 = n := of_decide_eq_true h2
      have ep : (n, x) = p := by rw [← h3, ← e]
      rw [ep]
      exact ⟨e ▸ hs p h1, h1⟩
/-- pairs by their second, the first being one of some -/
theorem count_snd {L L' : List Pr2} {names : List Str} {o : Str} (hL : L.Nodup) (hn : names.Nodup) (h : ∀ p, p ∈ L' ↔ p ∈ L) : (names.filter fun n => decide ((n, o) ∈ L')).length = (L.filter fun p => decide (p.2 = o) && decide (p.1 ∈ names)).length := by
  rw [← List.length_map (f := fun p : Pr2 => p.1) (as := L.filter fun p => decide (p.2 = o) && decide (p.1 ∈ names))]
  refine len_eq (hn.filter _) ?_ fun x => ?_
  · refine List.Pairwise.map _ (R := fun p q : Pr2 => p ≠ q ∧ p.2 = o ∧ q.2 = o) (fun p q z e => z.1 ?_) (List.Pairwise.imp_of_mem (fun {p q} hp hq z => ⟨z, ?_, ?_⟩) (hL.filter _))
    · obtain ⟨a, b⟩ := p
      obtain ⟨c, d⟩ := q
      dsimp only at e z
      rw [z.2.1, z.2.2, e]
    · have := (List.mem_filter.mp hp).2
      rw [Bool.and_eq_true, decide_eq_true_eq] at this
      exact this.1
    · have := (List.mem_filter.mp hq).2
      rw [Bool.and_eq_true, decide_eq_true_eq] at this
      exact this.1
  · rw [List.mem_filter, decide_eq_true_eq, h, List.mem_map]
    constructor
    · rintro ⟨z1, z⟩
      exact ⟨_, List.mem_filter.mpr ⟨z, by rw [Bool.and_eq_true, decide_eq_true_eq, decide_eq_true_eq]; exact ⟨rfl, z1⟩⟩, rfl⟩
    · rintro ⟨p, hp, e⟩
      obtain ⟨h1, h2⟩ := List.mem_filter.mp hp
      rw [Bool.and_eq_true, decide_eq_true_eq, decide_eq_true_eq] at h2
      have ep : (x, o) = p := by rw [← h2.1, ← e]
      rw [ep]
      exact ⟨e ▸ h2.2, h1⟩
theorem count_snd' {L L' : List Pr2} {names : List Str} {o : Str} (hL : L.Nodup) (hn : names.Nodup) (h : ∀ p, p ∈ L' ↔ p ∈ L) (hs : ∀ p, p ∈ L → p.1 ∈ names) : (names.filter fun n => decide ((n, o) ∈ L')).length = (L.filter fun p => decide (p.2 = o)).length := by
  rw [count_snd hL hn h]
  refine congrArg List.length (List.filter_congr fun p hp => ?_)
  rw [decide_eq_true (hs p hp), Bool.and_true]
/-! ### all sets -/
structure SetOf (ns o : List Str) : Prop where
  srt : Srt.srt o = o
  nd : o.Nodup
  sub : ∀ x, x ∈ o → x ∈ ns
theorem sets_mem : ∀ (k : Nat) (ns : List Str), ns.length = k → ns.Nodup → ∀ o, o ∈ setsL ns ↔ SetOf ns o := by
  intro k
  induction k with
  | zero =>
    intro ns h _ o
    rw [List.length_eq_zero_iff.mp h]
    refine ⟨fun ho => ?_, fun ho => ?_⟩
    · rw [List.mem_singleton.mp ho]
      exact ⟨rfl, List.nodup_nil, fun x z => z⟩
    · cases o with
      | nil => exact List.mem_singleton.mpr rfl
      | cons x r => exact absurd (ho.sub x List.mem_cons_self) (fun z => nomatch z)
  | succ k ih =>
    intro ns h nd o
    have hne : ns ≠ [] := fun z => by rw [z] at h; cases h
    have e := List.dropLast_concat_getLast hne
    generalize ns.getLast hne = n at e
    have hl : ns.dropLast.length = k := by rw [List.length_dropLast]; omega
    generalize ns.dropLast = pre at e hl
    subst e
    obtain ⟨n1, _, n2⟩ := List.nodup_append.mp nd
    have hn : n ∉ pre := fun z => n2 n z n List.mem_cons_self rfl
    have i := ih pre hl n1
    rw [setsL_snoc]
    unfold setsS
    rw [List.mem_append, i]
    constructor
    · rintro (hs | hm)
      · exact ⟨hs.srt, hs.nd, fun x hx => List.mem_append_left _ (hs.sub x hx)⟩
      · obtain ⟨u, hu, eu⟩ := List.mem_map.mp hm
        have hs := (i u).mp hu
        rw [← eu]
        refine ⟨Srt.srt_srt _, (Srt.srt_perm _).nodup_iff.mpr (List.nodup_append.mpr ⟨hs.nd, List.nodup_cons.mpr ⟨(fun z => nomatch z), List.nodup_nil⟩, fun x hx y hy z => ?_⟩), fun x hx => ?_⟩
        · rw [List.mem_singleton.mp hy] at z
          exact hn (z ▸ hs.sub x hx)
        · rcases List.mem_append.mp (Srt.mem_srt.mp hx) with m | m
          · exact List.mem_append_left _ (hs.sub x m)
          · exact List.mem_append_right _ m
    · intro hs
      by_cases hm : n ∈ o
      · refine .inr (List.mem_map.mpr ⟨o.erase n, (i _).mpr ⟨?_, hs.nd.erase n, fun x hx => ?_⟩, ?_⟩)
        · have p : o.Pairwise Srt.le := by rw [← hs.srt]; exact Srt.srt_pw o
          exact Srt.srt_of (p.sublist List.erase_sublist)
        · have hx2 := (List.Nodup.mem_erase_iff hs.nd).mp hx
          rcases List.mem_append.mp (hs.sub x hx2.2) with m | m
          · exact m
          · exact absurd (List.mem_singleton.mp m) hx2.1
        · have p : o.Perm (o.erase n ++ [n]) := (List.perm_cons_erase hm).trans (List.perm_append_singleton n (o.erase n)).symm
          rw [← Srt.srt_congr p, hs.srt]
      · exact .inl ⟨hs.srt, hs.nd, fun x hx => by
          rcases List.mem_append.mp (hs.sub x hx) with m | m
          · exact m
          · exact absurd (List.mem_singleton.mp m ▸ hx) hm⟩
theorem SetOf.uq {ns o : List Str} (h : SetOf ns o) : o = uq o := by rw [uq_nodup h.nd, h.srt]
/-! ### the law's own reckoning -/
structure EnA where
  t : ToA
  cs : Cs
  sc : ScA
  q : Str × Ends4
  e : Bool
structure okEn (a : EnA) : Prop where
  fr : FrameP a.t.mo
  ls : a.sc.ls = a.t.mo.2
  pp : PeopleP a.t.mo.1 a.sc.ps
  pr : PairsP a.sc.ls a.sc.ps a.sc.prs
  sd : SaidP a.t.mo a.sc.ps a.sc.prs a.t
  ck : a.cs.map (·.1) = a.t.mo.1
  cn : ∀ k, k ∈ a.t.mo.1 → (((namesOf a.sc.ps k).length : Nat) : Int) ≤ lk a.cs k ∧ lk a.cs k ≤ 10 ^ 41
  q : a.q ∈ a.sc.ls
abbrev EnA.c (a : EnA) : CutA := cutA ⟨a.t, a.cs, a.q.1, a.e⟩
abbrev EnA.S (a : EnA) : Str := kindAt a.sc.ls a.q.1 a.e
abbrev EnA.B (a : EnA) : Str := kindAt a.sc.ls a.q.1 !a.e
abbrev EnA.ns (a : EnA) : List Str := namesOf a.sc.ps a.S
theorem lk_news {t : ToA} {cs : Cs} {k : Str} (h : okTo t) (hk : k ∈ t.mo.1) : lk (newsC t cs) k = lk cs k - ((namesOf t.rows k).length : Nat) := by
  refine lk_of (by rw [newsC_keys]; exact (Srt.srt_perm _).nodup_iff.mpr h.mo.nd) ?_
  unfold newsC
  exact List.mem_map.mpr ⟨k, Srt.mem_srt.mpr hk, rfl⟩
section
variable {a : EnA}
theorem okEn.k (h : okEn a) : a.q.1 ∈ a.t.mo.2.map (·.1) := by rw [← h.ls]; exact List.mem_map.mpr ⟨_, h.q, rfl⟩
theorem okEn.k' (h : okEn a) : a.q.1 ∈ a.sc.ls.map (·.1) := List.mem_map.mpr ⟨_, h.q, rfl⟩
theorem okEn.kS (h : okEn a) : a.S ∈ a.t.mo.1 := by show kindAt a.sc.ls _ _ ∈ _; rw [h.ls]; exact (h.sd.ok.kind h.k a.e).1
theorem okEn.kB (h : okEn a) : a.B ∈ a.t.mo.1 := by show kindAt a.sc.ls _ _ ∈ _; rw [h.ls]; exact (h.sd.ok.kind h.k !a.e).1
theorem okEn.names (h : okEn a) : a.c.d.names = a.ns := by show namesOf a.t.rows (kindAt a.t.mo.2 _ _) = namesOf a.sc.ps (kindAt a.sc.ls _ _); rw [h.ls, h.sd.hrows]
theorem okEn.others (h : okEn a) : a.c.d.others = namesOf a.sc.ps a.B := by show namesOf a.t.rows (kindAt a.t.mo.2 _ _) = namesOf a.sc.ps (kindAt a.sc.ls _ _); rw [h.ls, h.sd.hrows]
theorem okEn.mine (h : okEn a) : a.c.mine = lk a.cs a.S - ((a.ns.length : Nat) : Int) := by
  have e : kindAt a.t.mo.2 a.q.1 a.e = a.S := by show _ = kindAt a.sc.ls _ _; rw [h.ls]
  show lk (newsC a.t a.cs) (kindAt a.t.mo.2 a.q.1 a.e) = _
  rw [e, lk_news h.sd.ok h.kS, h.sd.hrows]
theorem okEn.oth (h : okEn a) : a.c.others = lk a.cs a.B - (((namesOf a.sc.ps a.B).length : Nat) : Int) := by
  have e : kindAt a.t.mo.2 a.q.1 (!a.e) = a.B := by show _ = kindAt a.sc.ls _ _; rw [h.ls]
  show lk (newsC a.t a.cs) (kindAt a.t.mo.2 a.q.1 !a.e) = _
  rw [e, lk_news h.sd.ok h.kB, h.sd.hrows]
theorem okEn.told (h : okEn a) : a.c.d.told = orient a.e (prods (lk a.sc.prs a.q.1)) := by
  show orient a.e (prods (lk a.t.prs a.q.1)) = _
  rw [h.sd.hprs _ h.k]
theorem okEn.nd (h : okEn a) (k : Str) : (namesOf a.sc.ps k).Nodup := of_nd h.pp.nd k
theorem okEn.prk (h : okEn a) : okPr a.sc.ps (lk a.sc.ls a.q.1) (lk a.sc.prs a.q.1) := h.pr.2 _ h.k'
theorem okEn.mem (h : okEn a) {p : Pr2} (hp : p ∈ orient a.e (lk a.sc.prs a.q.1)) : p.1 ∈ a.ns ∧ p.2 ∈ namesOf a.sc.ps a.B := by
  rw [mem_orient] at hp
  have m := h.prk.mem _ hp
  show p.1 ∈ namesOf a.sc.ps (kindAt a.sc.ls a.q.1 a.e) ∧ p.2 ∈ namesOf a.sc.ps (kindAt a.sc.ls a.q.1 !a.e)
  unfold kindAt
  cases he : a.e with
  | false => rw [he] at m; exact m
  | true => rw [he] at m; exact ⟨m.2, m.1⟩
/-- what the law reckons is what the program does -/
theorem okEn.lacks (h : okEn a) {f : List Str} (hf : f.Nodup) (hs : ∀ x, x ∈ f → x ∈ a.ns) {new others : Int} : lacksB ⟨a.sc, a.q, a.e, f, new, others⟩ = tooB a.c.d f new others := by
  have hL := orient_nd (e := a.e) h.prk.nd
  have hm : ∀ p, p ∈ a.c.d.told ↔ p ∈ orient a.e (lk a.sc.prs a.q.1) := fun p => by rw [h.told]; exact orient_prods
  have elow : a.c.d.least = (manyAt a.sc.ls a.q.1 a.e).1 := by rw [h.ls]; rfl
  have etop : a.c.d.top = (manyAt a.sc.ls a.q.1 !a.e).2 := by rw [h.ls]; rfl
  have e1 : lkLack ⟨a.sc, a.q, a.e, f, new, others⟩ f = lackZ a.c.d f new := by
    unfold lkLack lackZ
    have e : f.map (lkN ⟨a.sc, a.q, a.e, f, new, others⟩) = f.map (needZ a.c.d) := List.map_congr_left fun n hn => by
      unfold lkN needZ cntO
      have := count_fst (n := n) hL (h.nd a.B) hm fun p hp => (h.mem hp).2
      rw [h.others, this, elow, deg_orient]
    rw [e, elow]
    exact Int.add_comm _ _
  have e2 : ∀ o, lkF0 ⟨a.sc, a.q, a.e, f, new, others⟩ o = freeZ a.c.d f new o := fun o => by
    unfold lkF0 freeZ cntN
    rw [count_snd hL hf hm]
  have e3 : lkOff ⟨a.sc, a.q, a.e, f, new, others⟩ (namesOf a.sc.ps a.B) = offerZ a.c.d f new := by
    unfold lkOff offerZ
    rw [h.others]
    refine congrArg List.sum (List.map_congr_left fun o ho => ?_)
    unfold lkF roomZ
    rw [etop, e2]
    cases ht : (manyAt a.sc.ls a.q.1 !a.e).2 with
    | none => rw [show (LkA.mk a.sc a.q a.e f new others).top = none from ht]; dsimp only; omega
    | some t =>
      rw [show (LkA.mk a.sc a.q a.e f new others).top = some t from ht]
      dsimp only
      unfold cntN
      rw [h.names, count_snd' hL (h.nd a.S) hm fun p hp => (h.mem hp).1, deg_orient2]
  have e4 : lkLast ⟨a.sc, a.q, a.e, f, new, others⟩ = newZ a.c.d (((f.length : Nat) : Int) + new) := by
    unfold lkLast newZ
    rw [etop]
    all_goals (cases ht : (manyAt a.sc.ls a.q.1 !a.e).2 with
      | none => rw [show (LkA.mk a.sc a.q a.e f new others).top = none from ht]
      | some t => rw [show (LkA.mk a.sc a.q a.e f new others).top = some t from ht])
  unfold lacksB tooB
  dsimp only
  rw [e1, e3, e4]
/-- is_cut of a set -/
theorem okEn.isCut (h : okEn a) {f : List Str} (hs : SetOf a.ns f) (b : Bool) : isCutB a.t a.cs a.q.1 a.e f b = tooB a.c.d f (onB a.c.mine b) a.c.others := by
  unfold isCutB onB
  have e1 : (f.all fun n => decide (n ∈ namesOf a.t.rows (kindAt a.t.mo.2 a.q.1 a.e))) = true := List.all_eq_true.mpr fun n hn => decide_eq_true (by have := hs.sub n hn; rw [← h.names] at this; exact this)
  rw [e1, decide_eq_true hs.uq, Bool.true_and, Bool.true_and]
theorem okEn.isC (h : okEn a) {f : List Str} {b : Bool} : IsC a.c f b ↔ f ∈ setsL a.ns ∧ tooB a.c.d f (onB a.c.mine b) a.c.others = true := by
  rw [sets_mem _ a.ns rfl (h.nd a.S)]
  refine ⟨fun z => ⟨⟨?_, z.nd, by rw [← h.names]; exact z.sub⟩, z.too⟩, fun ⟨z1, z2⟩ => ⟨z1.nd, z1.uq, by rw [h.names]; exact z1.sub, z2⟩⟩
  have := z.srt
  rw [uq_nodup z.nd] at this
  exact this.symm
end
/-- the cuts among some sets -/
def fdI (c : CutA) (f : List Str) (bs : List Bool) : List (List Str × Bool) := (bs.filter fun b => tooB c.d f (onB c.mine b) c.others).map fun b => (f, b)
def fdL (c : CutA) (fs : List (List Str)) : List (List Str × Bool) := fs.flatMap fun f => fdI c f [false, true]
theorem mem_fdL {c : CutA} {fs : List (List Str)} {p : List Str × Bool} : p ∈ fdL c fs ↔ p.1 ∈ fs ∧ tooB c.d p.1 (onB c.mine p.2) c.others = true := by
  unfold fdL fdI
  rw [List.mem_flatMap]
  constructor
  · rintro ⟨f, hf, hm⟩
    obtain ⟨b, hb, e⟩ := List.mem_map.mp hm
    rw [← e]
    exact ⟨hf, (List.mem_filter.mp hb).2⟩
  · rintro ⟨h1, h2⟩
    refine ⟨p.1, h1, List.mem_map.mpr ⟨p.2, List.mem_filter.mpr ⟨?_, h2⟩, rfl⟩⟩
    cases p.2 <;> decide
theorem okEn.fd {a : EnA} (h : okEn a) {p : List Str × Bool} : p ∈ fdL a.c (setsL a.ns) ↔ IsC a.c p.1 p.2 := by rw [mem_fdL, h.isC]
theorem okEn.any {a : EnA} (h : okEn a) : anyC a.c = !decide (fdL a.c (setsL a.ns) = []) := by
  cases e : fdL a.c (setsL a.ns) with
  | nil => exact anyC_no fun f b z => by have := h.fd (p := (f, b)).mpr z; rw [e] at this; cases this
  | cons p r => exact anyC_of (h.fd.mp (e ▸ List.mem_cons_self))
/-! ### what is past -/
theorem past_eq {a : EnA} (h : okEn a) : pastL a.sc = pastB a.t := by
  have e : ∀ k e, k ∈ a.sc.ls.map (·.1) → (namesOf a.sc.ps (kindAt a.sc.ls k e)).any (pastQ a.sc k e) = pastE a.t k e := fun k e hk => by
    unfold pastE
    rw [h.sd.hrows, h.ls]
    refine congrArg (fun f => List.any _ f) (funext fun n => ?_)
    unfold pastQ pastN
    rw [h.ls, h.sd.hprs k (by rw [← h.ls]; exact hk)]
    all_goals (cases (manyAt a.t.mo.2 k e).2 <;> rfl)
  unfold pastL pastB
  have e2 : (a.t.mo.2.map (·.1)).any (pastK a.t) = a.sc.ls.any fun q => pastK a.t q.1 := by rw [← h.ls, List.any_map]; rfl
  rw [e2]
  rw [Bool.eq_iff_iff, List.any_eq_true, List.any_eq_true]
  refine exists_congr fun q => and_congr_right fun hq => ?_
  have hk : q.1 ∈ a.sc.ls.map (·.1) := List.mem_map.mpr ⟨q, hq, rfl⟩
  unfold pastK
  simp only [List.any_cons, List.any_nil, e _ _ hk]
end Pr
/-! VZ -/
namespace Pr
open PySem PySem.Spec PyProof.Rows L2 Dn Rb Fl
section
variable {a : EnA}
theorem okEn.okSc (h : okEn a) : okSc a.sc where
  ll := by have := h.fr.mo.lle; rw [h.ls]; omega
  pl := by have := h.pp.le; omega
  keys := fun q hq => by rw [h.pr.1]; exact List.mem_map.mpr ⟨q, hq, rfl⟩
  pk := fun k hk => by
    rw [h.pr.1] at hk
    exact Nat.le_trans (h.pr.2 k hk).le (by decide)
theorem okEn.row (h : okEn a) : PairP (manyAt a.sc.ls a.q.1 a.e) ∧ PairP (manyAt a.sc.ls a.q.1 !a.e) := by
  have m := h.fr.2.2 _ (lk_mem (ls := a.t.mo.2) h.k)
  unfold manyAt
  rw [h.ls]
  cases a.e with
  | false => exact ⟨m.1.2, m.2.2⟩
  | true => exact ⟨m.2.2, m.1.2⟩
theorem okEn.val (h : okEn a) {p : Str × Int} (hp : p ∈ a.cs) : p.1 ∈ a.t.mo.1 ∧ lk a.cs p.1 = p.2 := ⟨by rw [← h.ck]; exact List.mem_map.mpr ⟨p, hp, rfl⟩, lk_of (by rw [h.ck]; exact h.fr.mo.nd) hp⟩
theorem okEn.okCs (h : okEn a) : okCs a.cs where
  ne := fun z => h.fr.mo.ne (by rw [← h.ck, z]; rfl)
  le := by
    have := congrArg List.length h.ck
    rw [List.length_map] at this
    have := h.fr.mo.le
    omega
  nd := by rw [h.ck]; exact h.fr.mo.nd
  nm := fun p hp => h.fr.mo.nm _ (h.val hp).1
  nn := fun p hp => by
    obtain ⟨h1, h2⟩ := h.val hp
    have := (h.cn _ h1).1
    omega
theorem okEn.okCc (h : okEn a) (b : Bool) : okCc ⟨a.t.mo, a.cs, b⟩ := ⟨h.fr.mo, h.okCs, by dsimp only; rw [h.ck]⟩
theorem okEn.news (h : okEn a) {p : Str × Int} (hp : p ∈ newsC a.t a.cs) : 0 ≤ p.2 ∧ p.2 ≤ 10 ^ 41 := by
  obtain ⟨k, hk, e⟩ := List.mem_map.mp hp
  have := h.cn k (Srt.mem_srt.mp hk)
  rw [← e]
  dsimp only
  rw [h.sd.hrows]
  omega
abbrev EnA.cn (a : EnA) (b : Bool) : CnA := ⟨a.t, a.cs, b, a.q.1, a.e⟩
theorem okEn.okCn (h : okEn a) (b : Bool) : okCn (a.cn b) := ⟨h.sd.ok, h.okCc b, fun p hp => (h.news hp).1, h.k⟩
theorem okEn.big (h : okEn a) : ∀ p, p ∈ newsC a.t a.cs → p.2 ≤ 10 ^ 49 := fun p hp => by have := (h.news hp).2; omega
theorem okEn.mineB (h : okEn a) : 0 ≤ a.c.mine ∧ a.c.mine ≤ 10 ^ 41 := by have := h.cn _ h.kS; rw [h.mine, show a.ns = namesOf a.sc.ps a.S from rfl]; omega
theorem okEn.othB (h : okEn a) : 0 ≤ a.c.others ∧ a.c.others ≤ 10 ^ 41 := by have := h.cn _ h.kB; rw [h.oth]; omega
theorem okEn.nok (h : okEn a) {x : Str} (hx : x ∈ a.ns) : okN x ∧ x.length ≠ 6 := ⟨(h.pp.nm _ (mem_namesOf.mp hx)).2, h.pp.six _ (mem_namesOf.mp hx)⟩
theorem okEn.setl (h : okEn a) {f : List Str} (hf : f ∈ setsL a.ns) : f.length ≤ 4 := Nat.le_trans ((setsL_len _ a.ns rfl).2 f hf) (h.pp.few _)
theorem okEn.set (h : okEn a) {f : List Str} (hf : f ∈ setsL a.ns) : SetOf a.ns f := (sets_mem _ a.ns rfl (h.nd _) f).mp hf
end
/-! cuts as values -/
abbrev ctD (p : List Str × Bool) : Den := tupD [strsT p.1, blD p.2]
def ctP (p : List Str × Bool) : PyData := .tuple [.tuple (p.1.map .str), .bool p.2]
theorem ctP_inj : Inj ctP := inj_pair (inj_tup inj_str) inj_bl
theorem dat_ct {K : PySem.W.Frag} (p : List Str × Bool) : Dat K (ctD p) (ctP p) := dat_tup (.cons (dat_tup (dat_map (fun x => dat_str) p.1)) (.cons dat_bl .nil))
theorem sh_ct {p : List Str × Bool} (h : ∀ x, x ∈ p.1 → okN x) : Sh 2 (ctP p) := sh_tup fun x hx => by
  rcases List.mem_cons.mp hx with e | hx
  · rw [e]; exact sh_tup (sh_map fun x hx => sh_str (h x hx).ok)
  · rw [List.mem_singleton.mp hx]; exact sh_bl
theorem od_isC {r : Cut} : OD (fun x y H Q => y = .non ∧ Q (.bl (decide (x = .non))) H) (cutD r) nonD (blD (decide (r = none))) := by
  cases r with
  | none => exact od_isN
  | some r => exact od_isN' notN_tup
theorem od_notC {r : Cut} : OD (fun x y H Q => y = .non ∧ Q (.bl (!decide (x = .non))) H) (cutD r) nonD (blD (!decide (r = none))) := by
  cases r with
  | none => exact od_notN
  | some r => exact od_notN' notN_tup
theorem res_none {c : CutA} {r : Cut} (h : CutRes c r) : decide (r = none) = !anyC c := by
  cases r with
  | none => rw [show anyC c = false from h]; rfl
  | some r => rw [anyC_of (a := c) h]; rfl
/-! other values are no cuts -/
theorem nobody_len : ("nobody" : Str).length = 6 := by decide +kernel
theorem nobody_ok : okN "nobody" := by
  show nameB "nobody" = true
  decide +kernel
theorem not_all {K : PySem.W.Frag} {t : ToA} {cs : Cs} {k : Str} {e : Bool} {f : List Str} {b : Bool} {x : Str} (hx : x ∈ f) (n : x ∉ namesOf t.rows (kindAt t.mo.2 k e)) : isCutB t cs k e f b = false := by
  unfold isCutB
  have : (f.all fun n => decide (n ∈ namesOf t.rows (kindAt t.mo.2 k e))) = false := by
    cases z : f.all fun n => decide (n ∈ namesOf t.rows (kindAt t.mo.2 k e)) with
    | false => rfl
    | true => exact absurd (of_decide_eq_true (List.all_eq_true.mp z x hx)) n
  rw [this]
  rfl
theorem not_uq {t : ToA} {cs : Cs} {k : Str} {e : Bool} {f : List Str} {b : Bool} (n : f ≠ uq f) : isCutB t cs k e f b = false := by
  unfold isCutB
  rw [decide_eq_false n, Bool.false_and, Bool.and_false]
theorem kNon (s : String) : kitB "NoneType" "tuple" = some false := by decide +kernel
section
variable {P : Program} {w : World} {K : PySem.W.Frag} {mg : Str → Option Value} {base : Heap}
theorem odd_arg {a : EnA} (h : okEn a) {R : Den} (hR : R ∈ oddL (Srt.srt a.ns)) : CutArg K a.t a.cs a.q.1 a.e R false := by
  have hlen : (Srt.srt a.ns).length ≤ 4 := by rw [Srt.length_srt]; exact h.pp.few _
  have hrow : namesOf a.t.rows (kindAt a.t.mo.2 a.q.1 a.e) = a.ns := h.names
  have nb : ("nobody" : Str) ∉ namesOf a.t.rows (kindAt a.t.mo.2 a.q.1 a.e) := fun z => by
    rw [hrow] at z
    exact (h.nok z).2 nobody_len
  have nd : (Srt.srt a.ns).Nodup := (Srt.srt_perm _).nodup_iff.mpr (h.nd _)
  have hok : ∀ n, n ∈ Srt.srt a.ns → okN n := fun n hn => (h.nok (Srt.mem_srt.mp hn)).1
  have fok : okN (firstN (Srt.srt a.ns)) := by
    unfold firstN
    cases e : Srt.srt a.ns with
    | nil => exact nobody_ok
    | cons x r => exact hok x (by rw [e]; exact List.mem_cons_self)
  unfold oddL at hR
  rcases List.mem_append.mp hR with hR | hR
  · rcases List.mem_append.mp hR with hR | hR
    · rcases List.mem_append.mp hR with hR | hR
      · simp only [List.mem_cons, List.mem_nil_iff, or_false] at hR
        rcases hR with e | e | e | e | e | e | e | e | e | e <;> subst e
        · exact .notTup _ "NoneType" ty_non (by decide +kernel)
        · exact .len _ (by decide)
        · exact .notTup _ "list" ty_lst (by decide +kernel)
        · exact .notTup _ "int" ty_int (by decide +kernel)
        · exact .notTup _ "str" ty_str (by decide +kernel)
        · exact .len _ (by show 1 ≠ 2; decide)
        · exact .fst _ _ "list" ty_lst (by decide +kernel)
        · exact .snd _ _ "int" ty_int (by decide +kernel)
        · exact .snd _ _ "NoneType" ty_non (by decide +kernel)
        · exact .len _ (by show 3 ≠ 2; decide)
      · simp only [List.mem_cons, List.mem_nil_iff, or_false] at hR
        rcases hR with e | e | e | e | e <;> subst e
        · have e : isCutB a.t a.cs a.q.1 a.e [("nobody" : Str)] true = false := not_all (K := K) List.mem_cons_self nb
          rw [← e]
          exact .main [("nobody" : Str)] true (fun n hn => by rw [List.mem_singleton.mp hn]; exact nobody_ok) (by show 1 ≤ 50; decide)
        · have e : isCutB a.t a.cs a.q.1 a.e [firstN (Srt.srt a.ns), firstN (Srt.srt a.ns)] false = false := not_uq fun z => by
            have n := nodup_uq [firstN (Srt.srt a.ns), firstN (Srt.srt a.ns)]
            rw [← z] at n
            exact (List.nodup_cons.mp n).1 List.mem_cons_self
          have m := CutArg.main (K := K) (t := a.t) (cs := a.cs) (k := a.q.1) (e := a.e) [firstN (Srt.srt a.ns), firstN (Srt.srt a.ns)] false (fun n hn => by
            rcases List.mem_cons.mp hn with z | z
            · rw [z]; exact fok
            · rw [List.mem_singleton.mp z]; exact fok) (by show 2 ≤ 50; decide)
          rw [e] at m
          exact m
        · exact .odd _ ⟨"NoneType", ty_non, by decide +kernel⟩ true
        · exact .notTup _ "list" ty_lst (by decide +kernel)
        · exact .fst _ _ "str" ty_str (by decide +kernel)
    · rw [List.mem_singleton.mp hR]
      have e : isCutB a.t a.cs a.q.1 a.e (Srt.srt a.ns ++ [("nobody" : Str)]) false = false := not_all (K := K) (List.mem_append_right _ List.mem_cons_self) nb
      have m := CutArg.main (K := K) (t := a.t) (cs := a.cs) (k := a.q.1) (e := a.e) (Srt.srt a.ns ++ [("nobody" : Str)]) false (fun n hn => by
        rcases List.mem_append.mp hn with z | z
        · exact hok n z
        · rw [List.mem_singleton.mp z]; exact nobody_ok) (by rw [List.length_append, List.length_singleton]; omega)
      rw [e] at m
      exact m
  · by_cases hl : 1 < (Srt.srt a.ns).length
    · rw [if_pos hl] at hR
      rw [List.mem_singleton.mp hR]
      have e : isCutB a.t a.cs a.q.1 a.e (Srt.srt a.ns).reverse true = false := not_uq fun z => by
        have p1 : (uq (Srt.srt a.ns).reverse).Pairwise Srt.le := Srt.srt_pw _
        rw [← z] at p1
        have p2 : (Srt.srt a.ns).Pairwise Srt.le := Srt.srt_pw _
        have e := Srt.eq_of_perm (List.reverse_perm _) p1 p2
        cases hc : Srt.srt a.ns with
        | nil => rw [hc] at hl; cases hl
        | cons x r =>
          cases hr : r with
          | nil => rw [hc, hr] at hl; simp at hl
          | cons y u =>
            rw [hc] at e nd
            have hlast : (x :: r).reverse = r.reverse ++ [x] := List.reverse_cons
            have hx : x ∈ r := by
              have hh := congrArg List.head? e
              rw [hlast, hr, List.reverse_cons] at hh
              have : ∀ l : List Str, (l ++ [y] ++ [x]).head? = some x → x ∈ l ++ [y] := fun l hl => by
                cases l with
                | nil => 
                  have : y = x := by simpa using hl
                  rw [this]; exact List.mem_append_right _ List.mem_cons_self
                | cons z l =>
                  have : z = x := by simpa using hl
                  rw [this]; exact List.mem_append_left _ List.mem_cons_self
              have := this _ (by rw [hh]; rfl)
              rw [hr]
              rcases List.mem_append.mp this with m | m
              · exact List.mem_cons_of_mem _ (List.mem_reverse.mp m)
              · rw [List.mem_singleton.mp m]; exact List.mem_cons_self
            exact (List.nodup_cons.mp nd).1 hx
      rw [← e]
      exact .main (Srt.srt a.ns).reverse true (fun n hn => hok n (List.mem_reverse.mp hn)) (by rw [List.length_reverse]; omega)
    · rw [if_neg hl] at hR
      cases hR
end
end Pr
/-! WA -/
namespace Pr
open PySem PySem.Spec PyProof.Rows L2 Dn Rb Fl
theorem fdI_snoc (c : CutA) (f : List Str) (bs : List Bool) (b : Bool) : fdI c f (bs ++ [b]) = fdI c f bs ++ (if tooB c.d f (onB c.mine b) c.others = true then [(f, b)] else []) := by
  unfold fdI
  rw [List.filter_append, List.map_append]
  congr 1
  by_cases z : tooB c.d f (onB c.mine b) c.others = true
  · rw [if_pos z]; simp [z]
  · rw [if_neg z]; simp [z]
theorem fdL_snoc (c : CutA) (fs : List (List Str)) (f : List Str) : fdL c (fs ++ [f]) = fdL c fs ++ fdI c f [false, true] := by
  unfold fdL
  rw [List.flatMap_append, List.flatMap_cons, List.flatMap_nil, List.append_nil]
theorem fdI_len (c : CutA) (f : List Str) (bs : List Bool) : (fdI c f bs).length ≤ bs.length := by
  unfold fdI
  rw [List.length_map]
  exact List.length_filter_le _ _
theorem fdL_len (c : CutA) : ∀ fs : List (List Str), (fdL c fs).length ≤ 2 * fs.length := by
  intro fs
  unfold fdL
  induction fs with
  | nil => exact Nat.le_refl _
  | cons f fs ih =>
    rw [List.flatMap_cons, List.length_append, List.length_cons]
    have := fdI_len c f [false, true]
    simp only [List.length_cons, List.length_nil] at this
    omega
section
variable {P : Program} {w : World} {K : PySem.W.Frag} {mg : Str → Option Value} {base : Heap}
abbrev ehG (K : PySem.W.Frag) (a : EnA) (f : Option Den) : Dn.Ctx := [some (toldD K a.t), some (scD a.sc), some (csD a.cs), some (rowD a.q), some (strD (endS a.e)), some (prsD a.sc.ps), some (strD (endS !a.e)), f, none, none, none, some (strD a.S), some (strD a.B), some (intD a.c.mine), some (intD a.c.others), none, none, none]
abbrev r_l_end_has_cut (K : PySem.W.Frag) : List Den → Own → Own → Den → Prop := pu okEn (fun a => [toldD K a.t, scD a.sc, csD a.cs, rowD a.q, strD (endS a.e)]) (fun a => blD (anyC a.c))
theorem ok_l_end_has_cut (T : Txt K mg) : FnOk P w K mg base CX0 10 (a_l_end_has_cut K) (fdOf K (a_l_end_has_cut K)) ["_law_held", "_law_scene", "_law_counts", "_law_row", "_law_side"] (DefSp (r_l_end_has_cut K)) := by
  refine ow_ok (F_l_end_has_cut T) sc_l_end_has_cut (fun _ => rfl) fun cdv A outer s H E hr => ⟨_, PSs.nox (pss_cons (ps_set (i := 5) sc_l_end_has_cut.nd rfl (Or.inl rfl) (pe_ix (ix_tupK (K := K)) (pv 1) pe_int (fun _ _ => rfl)))
  (pss_cons (ps_set (i := 6) sc_l_end_has_cut.nd rfl (Or.inl rfl) (pe_dget (rm1 hr) (pe_frz (pe_disp (pps_cons pe_str pe_str (pps_cons pe_str pe_str pps_nil)) (by rfl) (by rfl) (fun z => by cases z) (by decide))) (pv 4) (fun _ _ => rfl)))
  (pss_cons (ps_par (i := 11) (j := 12) (by rfl) sc_l_end_has_cut.nd rfl rfl (by decide) rfl rfl (pa_cons (pe_ix (ix_tupK (K := K)) (pe_call (ok_l_at T) (hr.mono (by decide)) rfl (g_l_at T) (F_l_at T).kp (b_l_at T) .nil pass0 (pa_cons (pe_ix (ix_tupK (K := K)) (pv 1) pe_int (fun _ _ => rfl)) (pa_cons (pe_ix (ix_tupK (K := K)) (pv 3) pe_int (fun _ _ => rfl)) (pa_cons (pv 4) pa_nil)))) pe_int (fun _ _ => rfl)) (pa_cons (pe_ix (ix_tupK (K := K)) (pe_call (ok_l_at T) (hr.mono (by decide)) rfl (g_l_at T) (F_l_at T).kp (b_l_at T) .nil pass0 (pa_cons (pe_ix (ix_tupK (K := K)) (pv 1) pe_int (fun _ _ => rfl)) (pa_cons (pe_ix (ix_tupK (K := K)) (pv 3) pe_int (fun _ _ => rfl)) (pa_cons (pv 6) pa_nil)))) pe_int (fun _ _ => rfl)) pa_nil)) (by rfl))
  (pss_cons (ps_par (i := 13) (j := 14) (by rfl) sc_l_end_has_cut.nd rfl rfl (by decide) rfl rfl (pa_cons (pe_op op_sub (pe_dget (rm1 hr) (pv 2) (pv 11) (fun _ _ => rfl)) (pe_callB (call_lenK (K := K)) (by rfl) (z_len T) boot_len (pa_cons (pe_call (ok_l_of T) (hr.mono (by decide)) rfl (g_l_of T) (F_l_of T).kp (b_l_of T) .nil pass0 (pa_cons (pv 5) (pa_cons (pv 11) pa_nil))) pa_nil))) (pa_cons (pe_op op_sub (pe_dget (rm1 hr) (pv 2) (pv 12) (fun _ _ => rfl)) (pe_callB (call_lenK (K := K)) (by rfl) (z_len T) boot_len (pa_cons (pe_call (ok_l_of T) (hr.mono (by decide)) rfl (g_l_of T) (F_l_of T).kp (b_l_of T) .nil pass0 (pa_cons (pv 5) (pa_cons (pv 12) pa_nil))) pa_nil))) pa_nil)) (by rfl))
  (pss_cons (ps_set (i := 7) sc_l_end_has_cut.nd rfl (Or.inl rfl) (pe_lst pa_nil))
  (pss_cons (ps_for PassesOwn.never rfl (pi_listK (K := K) (pe_call (ok_l_sets T) (hr.mono (by decide)) rfl (g_l_sets T) (F_l_sets T).kp (b_l_sets T) .nil pass0 (pa_cons (pe_call (ok_l_of T) (hr.mono (by decide)) rfl (g_l_of T) (F_l_of T).kp (b_l_of T) .nil pass0 (pa_cons (pv 5) (pa_cons (pv 11) pa_nil))) pa_nil))) (pg_name (i := 8) sc_l_end_has_cut.nd rfl (Or.inl rfl))
  (pss_one (ps_for PassesOwn.never rfl (pi_listK (K := K) (pe_lst (pa_cons pe_bl (pa_cons pe_bl pa_nil)))) (pg_name (i := 15) sc_l_end_has_cut.nd rfl (Or.inl rfl))
  (pss_cons (ps_set (i := 16) sc_l_end_has_cut.nd rfl (Or.inl rfl) (pe_call (ok_l_lacks T) (hr.mono (by decide)) rfl (g_l_lacks T) (F_l_lacks T).kp (b_l_lacks T) .nil pass0 (pa_cons (pv 1) (pa_cons (pv 3) (pa_cons (pv 4) (pa_cons (pv 8) (pa_cons (pe_op op_mulW (pv 13) (pe_callTy call_int1 (by rfl) (z_int T) boot_int (pa_cons (pv 15) pa_nil))) (pa_cons (pv 14) pa_nil))))))))
  (pss_cons (ps_if (pt_cmpR op_ne (pe_call (ok_is_cut T) (hr.mono (by decide)) rfl (g_is_cut T) (F_is_cut T).kp (b_is_cut T) .nil pass0 (pa_cons (pv 0) (pa_cons (pv 2) (pa_cons (pe_ix (ix_tupK (K := K)) (pv 3) pe_int (fun _ _ => rfl)) (pa_cons (pv 4) (pa_cons (pe_tup (pa_cons (pv 8) (pa_cons (pv 15) pa_nil))) pa_nil)))))) (pv 16) (nomark _)) (pss_one (ps_ret pe_non)) pss_nil)
  (pss_one (ps_if (pt_val (pv 16)) (pss_one (ps_expr (pe_bm PySem.F.plainAttrs_list PySem.F.slot_list_append PySem.F.type_list_append mt_append (pv 7) (pa_cons (pe_tup (pa_cons (pv 8) (pa_cons (pv 15) pa_nil))) pa_nil)))) pss_nil)))))))
  (pss_cons (ps_set (i := 9) sc_l_end_has_cut.nd rfl (Or.inl rfl) (pe_call (ok_cut_of T) (hr.mono (by decide)) rfl (g_cut_of T) (F_cut_of T).kp (b_cut_of T) .nil pass0 (pa_cons (pv 0) (pa_cons (pe_make (mk_Sizes T) (ok_Sizes_init T) (hr.mono (by decide)) rfl (g_Sizes T) (b_Sizes_init T) .nil pass0 (pa_cons (pv 2) pa_nil)) (pa_cons (pe_ix (ix_tupK (K := K)) (pv 3) pe_int (fun _ _ => rfl)) (pa_cons (pv 4) pa_nil))))))
  (pss_cons (ps_if (PW.pt (pw_or (pt_cmpR op_ne (pe_cmpR op_isN (pv 9) pe_non (nomark _)) (pe_cmpR (op_eqDK (K := K) (rm64 hr)) (pv 7) (pe_lst pa_nil) (nomark _)) (nomark _)) (pw_or1 (PW.pt (pw_and (pt_cmpR op_notN (pv 9) pe_non (nomark _)) (pw_and1 (pt_cmpR (op_notInDK (K := K) (rm65 hr)) (pv 9) (pv 7) (by rfl)))))))) (pss_one (ps_ret pe_non)) pss_nil)
  (pss_cons (ps_set (i := 10) sc_l_end_has_cut.nd rfl (Or.inl rfl) (pe_call (ok_cut_of T) (hr.mono (by decide)) rfl (g_cut_of T) (F_cut_of T).kp (b_cut_of T) .nil pass0 (pa_cons (pv 0) (pa_cons (pv 2) (pa_cons (pe_ix (ix_tupK (K := K)) (pv 3) pe_int (fun _ _ => rfl)) (pa_cons (pv 4) pa_nil))))))
  (pss_cons (ps_if (pt_cmpR op_ne (pe_cmpR op_isN (pv 10) pe_non (nomark _)) (pe_cmpR op_isN (pv 9) pe_non (nomark _)) (nomark _)) (pss_one (ps_ret pe_non)) pss_nil)
  (pss_cons (ps_if (PW.pt (pw_and (pt_cmpR op_notN (pv 10) pe_non (nomark _)) (pw_and1 (pt_not (pt_val (pe_call (ok_is_cut T) (hr.mono (by decide)) rfl (g_is_cut T) (F_is_cut T).kp (b_is_cut T) .nil pass0 (pa_cons (pv 0) (pa_cons (pv 2) (pa_cons (pe_ix (ix_tupK (K := K)) (pv 3) pe_int (fun _ _ => rfl)) (pa_cons (pv 4) (pa_cons (pv 10) pa_nil))))))))))) (pss_one (ps_ret pe_non)) pss_nil)
  (pss_cons (ps_if (PW.pt (pw_and (pt_cmpR op_notN (pv 9) pe_non (nomark _)) (pw_and1 (pt_not (pt_val (pe_call (ok_is_cut T) (hr.mono (by decide)) rfl (g_is_cut T) (F_is_cut T).kp (b_is_cut T) .nil pass0 (pa_cons (pv 0) (pa_cons (pe_make (mk_Sizes T) (ok_Sizes_init T) (hr.mono (by decide)) rfl (g_Sizes T) (b_Sizes_init T) .nil pass0 (pa_cons (pv 2) pa_nil)) (pa_cons (pe_ix (ix_tupK (K := K)) (pv 3) pe_int (fun _ _ => rfl)) (pa_cons (pv 4) (pa_cons (pv 9) pa_nil))))))))))) (pss_one (ps_ret pe_non)) pss_nil)
  (pss_cons (ps_set (i := 8) sc_l_end_has_cut.nd rfl (Or.inl rfl) (pe_callTy (call_tuple_ofK (K := K)) (by rfl) (z_tuple T) boot_tuple (pa_cons (pe_callB (cr_sortedSK (K := K)) (by rfl) (z_sorted T) boot_sorted (pa_cons (pe_call (ok_l_of T) (hr.mono (by decide)) rfl (g_l_of T) (F_l_of T).kp (b_l_of T) .nil pass0 (pa_cons (pv 5) (pa_cons (pv 11) pa_nil))) pa_nil)) pa_nil)))
  (pss_cons (ps_if (pt_val (pe_callB (cr_anyK (K := K) rfl) (by rfl) (z_any T) boot_any (pa_cons (pe_lc (own := [("_law_value", 17)]) (by rfl) sc_l_end_has_cut.nd (pi_listK (K := K) (pe_call (ok_l_odd T) (hr.mono (by decide)) rfl (g_l_odd T) (F_l_odd T).kp (b_l_odd T) .nil pass0 (pa_cons (pv 8) pa_nil))) (blkOk_by (N := n_l_end_has_cut) (sc := defScope s_l_end_has_cut) (by decide +kernel)) (fun _ _ _ _ _ => (pg_name (i := 17) sc_l_end_has_cut.nd rfl (Or.inl rfl))) (fun _ _ _ _ _ => pts_nil) (fun _ _ _ _ _ => (pe_call (ok_is_cut T) (hr.mono (by decide)) rfl (g_is_cut T) (F_is_cut T).kp (b_is_cut T) .nil pass0 (pa_cons (pv 0) (pa_cons (pv 2) (pa_cons (pe_ix (ix_tupK (K := K)) (pv 3) pe_int (fun _ _ => rfl)) (pa_cons (pv 4) (pa_cons (pv 17) pa_nil)))))))) pa_nil))) (pss_one (ps_ret pe_non)) pss_nil)
  (pss_one (ps_ret (pe_cmpR (op_neDK (K := K) (rm64 hr)) (pv 7) (pe_lst pa_nil) (nomark _)))))))))))))))))), ?_⟩
  intro a h
  have hsc := h.okSc
  have hl := hsc.ll
  have hp := h.pp.le
  have hm := h.mineB
  have ho := h.othB
  have hsm : sm a.c.mine := by unfold sm; omega
  have hsn : ∀ n : Bool, sm (if n then 1 else 0) := fun n => by unfold sm; cases n <;> decide
  have ho50 : 0 ≤ a.c.others ∧ a.c.others ≤ 10 ^ 50 := by omega
  have hm50 : ∀ n : Bool, 0 ≤ a.c.mine * (if n then 1 else 0) ∧ a.c.mine * (if n then 1 else 0) ≤ 10 ^ 50 := fun n => by
    cases n with
    | false => rw [if_neg (by decide), Int.mul_zero]; omega
    | true => rw [if_pos rfl, Int.mul_one]; omega
  have hnl : a.ns.length ≤ 4 := h.pp.few _
  have hckS : a.S ∈ a.cs.map (·.1) := by rw [h.ck]; exact h.kS
  have hckB : a.B ∈ a.cs.map (·.1) := by rw [h.ck]; exact h.kB
  have hof : ∀ k, (namesOf a.sc.ps k).length ≤ 4 := h.pp.few
  refine sb_seq (sb_asg (A := prsD a.sc.ps) (ed_op (ed_var rfl) ed_c (od_ixT (i := 1) rfl))) ?_
  refine sb_seq (sb_asg (A := strD (endS !a.e)) (dget_k (kvs := [(.inr "near", strD "far"), (.inr "far", strD "near")]) (k := .inr (endS a.e)) (by cases a.e <;> rfl) (ed_disp2 (k1 := .inr "near") (k2 := .inr "far") ed_c ed_c ed_c ed_c (by decide)) (ed_var rfl))) ?_
  refine sb_seq (sb_par (A := strD a.S) (B := strD a.B) (ea_cons (ed_op (ed_callP (α := LaA2) ⟨a.sc.ls, a.q.1, a.e⟩ (ea_cons (ed_op (ed_var rfl) ed_c (od_ixT (i := 0) rfl)) (ea_cons (ed_op (ed_var rfl) ed_c (od_ixT (i := 0) rfl)) (ea_cons (ed_var rfl) ea_nil))) ⟨h.k', by dsimp only; omega⟩) ed_c (od_ixT (i := 0) rfl)) (ea_cons (ed_op (ed_callP (α := LaA2) ⟨a.sc.ls, a.q.1, !a.e⟩ (ea_cons (ed_op (ed_var rfl) ed_c (od_ixT (i := 0) rfl)) (ea_cons (ed_op (ed_var rfl) ed_c (od_ixT (i := 0) rfl)) (ea_cons (ed_var rfl) ea_nil))) ⟨h.k', by dsimp only; omega⟩) ed_c (od_ixT (i := 0) rfl)) ea_nil))) ?_
  refine sb_seq (sb_par (A := intD a.c.mine) (B := intD a.c.others) (ea_cons (ED.cast (ed_op (dget_s (f := fun i => intD i) (ls := a.cs) hckS (ed_var rfl) (ed_var rfl)) (ed_cb (ea_cons (ed_callP (α := List Pr2 × Str) (a.sc.ps, a.S) (ea_cons (ed_var rfl) (ea_cons (ed_var rfl) ea_nil)) (by dsimp only; omega)) ea_nil) (cd_len (by rw [List.length_map]; exact Nat.le_trans (hof _) (by decide)))) od_sub) (by rw [h.mine, List.length_map])) (ea_cons (ED.cast (ed_op (dget_s (f := fun i => intD i) (ls := a.cs) hckB (ed_var rfl) (ed_var rfl)) (ed_cb (ea_cons (ed_callP (α := List Pr2 × Str) (a.sc.ps, a.B) (ea_cons (ed_var rfl) (ea_cons (ed_var rfl) ea_nil)) (by dsimp only; omega)) ea_nil) (cd_len (by rw [List.length_map]; exact Nat.le_trans (hof _) (by decide)))) od_sub) (by rw [h.oth, List.length_map])) ea_nil))) ?_
  refine sb_seqG (M := fun o g => ∃ b, o = [(b, lstO [])] ∧ g = ehG K a (some (valD (.ref b)))) (sb_new ea_nil fun b => ⟨b, rfl, rfl⟩) fun o g m => ?_
  obtain ⟨b, rfl, rfl⟩ := m
  have hsl : (setsL a.ns).length ≤ 16 := by
    rw [(setsL_len _ a.ns rfl).1]
    exact Nat.le_trans (Nat.pow_le_pow_right (by decide) hnl) (by decide)
  refine sb_seq (Os1 := [(b, lstO ((fdL a.c (setsL a.ns)).map fun p => ctD p))]) (Γ1 := ehG K a (some (valD (.ref b)))) (sb_forP (xs := setsL a.ns) (d := fun f => strsT f) (Oz := fun pre => [(b, lstO ((fdL a.c pre).map fun p => ctD p))]) (Γs := fun _ => ehG K a (some (valD (.ref b)))) (ei_list (ed_callP (α := List Str) a.ns (ea_cons (ed_callP (α := List Pr2 × Str) (a.sc.ps, a.S) (ea_cons (ed_var rfl) (ea_cons (ed_var rfl) ea_nil)) (by dsimp only; omega)) ea_nil) (by omega))) rfl (fun _ => rfl) .refl (fun pre f post sp => ⟨_, _, gd_name, ?_⟩) ⟨rfl, rfl⟩) ?_
  · have hf : f ∈ setsL a.ns := by rw [sp]; exact List.mem_append_right _ List.mem_cons_self
    have hset := h.set hf
    have hfl := h.setl hf
    have hpl : pre.length ≤ 16 := by
      have := congrArg List.length sp
      rw [List.length_append] at this
      omega
    have hfd := fdL_len a.c pre
    refine SB.less (Γ1 := (ehG K a (some (valD (.ref b)))).set 8 (some (strsT f))) (sb_forP (xs := [false, true]) (d := fun n => blD n) (Oz := fun p2 => [(b, lstO ((fdL a.c pre ++ fdI a.c f p2).map fun p => ctD p))]) (Γs := fun _ => (ehG K a (some (valD (.ref b)))).set 8 (some (strsT f))) (ei_list (ed_lst (ea_cons ed_c (ea_cons ed_c ea_nil)))) ?_ (fun _ => rfl) .refl (fun p2 n post2 sp2 => ⟨_, _, gd_name, ?_⟩) ⟨?_, rfl⟩) (.keep (.keep (.keep (.keep (.keep (.keep (.keep (.keep (.drop (.keep (.keep (.keep (.keep (.keep (.keep (.keep (.keep (.keep .nil))))))))))))))))))
    · rw [show fdI a.c f [] = [] from rfl, List.append_nil]
    · have hp2 : p2.length ≤ 2 := by
        have := congrArg List.length sp2
        rw [List.length_append] at this
        simp only [List.length_cons, List.length_nil] at this
        omega
      have hfi := fdI_len a.c f p2
      have hlk : okLk ⟨a.sc, a.q, a.e, f, a.c.mine * (if n then 1 else 0), a.c.others⟩ := ⟨hsc, h.q, hm50 n, ho50, (by show f.length ≤ 50; omega), by
        have := h.row.1.1
        have := h.row.1.2.1
        show 0 ≤ (manyAt a.sc.ls a.q.1 a.e).1 ∧ (manyAt a.sc.ls a.q.1 a.e).1 ≤ 100
        omega, fun t ht => by
        have := h.row.2.2.2 t ht
        have := h.row.2.1
        omega⟩
      have hic : okIc K ⟨a.cn false, ctD (f, n), isCutB a.t a.cs a.q.1 a.e f n⟩ := ⟨h.okCn false, h.big, .main f n (fun x hx => (h.nok (hset.sub x hx)).1) (by omega)⟩
      refine sb_seq (sb_asg (A := blD (tooB a.c.d f (onB a.c.mine n) a.c.others)) (ED.cast (ed_callP (α := LkA) ⟨a.sc, a.q, a.e, f, a.c.mine * (if n then 1 else 0), a.c.others⟩ (ea_cons (ed_var rfl) (ea_cons (ed_var rfl) (ea_cons (ed_var rfl) (ea_cons (ed_var rfl) (ea_cons (ed_op (ed_var rfl) (ed_cb (ea_cons (ed_var rfl) ea_nil) cd_intB) (od_mulW hsm (hsn n))) (ea_cons (ed_var rfl) ea_nil)))))) hlk) (by rw [h.lacks hset.nd hset.sub]; rfl))) ?_
      refine sb_seq (sb_if (b := false) (ET.cast (et_test (ed_op (ed_callP (α := IcA) ⟨a.cn false, ctD (f, n), isCutB a.t a.cs a.q.1 a.e f n⟩ (ea_cons (ed_var rfl) (ea_cons (ed_var rfl) (ea_cons (ed_op (ed_var rfl) ed_c (od_ixT (i := 0) rfl)) (ea_cons (ed_var rfl) (ea_cons (ed_tup (ea_cons (ed_var rfl) (ea_cons (ed_var rfl) ea_nil))) ea_nil))))) hic) (ed_var rfl) od_neB)) (by rw [h.isCut hset n]; exact bne_self_eq_false _)) (fun z => nomatch z) fun _ => sb_next) ?_
      refine sb_if (b := tooB a.c.d f (onB a.c.mine n) a.c.others) (et_test (ed_var rfl)) (fun z => SB.less (Γ1 := (((ehG K a (some (valD (.ref b)))).set 8 (some (strsT f))).set 15 (some (blD n))).set 16 (some (blD (tooB a.c.d f (onB a.c.mine n) a.c.others)))) (sb_app (A := ctD (f, n)) (ed_var rfl) (ea_cons (ed_tup (ea_cons (ed_var rfl) (ea_cons (ed_var rfl) ea_nil))) ea_nil) (by rw [List.length_map, List.length_append]; omega) ⟨by rw [fdI_snoc, if_pos z, ← List.append_assoc, List.map_append (l₁ := fdL a.c pre ++ fdI a.c f p2)]; rfl, rfl⟩) ?_) fun z => SB.less (Γ1 := (((ehG K a (some (valD (.ref b)))).set 8 (some (strsT f))).set 15 (some (blD n))).set 16 (some (blD (tooB a.c.d f (onB a.c.mine n) a.c.others)))) (sb_next ⟨by rw [fdI_snoc, if_neg (by rw [z]; decide), List.append_nil], rfl⟩) ?_
      · exact .keep (.keep (.keep (.keep (.keep (.keep (.keep (.keep (.keep (.keep (.keep (.keep (.keep (.keep (.keep (.drop (.drop (.keep .nil)))))))))))))))))
      · exact .keep (.keep (.keep (.keep (.keep (.keep (.keep (.keep (.keep (.keep (.keep (.keep (.keep (.keep (.keep (.drop (.drop (.keep .nil)))))))))))))))))
    · rw [fdL_snoc]
  have hany := h.any
  have hfd := fun p => h.fd (p := p)
  have hFl : (fdL a.c (setsL a.ns)).length ≤ 32 := Nat.le_trans (fdL_len _ _) (by omega)
  generalize fdL a.c (setsL a.ns) = F at hany hfd hFl
  have hFok : ∀ p, p ∈ F → ∀ x, x ∈ p.1 → okN x := fun p hp x hx => by
    have := ((hfd p).mp hp).sub x hx
    rw [h.names] at this
    exact (h.nok this).1
  have shF : SeqAt.shaped (.list (F.map ctP)) = true := Sh.ok (n := 3) (sh_list (sh_map fun p hp => sh_ct (hFok p hp)))
  have datF : Dat K (lstD (F.map fun p => ctD p)) (.list (F.map ctP)) := dat_lst (dat_map (fun p => dat_ct p) F)
  have dat0 : Dat K (lstD []) (.list []) := dat_lst .nil
  have eqv0 : PyData.eqv (.list (F.map ctP)) (.list []) = decide (F = []) := inj_list ctP_inj F []
  have isC_ok : ∀ f b, IsC a.c f b → (∀ n, n ∈ f → okN n) ∧ f.length ≤ 50 := fun f b z => by
    have z2 := (h.isC.mp z).1
    exact ⟨fun n hn => (h.nok ((h.set z2).sub n hn)).1, by have := h.setl z2; omega⟩
  have cutB : ∀ f b, IsC a.c f b → isCutB a.t a.cs a.q.1 a.e f b = true := fun f b z => by
    have z2 := h.isC.mp z
    rw [h.isCut (h.set z2.1)]
    exact z2.2
  refine sb_keep keeps_lst (i := 7) rfl ?_
  refine sb_seqG (M := fun o g => ∃ r, CutRes a.c r ∧ o = [] ∧ g = (ehG K a (some (lstD (F.map fun p => ctD p)))).set 9 (some (cutD r))) (sb_asgX (P := CutRes a.c) (F := cutD) (ed_callP (α := CnA) (a.cn true) (ea_cons (ed_var rfl) (ea_cons (ed_make (C := C_Sizes K) (rel := r_Sizes_init K) (Rs := [csD a.cs]) (ea_cons (ed_var rfl) ea_nil) fun y => ⟨(y, a.cs), h.okCs, rfl, rfl, rfl, rfl⟩) (ea_cons (ed_op (ed_var rfl) ed_c (od_ixT (i := 0) rfl)) (ea_cons (ed_var rfl) ea_nil)))) ⟨h.okCn true, h.big⟩) fun r hr => ⟨r, hr, rfl, rfl⟩) fun o g m => ?_
  obtain ⟨r, hr, rfl, rfl⟩ := m
  have hrn := res_none hr
  refine sb_seq (sb_if (b := false) (et_or (a := false) (b := false) (ET.cast (et_test (ed_op (ed_op (ed_var rfl) ed_c od_isC) (ed_op (ed_var rfl) (ed_lst ea_nil) (od_eqD datF dat0 shF rfl)) od_neB)) (by rw [eqv0, hrn, hany, Bool.not_not]; exact bne_self_eq_false _)) fun _ => ET.cast (et_and (a := !decide (r = none)) (b := false) (et_test (ed_op (ed_var rfl) ed_c od_notC)) fun z => ?_) (Bool.and_false _)) (fun z => nomatch z) fun _ => sb_next) ?_
  · cases r with
    | none => exact absurd z (by decide)
    | some p =>
      have hpF : p ∈ F := (hfd p).mpr hr
      refine ET.cast (et_test (ed_op (A := ctD p) (B := lstD (F.map fun p => ctD p)) (ed_var rfl) (ed_var rfl) (od_notInD (dat_ct p) datF (Sh.ok (sh_ct (hFok p hpF))) shF))) ?_
      rw [any_injD ctP_inj, decide_eq_true hpF]
      rfl
  refine sb_seqG (M := fun o g => ∃ r2, CutRes a.c r2 ∧ o = [] ∧ g = ((ehG K a (some (lstD (F.map fun p => ctD p)))).set 9 (some (cutD r))).set 10 (some (cutD r2))) (sb_asgX (P := CutRes a.c) (F := cutD) (ed_callP (α := CnA) (a.cn false) (ea_cons (ed_var rfl) (ea_cons (ed_var rfl) (ea_cons (ed_op (ed_var rfl) ed_c (od_ixT (i := 0) rfl)) (ea_cons (ed_var rfl) ea_nil)))) ⟨h.okCn false, h.big⟩) fun r hr => ⟨r, hr, rfl, rfl⟩) fun o g m => ?_
  obtain ⟨r2, hr2, rfl, rfl⟩ := m
  have hrn2 := res_none hr2
  refine sb_seq (sb_if (b := false) (ET.cast (et_test (ed_op (ed_op (ed_var rfl) ed_c od_isC) (ed_op (ed_var rfl) ed_c od_isC) od_neB)) (by rw [hrn, hrn2]; exact bne_self_eq_false _)) (fun z => nomatch z) fun _ => sb_next) ?_
  refine sb_seq (sb_if (b := false) (ET.cast (et_and (a := !decide (r2 = none)) (b := false) (et_test (ed_op (ed_var rfl) ed_c od_notC)) fun z => ?_) (Bool.and_false _)) (fun z => nomatch z) fun _ => sb_next) ?_
  · cases r2 with
    | none => exact absurd z (by decide)
    | some p =>
      obtain ⟨i1, i2⟩ := isC_ok p.1 p.2 hr2
      exact et_not (a := true) (ET.cast (et_test (ed_callP (α := IcA) ⟨a.cn false, ctD p, isCutB a.t a.cs a.q.1 a.e p.1 p.2⟩ (ea_cons (ed_var rfl) (ea_cons (ed_var rfl) (ea_cons (ed_op (ed_var rfl) ed_c (od_ixT (i := 0) rfl)) (ea_cons (ed_var rfl) (ea_cons (ed_var rfl) ea_nil))))) ⟨h.okCn false, h.big, .main p.1 p.2 i1 i2⟩)) (cutB _ _ hr2))
  refine sb_seq (sb_if (b := false) (ET.cast (et_and (a := !decide (r = none)) (b := false) (et_test (ed_op (ed_var rfl) ed_c od_notC)) fun z => ?_) (Bool.and_false _)) (fun z => nomatch z) fun _ => sb_next) ?_
  · cases r with
    | none => exact absurd z (by decide)
    | some p =>
      obtain ⟨i1, i2⟩ := isC_ok p.1 p.2 hr
      exact et_not (a := true) (ET.cast (et_test (ed_callP (α := IcA) ⟨a.cn true, ctD p, isCutB a.t a.cs a.q.1 a.e p.1 p.2⟩ (ea_cons (ed_var rfl) (ea_cons (ed_make (C := C_Sizes K) (rel := r_Sizes_init K) (Rs := [csD a.cs]) (ea_cons (ed_var rfl) ea_nil) fun y => ⟨(y, a.cs), h.okCs, rfl, rfl, rfl, rfl⟩) (ea_cons (ed_op (ed_var rfl) ed_c (od_ixT (i := 0) rfl)) (ea_cons (ed_var rfl) (ea_cons (ed_var rfl) ea_nil))))) ⟨h.okCn true, h.big, .main p.1 p.2 i1 i2⟩)) (cutB _ _ hr))
  refine sb_seq (sb_asg (A := strsT (Srt.srt a.ns)) (ed_cb (ea_cons (ed_cb (ea_cons (ed_callP (α := List Pr2 × Str) (a.sc.ps, a.S) (ea_cons (ed_var rfl) (ea_cons (ed_var rfl) ea_nil)) (by dsimp only; omega)) ea_nil) (cd_sortedS (Nat.lt_of_le_of_lt (hof a.S) (by decide)))) ea_nil) cd_tuple)) ?_
  have hol : (oddL (Srt.srt a.ns)).length ≤ 17 := by
    unfold oddL
    rw [List.length_append, List.length_append, List.length_append]
    split
    · show 10 + 5 + 1 + 1 ≤ 17; decide
    · show 10 + 5 + 1 + 0 ≤ 17; decide
  refine sb_seq (sb_if (b := false) (ET.cast (et_test (ed_cb (ea_cons (ed_lc0 (xs := oddL (Srt.srt a.ns)) (d := fun R => R) (f := fun _ => blD false) (ei_list (ED.cast (ed_callP (α := List Str) (Srt.srt a.ns) (ea_cons (ed_var rfl) ea_nil) (by rw [Srt.length_srt]; omega)) (by rw [List.map_id'']; intro x; rfl))) (fun R _ => gd_name) (fun R hR => ed_callP (α := IcA) ⟨a.cn false, R, false⟩ (ea_cons (ed_var rfl) (ea_cons (ed_var rfl) (ea_cons (ed_op (ed_var rfl) ed_c (od_ixT (i := 0) rfl)) (ea_cons (ed_var rfl) (ea_cons (ed_var rfl) ea_nil))))) ⟨h.okCn false, h.big, odd_arg h hR⟩) (by decide) (by omega)) ea_nil) (cd_anyM (f := fun _ => false)))) (any_false fun _ _ => rfl)) (fun z => nomatch z) fun _ => sb_next) ?_
  exact sb_ret (R := blD (anyC a.c)) (ED.cast (ed_op (ed_var rfl) (ed_lst ea_nil) (od_neD datF dat0 shF rfl)) (by rw [eqv0, hany]))
end
end Pr
/-! RulP -/
/-! sorted of a list of pairs of texts. -/
namespace Rb
open PySem PySem.Spec PyProof PyProof.Rows L2
abbrev S2 := Str × Str
def ltS (a b : Str) : Bool := ltCps a.cps.toList b.cps.toList
/-- by the first, then by the second -/
def lexS (p q : S2) : Bool := if p.1 = q.1 then ltS p.2 q.2 else ltS p.1 q.1
def leP (p q : S2) : Prop := lexS q p = false
theorem leP_iff {p q : S2} : leP p q ↔ (p.1 = q.1 ∧ _root_.Srt.le p.2 q.2) ∨ (p.1 ≠ q.1 ∧ _root_.Srt.le p.1 q.1) := by
  unfold leP lexS
  by_cases e : q.1 = p.1
  · rw [if_pos e]
    exact ⟨fun h => .inl ⟨e.symm, h⟩, fun h => h.elim (fun z => z.2) fun z => absurd e.symm z.1⟩
  · rw [if_neg e]
    exact ⟨fun h => .inr ⟨fun z => e z.symm, h⟩, fun h => h.elim (fun z => absurd z.1.symm e) fun z => z.2⟩
theorem leP_trans {p q r : S2} (h1 : leP p q) (h2 : leP q r) : leP p r := by
  rw [leP_iff] at h1 h2 ⊢
  rcases h1 with ⟨a1, b1⟩ | ⟨a1, b1⟩
  · rcases h2 with ⟨a2, b2⟩ | ⟨a2, b2⟩
    · exact .inl ⟨a1.trans a2, _root_.Srt.le_trans b1 b2⟩
    · exact .inr ⟨by rw [a1]; exact a2, by rw [a1]; exact b2⟩
  · rcases h2 with ⟨a2, b2⟩ | ⟨a2, b2⟩
    · exact .inr ⟨by rw [← a2]; exact a1, by rw [← a2]; exact b1⟩
    · refine .inr ⟨fun z => a1 ?_, _root_.Srt.le_trans b1 b2⟩
      rw [← z] at b2
      exact _root_.Srt.le_anti b1 b2
theorem leP_anti {p q : S2} (h1 : leP p q) (h2 : leP q p) : p = q := by
  rw [leP_iff] at h1 h2
  obtain ⟨a, b⟩ := p
  obtain ⟨c, d⟩ := q
  dsimp only at h1 h2
  rcases h1 with ⟨a1, b1⟩ | ⟨a1, b1⟩
  · rcases h2 with ⟨a2, b2⟩ | ⟨a2, b2⟩
    · rw [a1, _root_.Srt.le_anti b1 b2]
    · exact absurd a1.symm a2
  · rcases h2 with ⟨a2, b2⟩ | ⟨a2, b2⟩
    · exact absurd a2.symm a1
    · exact absurd (_root_.Srt.le_anti b1 b2) a1
theorem leP_refl (p : S2) : leP p p := leP_iff.mpr (.inl ⟨rfl, _root_.Srt.le_refl _⟩)
theorem swo_lexS {α : Type} (k : α → S2) : SrtO.Swo fun v u => lexS (k v) (k u) := by
  refine ⟨fun x y h => ?_, fun x y z h1 h2 => leP_trans h1 h2⟩
  unfold lexS at h ⊢
  by_cases e : (k x).1 = (k y).1
  · rw [if_pos e] at h
    rw [if_pos e.symm]
    exact _root_.Srt.lt_asymm h
  · rw [if_neg e] at h
    rw [if_neg fun z => e z.symm]
    exact _root_.Srt.lt_asymm h
def TwoS (h : Heap) (v : Value) (z : S2) : Prop := ∃ a o t u n, v = .ref a ∧ h.get? a = some o ∧ o.cls = .type "tuple" ∧ o.data = .seq #[.str z.1 t, .str z.2 u] n
theorem TwoS.keep {h h' : Heap} {v : Value} {z : S2} (p : TwoS h v z) (k : ∀ b o, h.get? b = some o → o.cls = .type "tuple" → h'.get? b = some o) : TwoS h' v z := by
  obtain ⟨a, o, t, u, n, ev, ho, hc, hd⟩ := p
  exact ⟨a, o, t, u, n, ev, k a o ho hc, hc, hd⟩
theorem heads_of {h : Heap} {k : Value → S2} : ∀ {vs : List Value}, (∀ v ∈ vs, TwoS h v (k v)) → ∃ fs : List Value, PySem.W.KatTups h vs fs ∧ fs.length = vs.length ∧ ∀ f ∈ fs, ∃ x t, f = Value.str x t
  | [], _ => ⟨[], PySem.W.KatTups.nil, rfl, fun _ z => by cases z⟩
  | v :: vs, hp => by
    obtain ⟨fs, h1, h2, h3⟩ := heads_of (vs := vs) fun v' m => hp v' (List.mem_cons_of_mem _ m)
    obtain ⟨a, o, t, u, n, ev, ho, hc, hd⟩ := hp v List.mem_cons_self
    subst ev
    refine ⟨.str (k (.ref a)).1 t :: fs, PySem.W.KatTups.cons ho hc hd rfl h1, by rw [List.length_cons, List.length_cons, h2], fun f m => ?_⟩
    rcases List.mem_cons.mp m with z | m
    · exact ⟨_, t, z⟩
    · exact h3 f m
section
variable {prog : Program} {w : World} {A : Around} {s : Shared} {E : Value → Shared → Prop}
theorem two_cmp {vs : List Value} {k : Value → S2} (hp : ∀ v ∈ vs, TwoS s.heap v (k v)) : SrtO.Cmp prog w A s (tuples' true) (fun p => p.1 ∈ vs) (SrtO.lt2 fun v u => lexS (k v) (k u)) := by
  intro p q m1 m2
  have h1 := hp _ m1
  have h2 := hp _ m2
  show wpAny (model prog w) A (keyLt' (tuples' true) p.1 q.1) (fun r s' => s' = s ∧ r = lexS (k p.1) (k q.1)) (fun _ _ => False) s
  unfold lexS ltS
  generalize (k p.1) = z1 at h1 ⊢
  generalize (k q.1) = z2 at h2 ⊢
  obtain ⟨x, y⟩ := z1
  obtain ⟨x', y'⟩ := z2
  obtain ⟨a, o, t, u, n, ev, ho, hc, hd⟩ := h1
  obtain ⟨a', o', t', u', n', ev', ho', hc', hd'⟩ := h2
  rw [ev, ev']
  dsimp only at hd hd' ⊢
  rw [← lt_meets, ← lt_meets]
  refine PySem.W.kat_lt ho hd ho' hd' ?_
  show PySem.W.KatLex prog w A true (decide (2 < 2)) _ [(.str x t, .str x' t'), (.str y u, .str y' u')] 0 s
  refine PySem.W.kat_cons (SeqAt.EqAt.str_str x t x' t' prog w _ _ ?_)
  refine PySem.W.kat_go (fun c1 => ?_) (fun c1 => ?_)
  · have ex : x = x' := by simpa using c1
    rw [if_pos ex]
    refine PySem.W.kat_yes (PySem.W.kat_cons (SeqAt.EqAt.str_str y u y' u' prog w _ _ ?_))
    refine PySem.W.kat_go (fun c2 => ?_) (fun c2 => ?_)
    · have ey : y = y' := by simpa using c2
      refine PySem.W.kat_yes (PySem.W.kat_nil ⟨rfl, ?_⟩)
      rw [ey, lt_meets, _root_.Srt.lt_irr]
      rfl
    · refine PySem.W.kat_no (PySem.W.kat_one _ _ (PyProof.Rows.lt_str ?_))
      exact ⟨rfl, rfl⟩
  · have ex : ¬ x = x' := by simpa using c1
    rw [if_neg ex]
    exact PySem.W.kat_no (oneLt_str ⟨rfl, rfl⟩)
theorem two_sortable {a : Addr} {vs : List Value} {k : Value → S2} (h0 : 0 < vs.length) (hp : ∀ v ∈ vs, TwoS s.heap v (k v)) (ha : ∀ o, s.heap.get? a = some o → o.cls ≠ .type "tuple") : SrtO.SortableO prog w A s a vs fun v u => lexS (k v) (k u) := by
  intro h' keep
  have hp' : ∀ v ∈ vs, TwoS h' v (k v) := fun v m => (hp v m).keep fun b o ho c => keep b o (fun z => by subst z; exact ha o ho c) ho
  obtain ⟨fs, h1, h2, h3⟩ := heads_of hp'
  refine ⟨tuples' true, fun Q E hq => ?_, two_cmp hp'⟩
  refine PySem.W.kat_kind (T := .type "str") h1 (by omega) (fun f m => ?_) (by rfl) ?_
  · obtain ⟨x, t, z⟩ := h3 f m
    subst z
    exact PySem.W.Looks.now
  · rw [show (Value.type "str" != Value.type "tuple") = true from by decide +kernel]
    exact hq
theorem sorted_twos {l : Addr} {vs : List Value} {k : Value → S2} {Q : Value → Shared → Prop} (hl : s.heap.IsList l vs.toArray) (hz : vs.length ≤ sizeLine) (hp : ∀ v ∈ vs, TwoS s.heap v (k v))
    (h : ∀ (h' : Heap) (d : Addr) (out : List Value), out.Pairwise (fun v u => leP (k v) (k u)) → out.Perm vs → (∀ b o, s.heap.get? b = some o → h'.get? b = some o) → s.heap.objs.size ≤ d → (∃ n, h'.get? d = some (seqObj "list" out.toArray n)) → Q (.ref d) { s with heap := h' }) :
    wpAny (model prog w) A (call (.builtin "sorted") [.ref l]) Q E s := by
  refine SrtO.sorted_ord (swo_lexS k) hl hz (fun h2 h₁ a ha kk => ?_) fun out hs hb => ?_
  · refine two_sortable (s := { s with heap := h₁ }) (by omega) (fun v m => (hp v m).keep fun b o ho _ => (kk b o ho).2) fun o ho c => ?_
    have e' : some o = some (seqObj "list" vs.toArray 0) := ho.symm.trans ha
    cases e'
    exact absurd (Value.type.inj c) (by decide)
  · exact h _ _ out hs hb.perm (fun b o ho => sortedAll_old ho) (Nat.le_succ _) (sortedAll_at s.heap vs out.toArray)
end
section
variable {X : Cx} {K : PySem.W.Frag}
def rSortedPS (K : PySem.W.Frag) : List V → Hp → VK → Prop := fun vs H Q => ∃ (a : Addr) (xs : List V) (k : V → S2), vs = [V.ref a] ∧ SqL K H a xs ∧ (∀ x ∈ xs, ∃ t, x = V.ref t ∧ H t = some (.tup [.str (k x).1, .str (k x).2])) ∧
  ∀ ys p, ys.Perm xs → ys.Pairwise (fun v u => leP (k v) (k u)) → H p = none → Q (.ref p) (upd H p (.lst ys))
theorem cr_sortedPSK (hK : X.K = K := by rfl) : CallR X (.builtin "sorted") (rSortedPS K) := by
  subst hK
  intro pins s σ H vs us Q I r h
  obtain ⟨a, xs, k, rfl, hs, hx, q⟩ := h
  obtain ⟨its, rv, hl, hz⟩ := I.list hs
  rw [Vals.ref1 r]
  obtain ⟨e1, e2⟩ := refs_back rv fun x m => (hx x m).imp fun t z => z.1
  refine sorted_twos (k := fun u => k (backV u)) hl.isList (by rw [← rv.length]; exact hz) (fun v hv => ?_) fun h' d out h1 h2 kp hd hn => ?_
  · obtain ⟨t, rfl⟩ := e2 v hv
    have hm : V.ref t ∈ xs := by rw [e1]; exact List.mem_map.mpr ⟨_, hv, rfl⟩
    obtain ⟨t', z, ht⟩ := hx _ hm
    cases z
    obtain ⟨_, its2, r2, o, ho, hc, n, hd⟩ := I.hok _ _ ht
    obtain ⟨u1, u2, rfl, ri, rj⟩ := vals2 r2
    obtain ⟨t1, rfl⟩ := ri
    obtain ⟨t2, rfl⟩ := rj
    exact ⟨t, o, t1, t2, n, rfl, ho, hc, hd⟩
  · have h3 : ∀ u ∈ out, ∃ a, u = Value.ref a := fun u hu => e2 u (h2.mem_iff.mp hu)
    obtain ⟨n, hn⟩ := hn
    have hb : (out.map backV).Perm xs := by rw [e1]; exact h2.map backV
    refine ⟨.ref d, upd H d (.lst (out.map backV)), I.laid (t' := s.toks) kp hd ⟨?_, out, n, vals_back h3, hn⟩, rfl, q _ d hb (List.pairwise_map.mpr h1) (I.hok.fresh hd)⟩
    rw [hb.length_eq]
    exact hz
end
end Rb
/-! DQ -/
/-! A for over states told by more than slots; sorted pairs. -/
namespace Dn
open PySem PySem.Spec PyProof.Rows L2
section
variable {K : PySem.W.Frag} {Os : Own} {Γ : Ctx} {te ta tb : TE} {t u : TT} {A B R : Den} {gt : TG} {wi : TI} {sa : TS} {N : Own → Ctx → Prop} {O : Own → Den → Prop}
theorem sb_forE {α : Type} {xs : List α} {d : α → Den} (I : List α → Own → Ctx → Prop) (hi : EI Os wi Γ (· = xs.map d)) (i0 : I [] Os Γ)
    (hs : ∀ pre x post, xs = pre ++ x :: post → ∀ o g, I pre o g → ∃ Γ1 is, GD gt g (d x) Γ1 is ∧ SB o sa Γ1 (fun o' g' => ∃ g2, I (pre ++ [x]) o' g2 ∧ Less g2 g') O) (hn : ∀ o g, I xs o g → N o g) : SB Os (tFor wi gt sa) Γ N O := fun σ H0 H D e s w q r =>
  hi σ H0 H e s w _ fun J H1 H1' Rs hR g1 it => by
    refine ⟨fun i m σ H => m = xs.length - i ∧ i ≤ xs.length ∧ ∃ o g H2, I (xs.take i) o g ∧ Grow Os H1 H1' o H2 H ∧ Env H2 g σ, ⟨_, rfl, Nat.zero_le _, Os, Γ, H1, by rw [List.take_zero]; exact i0, .refl g1.sub g1.ow, e.mono g1.s0⟩, ?_⟩
    rintro i m σ2 H2' ⟨rfl, hle, o, g, H2, hI, g2, e2⟩
    obtain ⟨go, stop, yld⟩ := it H2 H2' g2.s0 g2.sub
    rw [hR, List.length_map] at go stop
    by_cases hlt : i < xs.length
    · have tk : xs.take (i + 1) = xs.take i ++ [xs[i]] := by rw [List.take_add_one, List.getElem?_eq_getElem hlt] <;> rfl
      have sp : xs = xs.take i ++ xs[i] :: xs.drop (i + 1) := by rw [List.getElem_cons_drop, List.take_append_drop]
      refine .inr ⟨go i hlt, fun σ' H' => ∃ o g H3, I (xs.take (i + 1)) o g ∧ Grow Os H1 H1' o H3 H' ∧ Env H3 g σ', fun σ' H' ⟨o, g, H3, h1, g3, e3⟩ => ⟨_, Nat.sub_lt_sub_left hlt (Nat.lt_succ_self i), rfl, hlt, o, g, H3, h1, g3, e3⟩, fun x H3' hy => ?_⟩
      have hRi : Rs[i]? = some (d xs[i]) := by rw [hR, List.getElem?_map, List.getElem?_eq_getElem hlt] <;> rfl
      obtain ⟨H3, g3, hx⟩ := yld i x H3' hy _ hRi
      obtain ⟨Γ1, is, hg, hb⟩ := hs _ _ _ sp o g hI
      have g3u := g3.up g2.ow
      refine hg σ2 H3 H3' x (e2.mono g3.s0) g3.sub hx _ fun σ4 H4 H4' g4 e4 _ => ?_
      have g24 := g2.trans (g3u.trans (g4.up g3u.ow))
      refine hb σ4 H4 H4' _ e4 g4.sub g24.ow (fun Os' Γ' m σ5 H5 H5' g5 e5 => ?_) fun Os' R' m v H5 H5' g5 hv => r Os' R' m v H5 H5' (g1.trans (g24.trans g5)) hv
      obtain ⟨z, m1, m3⟩ := m
      rw [tk]
      exact ⟨Os', z, H5, m1, g24.trans g5, e5.less m3⟩
    · have ei : i = xs.length := by omega
      subst ei
      rw [List.take_length] at hI
      exact .inl ⟨stop, q _ _ (hn o g hI) σ2 H2 H2' (g1.trans g2) e2⟩
theorem en_of {b : Bool} (h : ET Os t Γ b) : EN Os t Γ := fun σ H0 H e s w Q q => h σ H0 H e s w Q fun H1 H1' g => q b H1 H1' g
theorem en_and (h1 : EN Os t Γ) (h2 : EN Os u Γ) : EN Os (tAnd t u) Γ := fun σ H0 H e s w Q q => h1 σ H0 H e s w _ fun c H1 H1' g => by
  cases c with
  | true =>
    show u σ H1' Q
    exact h2 σ H1 H1' (e.mono g.s0) g.sub g.ow Q fun b H2 H2' g2 => q b H2 H2' (g.trans g2)
  | false =>
    show Q false H1'
    exact q false H1 H1' g
theorem notN_bl {b : Bool} : notN (blD b) := fun H v h z => by rw [show v = _ from h] at z; cases z
theorem SB.exit {N' : Own → Ctx → Prop} (h : SB Os sa Γ N' O) (hn : ∀ o g, N' o g → ∃ g2, N o g2 ∧ Less g2 g) : SB Os sa Γ N O := SB.close h fun o g m => by
  obtain ⟨g2, h1, h2⟩ := hn o g m
  exact ⟨o, g2, h1, h2, fun b hb => hb, fun _ _ w => w⟩
end
/-! ### sorted pairs -/
def kOf (H : Hp) : V → Rb.S2
  | .ref t => match H t with
    | some (.tup [.str a, .str b]) => (a, b)
    | _ => ("", "")
  | _ => ("", "")
section
variable {K : PySem.W.Frag}
abbrev twoD (p : Str × Str) : Den := tupD [strD p.1, strD p.2]
theorem two_of {H : Hp} {p : Str × Str} {v : V} (h : (twoD p).p H v) : ∃ t, v = .ref t ∧ H t = some (.tup [.str p.1, .str p.2]) := by
  obtain ⟨a, vs, e, ha, hf⟩ := h
  cases hf with
  | cons r1 t1 => cases t1 with
    | cons r2 t2 =>
      cases t2
      rw [show _ = V.str p.1 from r1, show _ = V.str p.2 from r2] at ha
      exact ⟨a, e, ha⟩
theorem two_k {H : Hp} {p : Str × Str} {v : V} (h : (twoD p).p H v) : kOf H v = p := by
  obtain ⟨t, e, ht⟩ := two_of h
  subst e
  show (match H t with
    | some (.tup [.str a, .str b]) => (a, b)
    | _ => (("" : Str), ("" : Str))) = p
  rw [ht]
theorem twos_k {H : Hp} : ∀ {ps : List (Str × Str)} {vs : List V}, Fits H (ps.map twoD) vs → vs.map (kOf H) = ps
  | [], _, h => by cases h; rfl
  | p :: ps, _, h => by
    cases h with
    | cons r t => rw [List.map_cons, two_k r, twos_k t]
theorem twos_at {H : Hp} : ∀ {ps : List (Str × Str)} {vs : List V}, Fits H (ps.map twoD) vs → ∀ v, v ∈ vs → (twoD (kOf H v)).p H v
  | [], _, h => fun v hv => by cases h; cases hv
  | p :: ps, _, h => fun v hv => by
    cases h with
    | cons r t =>
      rcases List.mem_cons.mp hv with e | m
      · subst e; rw [two_k r]; exact r
      · exact twos_at t v m
theorem fits_all {H : Hp} {f : V → Den} : ∀ {vs : List V}, (∀ v, v ∈ vs → (f v).p H v) → Fits H (vs.map f) vs
  | [], _ => .nil
  | v :: vs, h => .cons (h v List.mem_cons_self) (fits_all fun u hu => h u (List.mem_cons_of_mem _ hu))
theorem cd_sortedPS {ps : List (Str × Str)} : CD (Rb.rSortedPS K) [lstD (ps.map twoD)] (exD (fun l : List (Str × Str) => l.Perm ps ∧ l.Pairwise Rb.leP) fun l => lstD (l.map twoD)) := fun H0 H vs s hf Q q => by
  cases hf with
  | cons r1 t1 =>
    cases t1
    obtain ⟨a, us, e, h, hf⟩ := r1
    subst e
    refine ⟨a, us, kOf H0, rfl, .of (s _ _ h), fun x hx => ?_, fun ys p hp hs hn => ?_⟩
    · obtain ⟨t, e, ht⟩ := two_of (twos_at hf x hx)
      exact ⟨t, e, s _ _ ht⟩
    · refine q _ _ _ (.new0 s hn) ⟨ys.map (kOf H0), ⟨by rw [← twos_k hf]; exact hp.map _, List.pairwise_map.mpr hs⟩, p, ys, rfl, upd_same, ?_⟩
      rw [List.map_map]
      exact fits_all fun v hv => (twoD _).mono (same_upd (s.free hn)) (twos_at hf v (hp.mem_iff.mp hv))
end
end Dn
/-! QC -/
/-! Plain: what is read of a Told is sorted; what fits. -/
namespace Pr
open PySem PySem.Spec PyProof.Rows L2 Dn Rb Fl
theorem one_sorted {α : Type} {R : α → α → Prop} (rf : ∀ x, R x x) (an : ∀ x y, R x y → R y x → x = y) : ∀ {l m : List α}, l.Perm m → l.Pairwise R → m.Pairwise R → l = m
  | [], m, h, _, _ => (List.nil_perm.mp h).symm
  | a :: l, [], h, _, _ => by have := h.length_eq; simp at this
  | a :: l, b :: m, h, p1, p2 => by
    obtain ⟨q1, r1⟩ := List.pairwise_cons.mp p1
    obtain ⟨q2, r2⟩ := List.pairwise_cons.mp p2
    have hab : R a b := (List.mem_cons.mp (h.symm.subset List.mem_cons_self)).elim (fun z => z ▸ rf _) (q1 b)
    have hba : R b a := (List.mem_cons.mp (h.subset List.mem_cons_self)).elim (fun z => z ▸ rf _) (q2 a)
    have z := an a b hab hba
    subst z
    rw [one_sorted rf an ((List.perm_cons a).mp h) r1 r2]
theorem uq_le (l : List Str) : (uq l).Pairwise Srt.le := Srt.srt_pw _
theorem prods_pw (l : List Pr2) : (prods l).Pairwise leP := by
  unfold prods
  rw [List.pairwise_flatMap]
  refine ⟨fun a _ => List.pairwise_map.mpr (((uq_le _).filter _).imp fun {x y} h => (show leP (a, x) (a, y) from leP_iff.mpr (.inl ⟨rfl, h⟩))), ?_⟩
  have nd : (uq (l.map (·.1))).Nodup := nodup_uq _
  unfold List.Nodup at nd
  refine List.Pairwise.imp (R := fun a b => Srt.le a b ∧ a ≠ b) (fun {a b} h => ?_) ((uq_le (l.map (·.1))).and nd)
  intro x hx y hy
  obtain ⟨u, _, e1⟩ := List.mem_map.mp hx
  obtain ⟨v, _, e2⟩ := List.mem_map.mp hy
  rw [← e1, ← e2]
  exact leP_iff.mpr (.inr ⟨h.2, h.1⟩)
theorem prods_perm {l : List Pr2} (h : l.Nodup) : (prods l).Perm l := (List.perm_ext_iff_of_nodup (nodup_prods l) h).mpr fun _ => mem_prods
theorem prods_one {l m : List Pr2} (h : l.Nodup) (hm : m.Perm l) (hs : m.Pairwise leP) : prods l = m := one_sorted leP_refl (fun _ _ => leP_anti) ((prods_perm h).trans hm.symm) (prods_pw l) hs
/-! what fits -/
noncomputable def hcI (t : ToA) (cs : Cs) (k : Str) (es : List Bool) : Bool := es.any fun e => anyC (cutA ⟨t, cs, k, e⟩)
noncomputable def hcL (t : ToA) (cs : Cs) (ls : List (Str × Ends4)) : Bool := ls.any fun q => hcI t cs q.1 [false, true]
theorem hcI_snoc (t : ToA) (cs : Cs) (k : Str) (es : List Bool) (e : Bool) : hcI t cs k (es ++ [e]) = (hcI t cs k es || anyC (cutA ⟨t, cs, k, e⟩)) := by
  unfold hcI
  rw [List.any_append, List.any_cons, List.any_nil, Bool.or_false]
theorem hcL_snoc (t : ToA) (cs : Cs) (ls : List (Str × Ends4)) (q : Str × Ends4) : hcL t cs (ls ++ [q]) = (hcL t cs ls || hcI t cs q.1 [false, true]) := by
  unfold hcL
  rw [List.any_append, List.any_cons, List.any_nil, Bool.or_false]
theorem all_not {α : Type} (f : α → Bool) : ∀ l : List α, (l.all fun x => !f x) = !l.any f
  | [] => rfl
  | x :: l => by rw [List.all_cons, List.any_cons, all_not f l, Bool.not_or]
theorem fits_eq (t : ToA) (cs : Cs) : fitsB t cs = (!hcL t cs t.mo.2 && !pastB t) := by
  have e : (((srtL t.mo.2).map (·.1)).all fun k => [false, true].all fun e => !anyC (cutA ⟨t, cs, k, e⟩)) = !hcL t cs t.mo.2 := by
    have e1 : (fun k => [false, true].all fun e => !anyC (cutA ⟨t, cs, k, e⟩)) = fun k => !hcI t cs k [false, true] := funext fun k => by
      unfold hcI
      rw [all_not]
    rw [e1, all_not]
    congr 1
    have e2 : hcL t cs t.mo.2 = (t.mo.2.map (·.1)).any fun k => hcI t cs k [false, true] := by
      unfold hcL
      rw [List.any_map]
      rfl
    rw [e2, Bool.eq_iff_iff, List.any_eq_true, List.any_eq_true]
    exact exists_congr fun k => and_congr_left fun _ => mem_srtL
  unfold fitsB
  rw [e]
  exact Bool.and_comm _ _
end Pr
/-! WB -/
namespace Pr
open PySem PySem.Spec PyProof.Rows L2 Dn Rb Fl
/-- the wishes, the counts -/
def WishP (ks : List Str) (cs : Cs) : Prop := cs.map (·.1) = ks ∧ ∀ p, p ∈ cs → 0 ≤ p.2
def CountP (ps : List Pr2) (pre : List Str) (cs : Cs) : Prop := cs.map (·.1) = pre ∧ ∀ p, p ∈ cs → (((namesOf ps p.1).length : Nat) : Int) ≤ p.2 ∧ p.2 ≤ ((namesOf ps p.1).length : Nat) + 10 ^ 40
abbrev dctC (cs : Cs) : List (Key × Den) := cs.map fun p => (Sum.inr p.1, intD p.2)
theorem wish_cc {f : MoA} (h : FrameP f) {cs : Cs} (w : WishP f.1 cs) : okCc ⟨f, cs, false⟩ := ⟨h.mo, ⟨fun z => h.mo.ne (by rw [← w.1, show cs = [] from z]; rfl), by
    have := congrArg List.length w.1
    rw [List.length_map] at this
    have := h.mo.le
    show cs.length ≤ 60
    omega, by rw [w.1]; exact h.mo.nd, fun p hp => h.mo.nm _ (by rw [← w.1]; exact List.mem_map.mpr ⟨p, hp, rfl⟩), w.2⟩, by dsimp only; rw [w.1]⟩
structure RiA where
  f : MoA
  ps : List Pr2
structure okRi (a : RiA) : Prop where
  fr : FrameP a.f
  pp : PeopleP a.f.1 a.ps
theorem okRi.en {a : RiA} (h : okRi a) {prs : List (Str × List Pr2)} {t : ToA} {cs : Cs} (hp : PairsP a.f.2 a.ps prs) (hs : SaidP a.f a.ps prs t) (hc : CountP a.ps a.f.1 cs) {q : Str × Ends4} (hq : q ∈ a.f.2) (e : Bool) : okEn ⟨t, cs, ⟨a.f.2, a.ps, prs⟩, q, e⟩ where
  fr := by dsimp only; rw [hs.hmo]; exact h.fr
  ls := by dsimp only; rw [hs.hmo]
  pp := by dsimp only; rw [hs.hmo]; exact h.pp
  pr := hp
  sd := by dsimp only; rw [hs.hmo]; exact hs
  ck := by dsimp only; rw [hs.hmo]; exact hc.1
  cn := fun k hk => by
    dsimp only at hk ⊢
    rw [hs.hmo, ← hc.1] at hk
    obtain ⟨h1, h2⟩ := hc.2 _ (lk_mem hk)
    dsimp only at h1 h2
    have := h.pp.few k
    omega
  q := hq
theorem SaidP.wish {f : MoA} {ps : List Pr2} {prs : List (Str × List Pr2)} {t : ToA} (h : SaidP f ps prs t) (ws : Cs) : SaidP f ps prs { t with ws := ws } := ⟨⟨h.ok.mo, h.ok.rnd, h.ok.rle, h.ok.rnm, h.ok.keys, h.ok.pnd, h.ok.pin⟩, h.hmo, h.hrows, h.hprs⟩
section
variable {P : Program} {w : World} {K : PySem.W.Frag} {mg : Str → Option Value} {base : Heap}
abbrev riG (r x : Addr) (a : RiA) (prs : List (Str × List Pr2)) : Dn.Ctx := [some (valD (.ref r)), some (prsD a.ps), some (prssD prs), none, some (strsD a.f.1), some (rowsD a.f.2), some (valD (.ref x)), some (scD ⟨a.f.2, a.ps, prs⟩), none, none, none, none, none, none, none, none]
/-- between two turns -/
def RiI (K : PySem.W.Frag) (r x : Addr) (a : RiA) (o : Own) (g : Dn.Ctx) : Prop := ∃ prs t, PairsP a.f.2 a.ps prs ∧ SaidP a.f a.ps prs t ∧ o = (x, toldO K t) :: rngP r ∧ g = riG r x a prs
abbrev r_l_right (K : PySem.W.Frag) : List Den → Own → Own → Den → Prop := ow (fun _ : Addr => True) (fun r => [valD (.ref r)]) (fun r => rngP r) (fun r => rngP r) (fun _ => blD true)
theorem ok_l_right (T : Txt K mg) : FnOk P w K mg base CX0 11 (a_l_right K) (fdOf K (a_l_right K)) ["_law_rng_here"] (DefSp (r_l_right K)) := by
  refine ow_ok (F_l_right T) sc_l_right (fun _ => rfl) fun cdv A outer s H E hr => ⟨_, PSs.nox (pss_cons (ps_asg (pe_call (ok_l_frame T) (hr.mono (by decide)) rfl (g_l_frame T) (F_l_frame T).kp (b_l_frame T) .nil pass0 (pa_cons (pv 0) (pa_cons pe_int pa_nil))) (pg_tupK (K := K) (n := 2) rfl (pgs_cons (pg_name (i := 4) sc_l_right.nd rfl (Or.inl rfl)) (pgs_cons (pg_name (i := 5) sc_l_right.nd rfl (Or.inl rfl)) pgs_nil))))
  (pss_cons (ps_set (i := 1) sc_l_right.nd rfl (Or.inl rfl) (pe_call (ok_l_people T) (hr.mono (by decide)) rfl (g_l_people T) (F_l_people T).kp (b_l_people T) .nil pass0 (pa_cons (pv 0) (pa_cons (pv 4) (pa_cons pe_int pa_nil)))))
  (pss_cons (ps_set (i := 2) sc_l_right.nd rfl (Or.inr rfl) (pe_call (ok_l_pairs T) (hr.mono (by decide)) rfl (g_l_pairs T) (F_l_pairs T).kp (b_l_pairs T) .nil pass0 (pa_cons (pv 0) (pa_cons (pv 5) (pa_cons (pv 1) pa_nil)))))
  (pss_cons (ps_asg (pe_tup (pa_cons (pe_call (ok_l_said T) (hr.mono (by decide)) rfl (g_l_said T) (F_l_said T).kp (b_l_said T) .nil pass0 (pa_cons (pe_call (ok_l_real T) (hr.mono (by decide)) rfl (g_l_real T) (F_l_real T).kp (b_l_real T) .nil pass0 (pa_cons (pv 4) (pa_cons (pv 5) pa_nil))) (pa_cons (pv 1) (pa_cons (pv 2) pa_nil)))) (pa_cons (pe_tup (pa_cons (pv 5) (pa_cons (pv 1) (pa_cons (pv 2) pa_nil)))) pa_nil))) (pg_tupK (K := K) (n := 2) rfl (pgs_cons (pg_name (i := 6) sc_l_right.nd rfl (Or.inr rfl)) (pgs_cons (pg_name (i := 7) sc_l_right.nd rfl (Or.inl rfl)) pgs_nil))))
  (pss_cons (ps_for PassesOwn.never rfl (pi_range1 rfl (z_range T) (pa_cons (pe_op op_add pe_int (pe_call (ok_l_draw T) (hr.mono (by decide)) rfl (g_l_draw T) (F_l_draw T).kp (b_l_draw T) .nil pass0 (pa_cons (pv 0) (pa_cons pe_int pa_nil)))) pa_nil)) (pg_name (i := 3) sc_l_right.nd rfl (Or.inl rfl))
  (pss_cons (ps_if (PW.pt (pw_and (pt_cmpR op_gt (pv 3) pe_int (nomark _)) (pw_and1 (pt_cmpR op_eq (pe_call (ok_l_draw T) (hr.mono (by decide)) rfl (g_l_draw T) (F_l_draw T).kp (b_l_draw T) .nil pass0 (pa_cons (pv 0) (pa_cons pe_int pa_nil))) pe_int (nomark _))))) (pss_cons (ps_set (i := 2) sc_l_right.nd rfl (Or.inr rfl) (pe_call (ok_l_pairs T) (hr.mono (by decide)) rfl (g_l_pairs T) (F_l_pairs T).kp (b_l_pairs T) .nil pass0 (pa_cons (pv 0) (pa_cons (pv 5) (pa_cons (pv 1) pa_nil)))))
  (pss_cons (ps_for PassesOwn.never rfl (pi_keys (pv 2)) (pg_name (i := 13) sc_l_right.nd rfl (Or.inl rfl))
  (pss_one (ps_asg (pe_dget (rm1 hr) (pv 2) (pv 13) (fun _ _ => rfl)) (pg_sub (pv 6) (pv 13) (set_own (oo_Told_setitem T) (nq_Told T) (ok_Told_setitem T) (hr.mono (by decide)) (b_Told_setitem T))))))
  (pss_one (ps_set (i := 7) sc_l_right.nd rfl (Or.inl rfl) (pe_tup (pa_cons (pv 5) (pa_cons (pv 1) (pa_cons (pv 2) pa_nil)))))))) pss_nil)
  (pss_cons (ps_expr (pe_meth (pv 6) (c_Told T) (m_Told_set_wished T) (ok_Told_set_wished T) (hr.mono (by decide)) (b_Told_set_wished T) .nil pass0 (pa_cons (pe_frz (pe_callTy (call_dictPK (K := K) rfl) (by rfl) (z_dict T) boot_dict (pa_cons (pe_lc (own := [("_law_name", 9)]) (by rfl) sc_l_right.nd (pi_listK (K := K) (pv 4)) (blkOk_by (N := n_l_right) (sc := defScope s_l_right) (by decide +kernel)) (fun _ _ _ _ _ => (pg_name (i := 9) sc_l_right.nd rfl (Or.inl rfl))) (fun _ _ _ _ _ => pts_nil) (fun _ _ _ _ _ => (pe_tup (pa_cons (pv 9) (pa_cons (pe_call (ok_l_choice T) (hr.mono (by decide)) rfl (g_l_choice T) (F_l_choice T).kp (b_l_choice T) .nil pass0 (pa_cons (pv 0) (pa_cons (pe_lst (pa_cons pe_int (pa_cons pe_int (pa_cons pe_int (pa_cons pe_int (pa_cons (pe_op op_pow pe_int pe_int) pa_nil)))))) pa_nil))) pa_nil))))) pa_nil))) pa_nil)))
  (pss_cons (ps_set (i := 8) sc_l_right.nd rfl (Or.inl rfl) pe_dnewK)
  (pss_cons (ps_for PassesOwn.never rfl (pi_listK (K := K) (pv 4)) (pg_name (i := 9) sc_l_right.nd rfl (Or.inl rfl))
  (pss_one (ps_dput (rm1 hr) (pv 8) (pv 9) (pe_op op_add (pe_callB (call_lenK (K := K)) (by rfl) (z_len T) boot_len (pa_cons (pe_call (ok_l_of T) (hr.mono (by decide)) rfl (g_l_of T) (F_l_of T).kp (b_l_of T) .nil pass0 (pa_cons (pv 1) (pa_cons (pv 9) pa_nil))) pa_nil)) (pe_call (ok_l_choice T) (hr.mono (by decide)) rfl (g_l_choice T) (F_l_choice T).kp (b_l_choice T) .nil pass0 (pa_cons (pv 0) (pa_cons (pe_lst (pa_cons pe_int (pa_cons pe_int (pa_cons pe_int (pa_cons pe_int (pa_cons pe_int (pa_cons pe_int (pa_cons (pe_op op_pow pe_int pe_int) pa_nil)))))))) pa_nil)))) rfl)))
  (pss_cons (ps_frzB 8 (ps_set (i := 10) sc_l_right.nd rfl (Or.inl rfl) pe_bl))
  (pss_cons (ps_for PassesOwn.never rfl (pi_listK (K := K) (pv 5)) (pg_name (i := 11) sc_l_right.nd rfl (Or.inl rfl))
  (pss_one (ps_for PassesOwn.never rfl (pi_listK (K := K) (pe_lst (pa_cons pe_str (pa_cons pe_str pa_nil)))) (pg_name (i := 14) sc_l_right.nd rfl (Or.inl rfl))
  (pss_cons (ps_set (i := 15) sc_l_right.nd rfl (Or.inl rfl) (pe_call (ok_l_end_has_cut T) (hr.mono (by decide)) rfl (g_l_end_has_cut T) (F_l_end_has_cut T).kp (b_l_end_has_cut T) .nil pass0 (pa_cons (pv 6) (pa_cons (pv 7) (pa_cons (pv 8) (pa_cons (pv 11) (pa_cons (pv 14) pa_nil)))))))
  (pss_cons (ps_if (pt_cmpR op_isN (pv 15) pe_non (nomark _)) (pss_one (ps_ret pe_bl)) pss_nil)
  (pss_one (ps_set (i := 10) sc_l_right.nd rfl (Or.inl rfl) (pe_or (pv 10) (pe_one (pv 15))))))))))
  (pss_cons (ps_set (i := 12) sc_l_right.nd rfl (Or.inl rfl) (pe_and (pe_not (pv 10)) (pe_one (pe_not (pe_call (ok_l_is_past T) (hr.mono (by decide)) rfl (g_l_is_past T) (F_l_is_past T).kp (b_l_is_past T) .nil pass0 (pa_cons (pv 5) (pa_cons (pv 1) (pa_cons (pv 2) pa_nil))))))))
  (pss_one (ps_if (PW.pt (pw_or (pt_cmpR op_ne (pe_call (ok_fits_sizes T) (hr.mono (by decide)) rfl (g_fits_sizes T) (F_fits_sizes T).kp (b_fits_sizes T) .nil pass0 (pa_cons (pv 6) (pa_cons (pv 8) pa_nil))) (pv 12) (nomark _)) (pw_or1 (pt_cmpR op_ne (pe_call (ok_fits_sizes T) (hr.mono (by decide)) rfl (g_fits_sizes T) (F_fits_sizes T).kp (b_fits_sizes T) .nil pass0 (pa_cons (pv 6) (pa_cons (pe_make (mk_Sizes T) (ok_Sizes_init T) (hr.mono (by decide)) rfl (g_Sizes T) (b_Sizes_init T) .nil pass0 (pa_cons (pv 8) pa_nil)) pa_nil))) (pv 12) (nomark _))))) (pss_one (ps_ret pe_bl)) pss_nil))))))))))
  (pss_one (ps_ret (pe_callB (cr_allK (K := K) rfl) (by rfl) (z_all T) boot_all (pa_cons (pe_lc (own := [("_law_row", 11)]) (by rfl) sc_l_right.nd (pi_listK (K := K) (pv 5)) (blkOk_by (N := n_l_right) (sc := defScope s_l_right) (by decide +kernel)) (fun _ _ _ _ _ => (pg_name (i := 11) sc_l_right.nd rfl (Or.inl rfl))) (fun _ _ _ _ _ => pts_nil) (fun _ _ _ _ _ => (pe_cmpR (op_eqDK (K := K) (rm64 hr)) (pe_ownGet (oo_Told_getitem T) (fi_Told_getitem T) (ok_Told_getitem T) (hr.mono (by decide)) (b_Told_getitem T) (pv 6) (pe_ix (ix_tupK (K := K)) (pv 11) pe_int (fun _ _ => rfl))) (pe_callB (cr_sortedPSK (K := K)) (by rfl) (z_sorted T) boot_sorted (pa_cons (pe_dget (rm1 hr) (pv 2) (pe_ix (ix_tupK (K := K)) (pv 11) pe_int (fun _ _ => rfl)) (fun _ _ => rfl)) pa_nil)) (nomark _)))) pa_nil))))))))), ?_⟩
  intro r _
  refine sb_seqG (M := fun o g => ∃ f, FrameP f ∧ o = rngP r ∧ g = (([some (valD (.ref r)), none, none, none, some (strsD f.1), some (rowsD f.2), none, none, none, none, none, none, none, none, none, none] : Dn.Ctx))) (sb_asgGX (P := FrameP) (F := frameD) (ed_call1P (α := Addr) r (ea_cons (ed_var rfl) (ea_cons ed_c ea_nil)) trivial rfl rfl List.mem_cons_self) (fun f _ => gd_tup2 gd_name gd_name) fun f hf => ⟨f, hf, rfl, rfl⟩) fun o g m => ?_
  obtain ⟨f, hf, rfl, rfl⟩ := m
  refine sb_seqG (M := fun o g => ∃ ps, PeopleP f.1 ps ∧ o = rngP r ∧ g = (([some (valD (.ref r)), some (prsD ps), none, none, some (strsD f.1), some (rowsD f.2), none, none, none, none, none, none, none, none, none, none] : Dn.Ctx))) (sb_asgX (P := PeopleP f.1) (F := prsD) (ed_call1P (α := Addr × List Str) (r, f.1) (ea_cons (ed_var rfl) (ea_cons (ed_var rfl) (ea_cons ed_c ea_nil))) hf.1 rfl rfl List.mem_cons_self) fun ps hps => ⟨ps, hps, rfl, rfl⟩) fun o g m => ?_
  obtain ⟨ps, hps, rfl, rfl⟩ := m
  have hfl : f.2.length ≤ 8 ∧ (f.2.map (·.1)).Nodup := ⟨hf.mo.lle, hf.mo.lnd⟩
  refine sb_seqG (M := fun o g => ∃ prs, PairsP f.2 ps prs ∧ o = rngP r ∧ g = (([some (valD (.ref r)), some (prsD ps), some (prssD prs), none, some (strsD f.1), some (rowsD f.2), none, none, none, none, none, none, none, none, none, none] : Dn.Ctx))) (sb_asgX (P := PairsP f.2 ps) (F := prssD) (ed_call1P (α := PaA) ⟨r, f.1, f.2, ps⟩ (ea_cons (ed_var rfl) (ea_cons (ed_var rfl) (ea_cons (ed_var rfl) ea_nil))) ⟨hfl, hps⟩ rfl rfl List.mem_cons_self) fun prs hprs => ⟨prs, hprs, rfl, rfl⟩) fun o g m => ?_
  obtain ⟨prs0, hprs0, rfl, rfl⟩ := m
  have hri : okRi ⟨f, ps⟩ := ⟨hf, hps⟩
  refine sb_seqG (M := fun o g => ∃ x, RiI K r x ⟨f, ps⟩ o g) (sb_tup2X (B := scD ⟨f.2, ps, prs0⟩) (ex_callNew (ea_cons (ed_callP (α := MoA) f (ea_cons (ed_var rfl) (ea_cons (ed_var rfl) ea_nil)) hf) (ea_cons (ed_var rfl) (ea_cons (ed_var rfl) ea_nil))) ⟨(⟨f, ps, prs0⟩ : SdA), ⟨hf.mo, hps, hprs0⟩, rfl, rfl, rfl⟩) (fun o r m => ed_tup (ea_cons (ed_var rfl) (ea_cons (ed_var rfl) (ea_cons (ed_var rfl) ea_nil)))) fun o d m => ?_) fun o g m => ?_
  · obtain ⟨o1, ⟨x, t, hs, rfl, rfl⟩, rfl⟩ := m
    exact ⟨x, prs0, t, hprs0, hs, rfl, rfl⟩
  obtain ⟨x, hI0⟩ := m
  refine sb_seqG (M := RiI K r x ⟨f, ps⟩) (sb_forR (P := fun n => 1 ≤ n ∧ (n : Int) ≤ 3) (ea_cons ?_ ea_nil) fun n hn => sb_forE (xs := List.range n) (d := fun i => intD (i : Nat)) (fun _ o g => RiI K r x ⟨f, ps⟩ o g) (ei_range (n := ((n : Nat) : Int)) (ea_cons ed_c ea_nil) (by omega) (by omega)) hI0 (fun pre i post sp o g hI => ⟨_, _, gd_name, ?_⟩) fun o g hI => hI) fun o g m => ?_
  · obtain ⟨prs, t, h1, h2, rfl, rfl⟩ := hI0
    exact ed_op ed_c (ed_draw (z := 3) (ea_cons (ed_var rfl) (ea_cons ed_c ea_nil)) ⟨by decide, by decide⟩ (List.mem_cons_of_mem _ List.mem_cons_self)) od_1pl
  · obtain ⟨prs1, t1, hp1, hs1, rfl, rfl⟩ := hI
    refine sb_seqG (M := fun o g => ∃ prs t, PairsP f.2 ps prs ∧ SaidP f ps prs t ∧ o = (x, toldO K t) :: rngP r ∧ g = (riG r x ⟨f, ps⟩ prs).set 3 (some (intD (i : Nat)))) (sb_ifN (en_and (en_of (et_test (ed_op (ed_var rfl) ed_c od_gt))) (en_test (ed_op (ed_draw (z := 2) (ea_cons (ed_var rfl) (ea_cons ed_c ea_nil)) ⟨by decide, by decide⟩ (List.mem_cons_of_mem _ List.mem_cons_self)) ed_c od_eqX))) ?_ (sb_next ⟨prs1, t1, hp1, hs1, rfl, rfl⟩)) fun o g m => ?_
    · refine sb_seqG (M := fun o g => ∃ prs, PairsP f.2 ps prs ∧ o = (x, toldO K t1) :: rngP r ∧ g = ((riG r x ⟨f, ps⟩ prs1).set 3 (some (intD (i : Nat)))).set 2 (some (prssD prs))) (sb_asgX (P := PairsP f.2 ps) (F := prssD) (ed_call1P (α := PaA) ⟨r, f.1, f.2, ps⟩ (ea_cons (ed_var rfl) (ea_cons (ed_var rfl) (ea_cons (ed_var rfl) ea_nil))) ⟨hfl, hps⟩ rfl rfl (List.mem_cons_of_mem _ List.mem_cons_self)) fun prs hprs => ⟨prs, hprs, rfl, rfl⟩) fun o g m => ?_
      obtain ⟨prs, hp2, rfl, rfl⟩ := m
      have hsd : okSd ⟨f, ps, prs⟩ := ⟨hf.mo, hps, hp2⟩
      refine sb_own (O2 := exO (SaidI f ps prs []) (toldO K)) (fun H o p => ⟨t1, ⟨⟨hs1.ok, hs1.hmo, hs1.hrows⟩, fun q z => nomatch z⟩, p⟩) ?_
      refine sb_seq (Os1 := (x, exO (SaidI f ps prs prs) (toldO K)) :: rngP r) (Γ1 := ((riG r x ⟨f, ps⟩ prs1).set 3 (some (intD (i : Nat)))).set 2 (some (prssD prs))) (sb_forP (xs := prs) (d := fun q => strD q.1) (Oz := fun pre => (x, exO (SaidI f ps prs pre) (toldO K)) :: rngP r) (Γs := fun _ => ((riG r x ⟨f, ps⟩ prs1).set 3 (some (intD (i : Nat)))).set 2 (some (prssD prs))) (ei_keysS (ed_var rfl)) rfl (fun _ => rfl) .refl (fun pre q post sp => ⟨_, _, gd_name, sb_putSaid hsd (by rw [sp]; exact List.mem_append_right _ List.mem_cons_self) rfl rfl rfl (.keep (.keep (.keep (.keep (.keep (.keep (.keep (.keep (.drop (.drop (.drop (.drop (.drop (.drop (.drop (.drop .nil))))))))))))))))⟩) ⟨rfl, rfl⟩) ?_
      exact sb_open fun t ht => sb_asg (A := scD ⟨f.2, ps, prs⟩) (ed_tup (ea_cons (ed_var rfl) (ea_cons (ed_var rfl) (ea_cons (ed_var rfl) ea_nil)))) ⟨prs, t, hp2, SaidI.all hsd ht, rfl, rfl⟩
    obtain ⟨prs, t, hp, hs, rfl, rfl⟩ := m
    -- the wishes
    refine sb_seqG (M := fun o g => ∃ t, SaidP f ps prs t ∧ o = (x, toldO K t) :: rngP r ∧ g = (riG r x ⟨f, ps⟩ prs).set 3 (some (intD (i : Nat)))) (sb_methOwnX (β := Cs) (P := WishP f.1) (F := fun cs => csD cs) (fs' := fun cs => toldF K { t with ws := cs }) (fun cs => (⟨x, t, cs, false⟩ : SwA)) (ed_var rfl) (ED.imp (ed_dictPX (ι := Cs) (P := WishP f.1) (xs := fun cs => cs) (key := fun p => Sum.inr p.1) (f := fun p => intD p.2) (ED.imp (ed_exs (xs := f.1) (P := fun _ j => j ∈ [(0 : Int), 0, 1, 9, 10 ^ 40]) (F := fun n j => tupD [strD n, intD j]) (ed_lc0 (xs := f.1) (d := fun n => strD n) (f := fun n => exD (fun j => j ∈ [(0 : Int), 0, 1, 9, 10 ^ 40]) fun j => tupD [strD n, intD j]) (ei_list (ed_var rfl)) (fun n _ => gd_name) (fun n _ => ED.imp (ed_tup (ea_cons (ed_var rfl) (ea_cons (ed_choice (xs := [(0 : Int), 0, 1, 9, 10 ^ 40]) (d := fun j => intD j) (ea_cons (ed_var rfl) (ea_cons (ed_ints (is := [(0 : Int), 0, 1, 9, 10 ^ 40]) (ea_cons ed_c (ea_cons ed_c (ea_cons ed_c (ea_cons ed_c (ea_cons (ed_op ed_c ed_c (od_pow (by unfold CPow; omega))) ea_nil))))) (by show 5 ≤ _; decide)) ea_nil)) ⟨by simp, by show 5 ≤ _; decide⟩ (List.mem_cons_of_mem _ List.mem_cons_self)) ea_nil))) fun H v hv => ?_) (by decide) (by have := hf.1.1.2; omega))) fun H v hv => ?_) fun cs hcs => ?_) fun H v hv => hv) (fun cs hcs => ⟨?_, rfl, rfl, rfl⟩) fun cs hcs => ⟨_, hs.wish cs, rfl, rfl⟩) fun o g m => ?_
    · obtain ⟨b, us, e, ha, hfit⟩ := hv
      cases hfit with
      | cons r1 t1 => cases t1 with
        | cons r2 t2 =>
          cases t2
          obtain ⟨j, hj, r2⟩ := r2
          exact ⟨j, hj, b, _, e, ha, .cons r1 (.cons r2 .nil)⟩
    · obtain ⟨ys, ⟨y1, y2⟩, hv⟩ := hv
      exact ⟨ys, ⟨y1, fun p hp => by
        have := y2 p hp
        simp at this
        omega⟩, hv⟩
    · have e : cs.map (fun p => (Sum.inr p.1 : Key)) = (cs.map (·.1)).map Sum.inr := by rw [List.map_map]; rfl
      rw [e, hcs.1]
      exact nodup_inr hf.mo.nd
    · have e : (⟨t.mo, cs, false⟩ : CcA) = ⟨f, cs, false⟩ := by rw [hs.hmo]
      show okCc ⟨t.mo, cs, false⟩
      rw [e]
      exact wish_cc hf hcs
    clear hs
    obtain ⟨t, hs, rfl, rfl⟩ := m
    -- the counts
    refine sb_seqG (M := fun o g => ∃ b, o = (b, dctO .dK []) :: (x, toldO K t) :: rngP r ∧ g = ((riG r x ⟨f, ps⟩ prs).set 3 (some (intD (i : Nat)))).set 8 (some (valD (.ref b)))) (sb_newK fun b => ⟨b, rfl, rfl⟩) fun o g m => ?_
    obtain ⟨b, rfl, rfl⟩ := m
    refine sb_own (O2 := exO (CountP ps []) fun cs => dctO .dK (dctC cs)) (fun H o p => ⟨[], ⟨rfl, fun q z => nomatch z⟩, p⟩) ?_
    refine sb_seq (Os1 := (b, exO (CountP ps f.1) fun cs => dctO .dK (dctC cs)) :: (x, toldO K t) :: rngP r) (Γ1 := ((riG r x ⟨f, ps⟩ prs).set 3 (some (intD (i : Nat)))).set 8 (some (valD (.ref b)))) (sb_forP (xs := f.1) (d := fun n => strD n) (Oz := fun pre => (b, exO (CountP ps pre) fun cs => dctO .dK (dctC cs)) :: (x, toldO K t) :: rngP r) (Γs := fun _ => ((riG r x ⟨f, ps⟩ prs).set 3 (some (intD (i : Nat)))).set 8 (some (valD (.ref b)))) (ei_list (ed_var rfl)) rfl (fun _ => rfl) .refl (fun pre n post sp => ⟨_, _, gd_name, ?_⟩) ⟨rfl, rfl⟩) ?_
    · have hpl : pre.length < 3 := by
        have h1 := congrArg List.length sp
        have h2 := hf.1.1.2
        rw [List.length_append, List.length_cons] at h1
        omega
      have hpn := hps.le
      refine sb_open fun cs hcs => ?_
      have hcl : cs.length = pre.length := by rw [← hcs.1, List.length_map]
      refine SB.exO2 (P := fun v : Int => (((namesOf ps n).length : Nat) : Int) ≤ v ∧ v ≤ ((namesOf ps n).length : Nat) + 10 ^ 40) (F := fun v => dctO .dK (dctC cs ++ [(Sum.inr n, intD v)])) (Γ2 := (((riG r x ⟨f, ps⟩ prs).set 3 (some (intD (i : Nat)))).set 8 (some (valD (.ref b)))).set 9 (some (strD n))) (sb_dputKX (ed_op (ed_cb (ea_cons (ed_callP (α := List Pr2 × Str) (ps, n) (ea_cons (ed_var rfl) (ea_cons (ed_var rfl) ea_nil)) (by dsimp only; omega)) ea_nil) (cd_len (by rw [List.length_map]; exact Nat.le_trans (hps.few n) (by decide)))) (ed_choice (xs := [(0 : Int), 0, 1, 2, 3, 4, 10 ^ 40]) (d := fun j => intD j) (ea_cons (ed_var rfl) (ea_cons (ed_ints (is := [(0 : Int), 0, 1, 2, 3, 4, 10 ^ 40]) (ea_cons ed_c (ea_cons ed_c (ea_cons ed_c (ea_cons ed_c (ea_cons ed_c (ea_cons ed_c (ea_cons (ed_op ed_c ed_c (od_pow (by unfold CPow; omega))) ea_nil))))))) (by show 7 ≤ _; decide)) ea_nil)) ⟨by simp, by show 7 ≤ _; decide⟩ (List.mem_cons_of_mem _ (List.mem_cons_of_mem _ List.mem_cons_self))) (od_exR fun j hj => od_add.res fun H v hv => ⟨_, ?_, hv⟩)) (ed_var rfl) (ed_var rfl) ?_ (by rw [List.length_map]; omega) ⟨rfl, rfl⟩) (.keep (.keep (.keep (.keep (.keep (.keep (.keep (.keep (.keep (.drop (.drop (.drop (.drop (.drop (.drop (.drop .nil)))))))))))))))) fun v hv => ⟨cs ++ [(n, v)], ⟨by rw [List.map_append, hcs.1]; rfl, fun p hp => ?_⟩, fun H o p => by unfold dctC; rw [List.map_append]; exact p⟩
      · rw [List.length_map]
        dsimp only
        simp only [List.mem_cons, List.mem_nil_iff, or_false] at hj
        omega
      · intro z
        obtain ⟨u, hu, e⟩ := List.mem_map.mp z
        obtain ⟨p, hp, e2⟩ := List.mem_map.mp hu
        subst e2
        have e3 : p.1 = n := Sum.inr.inj e
        have hm : n ∈ pre := by rw [← hcs.1, ← e3]; exact List.mem_map.mpr ⟨p, hp, rfl⟩
        have nd := hf.mo.nd
        rw [sp, List.nodup_append] at nd
        exact nd.2.2 _ hm _ List.mem_cons_self rfl
      · rcases List.mem_append.mp hp with m | m
        · exact hcs.2 p m
        · rw [List.mem_singleton.mp m]; exact hv
    refine sb_open fun cs hcs => ?_
    have hen := fun {q : Str × Ends4} (hq : q ∈ f.2) (e : Bool) => hri.en hp hs hcs hq e
    -- all ends
    refine sb_seq (Os1 := (x, toldO K t) :: rngP r) (Γ1 := (((riG r x ⟨f, ps⟩ prs).set 3 (some (intD (i : Nat)))).set 8 (some (csD cs))).set 10 (some (blD false))) (sb_frz (fun _ => trivial) rfl (sb_asg ed_c ⟨rfl, rfl⟩)) ?_
    refine sb_seq (Os1 := (x, toldO K t) :: rngP r) (Γ1 := (((riG r x ⟨f, ps⟩ prs).set 3 (some (intD (i : Nat)))).set 8 (some (csD cs))).set 10 (some (blD (hcL t cs f.2)))) (sb_forP (xs := f.2) (d := fun q => rowD q) (Oz := fun _ => (x, toldO K t) :: rngP r) (Γs := fun pre => (((riG r x ⟨f, ps⟩ prs).set 3 (some (intD (i : Nat)))).set 8 (some (csD cs))).set 10 (some (blD (hcL t cs pre)))) (ei_list (ed_var rfl)) rfl (fun _ => rfl) .refl (fun pre q post sp => ⟨_, _, gd_name, ?_⟩) ⟨rfl, rfl⟩) ?_
    · have hq : q ∈ f.2 := by rw [sp]; exact List.mem_append_right _ List.mem_cons_self
      rw [hcL_snoc]
      refine SB.less (Γ1 := ((((riG r x ⟨f, ps⟩ prs).set 3 (some (intD (i : Nat)))).set 8 (some (csD cs))).set 10 (some (blD (hcL t cs pre || hcI t cs q.1 [false, true])))).set 11 (some (rowD q))) (sb_forP (xs := [false, true]) (d := fun e => strD (endS e)) (Oz := fun _ => (x, toldO K t) :: rngP r) (Γs := fun p2 => ((((riG r x ⟨f, ps⟩ prs).set 3 (some (intD (i : Nat)))).set 8 (some (csD cs))).set 10 (some (blD (hcL t cs pre || hcI t cs q.1 p2)))).set 11 (some (rowD q))) (ei_list (ed_lst (ea_cons ed_c (ea_cons ed_c ea_nil)))) rfl (fun _ => rfl) ?_ (fun p2 e post2 sp2 => ⟨_, _, gd_name, ?_⟩) ⟨rfl, rfl⟩) (.keep (.keep (.keep (.keep (.keep (.keep (.keep (.keep (.keep (.keep (.keep (.drop (.keep (.keep (.keep (.keep .nil))))))))))))))))
      · rw [show hcI t cs q.1 [] = false from rfl, Bool.or_false]
        exact .refl
      · rw [hcI_snoc, ← Bool.or_assoc]
        refine sb_seq (sb_asg (A := blD (anyC (cutA ⟨t, cs, q.1, e⟩))) (ed_borrow (i := 6) (D := toldD K t) pr_kept rfl free_val (fun q hq H H' o h => ?_) (ed_callP (α := EnA) ⟨t, cs, ⟨f.2, ps, prs⟩, q, e⟩ (ea_cons (ed_var rfl) (ea_cons (ed_var rfl) (ea_cons (ed_var rfl) (ea_cons (ed_var rfl) (ea_cons (ed_var rfl) ea_nil))))) (hen hq e)))) ?_
        · rw [List.mem_singleton.mp hq] at h ⊢
          obtain ⟨p, hp, us, eo, hfit⟩ := h
          refine ⟨p, hp, us, eo, ?_⟩
          cases hfit with
          | cons r1 t1 => cases t1 with
            | cons r2 t2 =>
              cases t2
              exact .cons r1 (.cons r2 .nil)
        refine sb_seq (sb_if (b := false) (et_test (ed_op (ed_var rfl) ed_c (od_isN' notN_bl))) (fun z => nomatch z) fun _ => sb_next) ?_
        exact SB.less (sb_asg (ed_orV (ed_var rfl) fun _ => ed_var rfl)) (.keep (.keep (.keep (.keep (.keep (.keep (.keep (.keep (.keep (.keep (.keep (.keep (.keep (.keep (.drop (.drop .nil))))))))))))))))
    -- what is due
    have hsc : okSc ⟨f.2, ps, prs⟩ := ⟨by have := hf.mo.lle; dsimp only; omega, by have := hps.le; dsimp only; omega, fun q hq => by dsimp only; rw [hp.1]; exact List.mem_map.mpr ⟨q, hq, rfl⟩, fun k hk => by
      dsimp only at hk ⊢
      rw [hp.1] at hk
      exact Nat.le_trans (hp.2 k hk).le (by decide)⟩
    refine sb_seq (sb_asg (A := blD (!hcL t cs f.2 && !pastL ⟨f.2, ps, prs⟩)) (ed_andV (ed_notV (ed_var rfl)) fun _ => ed_notV (ed_callP (α := ScA) ⟨f.2, ps, prs⟩ (ea_cons (ed_var rfl) (ea_cons (ed_var rfl) (ea_cons (ed_var rfl) ea_nil))) hsc))) ?_
    have hfit : fitsB t cs = (!hcL t cs f.2 && !pastL ⟨f.2, ps, prs⟩) := by
      have e0 : pastL ⟨f.2, ps, prs⟩ = pastB t := by
        cases hz : f.2 with
        | nil =>
          unfold pastL pastB
          rw [hs.hmo, hz]
          rfl
        | cons q l => rw [← hz]; exact past_eq (hen (q := q) (by rw [hz]; exact List.mem_cons_self) false)
      rw [fits_eq, hs.hmo, e0]
    have hs0 : ∀ q, q ∈ rngP r → ∀ H H' o, q.2.p H o → q.2.p H' o := fun q hq H H' o h => by
      rw [List.mem_singleton.mp hq] at h ⊢
      obtain ⟨p, hp, us, eo, hfit⟩ := h
      refine ⟨p, hp, us, eo, ?_⟩
      cases hfit with
      | cons r1 t1 => cases t1 with
        | cons r2 t2 =>
          cases t2
          exact .cons r1 (.cons r2 .nil)
    have hccs : okCc ⟨t.mo, cs, false⟩ ∧ okCs cs := by
      have z := wish_cc hf (cs := cs) ⟨hcs.1, fun p hp => by have := (hcs.2 p hp).1; omega⟩
      rw [hs.hmo]
      exact ⟨z, z.2.1⟩
    have hnn : ∀ p, p ∈ newsC t cs → 0 ≤ p.2 ∧ p.2 ≤ 10 ^ 49 := fun p hp => by
      obtain ⟨k, hk, e⟩ := List.mem_map.mp hp
      rw [hs.hmo] at hk
      have hk2 : k ∈ cs.map (·.1) := by rw [hcs.1]; exact Srt.mem_srt.mp hk
      obtain ⟨h1, h2⟩ := hcs.2 _ (lk_mem hk2)
      rw [← e]
      dsimp only at h1 h2 ⊢
      rw [hs.hrows]
      omega
    refine SB.exit (N' := fun o g => o = (x, toldO K t) :: rngP r ∧ Less (riG r x ⟨f, ps⟩ prs) g) (sb_if (b := false) (et_or (a := false) (b := false) (ET.cast (et_test (ed_op (ed_borrow (i := 6) (D := toldD K t) pr_kept rfl free_val hs0 (ed_callP (α := FsA) ⟨t, cs, false⟩ (ea_cons (ed_var rfl) (ea_cons (ed_var rfl) ea_nil)) ⟨hs.ok, hccs.1, hnn⟩)) (ed_var rfl) od_neB)) (by rw [hfit]; exact bne_self_eq_false _)) fun _ => ET.cast (et_test (ed_op (ed_borrow (i := 6) (D := toldD K t) pr_kept rfl free_val hs0 (ed_callP (α := FsA) ⟨t, cs, true⟩ (ea_cons (ed_var rfl) (ea_cons (ed_make (C := C_Sizes K) (rel := r_Sizes_init K) (Rs := [csD cs]) (ea_cons (ed_var rfl) ea_nil) fun y => ⟨(y, cs), hccs.2, rfl, rfl, rfl, rfl⟩) ea_nil)) ⟨hs.ok, ⟨hccs.1.1, hccs.1.2.1, hccs.1.2.2⟩, hnn⟩)) (ed_var rfl) od_neB)) (by rw [hfit]; exact bne_self_eq_false _)) (fun z => nomatch z) fun _ => sb_next ⟨rfl, .keep (.keep (.keep (.drop (.keep (.keep (.keep (.keep (.drop (.drop (.drop (.drop (.drop (.drop (.drop (.drop .nil)))))))))))))))⟩) fun o g ⟨e, l⟩ => ⟨_, ⟨_, ⟨prs, t, hp, hs, e, rfl⟩, l⟩, .refl⟩
  · obtain ⟨prs, t, hp, hs, rfl, rfl⟩ := m
    have hpd : ∀ q, q ∈ f.2 → q.1 ∈ prs.map (·.1) ∧ q.1 ∈ t.mo.2.map (·.1) := fun q hq => ⟨by rw [hp.1]; exact List.mem_map.mpr ⟨q, hq, rfl⟩, by rw [hs.hmo]; exact List.mem_map.mpr ⟨q, hq, rfl⟩⟩
    refine sb_keep pr_kept (i := 6) rfl (sb_ret (R := blD true) (ED.cast (ed_cb (ea_cons (ed_lc0 (xs := f.2) (d := fun q => rowD q) (f := fun _ => blD true) (ei_list (ed_var rfl)) (fun q _ => gd_name) (fun q hq => ed_op (ed_op (ed_var rfl) (ed_op (ed_var rfl) ed_c (od_ixT (i := 0) rfl)) (od_ownGet (α := ToA × Str) (t, q.1) ⟨hs.ok, (hpd q hq).2⟩)) (ed_cb (ea_cons (dget_s (f := fun x => prsD x) (ls := prs) (hpd q hq).1 (ed_var rfl) (ed_op (ed_var rfl) ed_c (od_ixT (i := 0) rfl))) ea_nil) cd_sortedPS) (od_exR fun l hl => ?_)) (by decide) (by have := hf.mo.lle; omega)) ea_nil) (cd_allM (f := fun _ => true))) (by rw [List.all_eq_true.mpr fun _ _ => rfl])) ⟨rfl, .refl⟩)
    have hpr := hp.2 q.1 (List.mem_map.mpr ⟨q, hq, rfl⟩)
    have hlt : lk t.prs q.1 = lk prs q.1 := hs.hprs q.1 (List.mem_map.mpr ⟨q, hq, rfl⟩)
    have e : prods (lk t.prs q.1) = l := by rw [hlt]; exact prods_one hpr.nd hl.1 hl.2
    have hok : ∀ p, p ∈ l → okN p.1 ∧ okN p.2 := fun p hp => by
      have := hpr.mem p (hl.1.mem_iff.mp hp)
      exact ⟨(hps.nm _ (mem_namesOf.mp this.1)).2, (hps.nm _ (mem_namesOf.mp this.2)).2⟩
    have shl : SeqAt.shaped (.list (l.map prP)) = true := Sh.ok (n := 2) (sh_list (sh_map fun p hp => sh_pr (hok p hp).1 (hok p hp).2))
    have datl : Dat K (prsD l) (.list (l.map prP)) := dat_lst (dat_map (fun p => dat_pr p) l)
    dsimp only
    rw [e]
    have z := od_eqD datl datl shl shl
    rw [show PyData.eqv (.list (l.map prP)) (.list (l.map prP)) = decide (l = l) from inj_list prP_inj l l, decide_eq_true rfl] at z
    exact z
abbrev r_law (K : PySem.W.Frag) : List Den → Own → Own → Den → Prop := pu (fun L : List Int => L.length ≤ 1000) (fun L => [scrD K L]) (fun _ => blD true)
theorem ok_law (T : Txt K mg) : FnOk P w K mg base CX0 12 (a_law K) (fdOf K (a_law K)) ["_law_script"] (DefSp (r_law K)) := by
  refine ow_ok (F_law T) sc_law (fun _ => rfl) fun cdv A outer s H E hr => ⟨_, PSs.nox (pss_one (ps_ret (pe_callB (cr_allK (K := K) rfl) (by rfl) (z_all T) boot_all (pa_cons (pe_lc (own := [("_law_k", 1)]) (by rfl) sc_law.nd (pi_range1 rfl (z_range T) (pa_cons (pe_callB (call_max2 rfl) (by rfl) (z_max T) boot_max (pa_cons pe_int (pa_cons (pe_callB (call_min2 rfl) (by rfl) (z_min T) boot_min (pa_cons pe_int (pa_cons (pe_callB (call_lenK (K := K)) (by rfl) (z_len T) boot_len (pa_cons (pv 0) pa_nil)) pa_nil))) pa_nil))) pa_nil)) (blkOk_by (N := n_law) (sc := defScope s_law) (by decide +kernel)) (fun _ _ _ _ _ => (pg_name (i := 1) sc_law.nd rfl (Or.inl rfl))) (fun _ _ _ _ _ => pts_nil) (fun _ _ _ _ _ => (pe_call (ok_l_right T) (hr.mono (by decide)) rfl (g_l_right T) (F_l_right T).kp (b_l_right T) .nil pass0 (pa_cons (pe_call (ok_l_rng T) (hr.mono (by decide)) rfl (g_l_rng T) (F_l_rng T).kp (b_l_rng T) .nil pass0 (pa_cons (pv 0) (pa_cons (pv 1) pa_nil))) pa_nil)))) pa_nil)))), ?_⟩
  intro L h
  refine sb_ret (R := blD true) (ED.cast (ed_cb (ea_cons (ed_lc0 (xs := List.range (max 1 (min 3 ((L.length : Nat) : Int))).toNat) (d := fun i => intD (i : Nat)) (f := fun _ => blD true) (ei_range (n := max 1 (min 3 ((L.length : Nat) : Int))) (ea_cons (ed_cb (ea_cons ed_c (ea_cons (ed_cb (ea_cons ed_c (ea_cons (ed_cb (ea_cons (ed_var rfl) ea_nil) (cd_lenQ (by omega))) ea_nil)) cd_min) ea_nil)) cd_max) ea_nil) (by omega) (by omega)) (fun i _ => gd_name) (fun i hi => ed_callOf (ex_callNew (ea_cons (ed_var rfl) (ea_cons (ed_var rfl) ea_nil)) ⟨((L, i) : List Int × Nat), ⟨h, ?_⟩, rfl, rfl, rfl⟩) fun o r m => ?_) (by decide) (by rw [List.length_range]; omega)) ea_nil) (cd_allM (f := fun _ => true))) (by rw [List.all_eq_true.mpr fun _ _ => rfl])) ⟨rfl, .refl⟩
  · have := List.mem_range.mp hi
    dsimp only
    omega
  · obtain ⟨o1, ⟨x, rfl, rfl⟩, rfl⟩ := m
    exact ⟨_, x, trivial, rfl, rfl, rfl, rfl⟩
end
end Pr
/-! HZ -/
namespace Pr
open PySem PySem.Spec PyProof.Rows L2 HandSHeadRun
theorem run (w : World) : RunEq R qv hk ob 12000 names w := fun os => by
  obtain ⟨s, e, l⟩ := Option.map_eq_some_iff.mp (runL w os)
  have pick : ∀ {β : Type} {f : PySem.W.SharedT → β} {x : β}, (theEnd w os).map f = some x → f s = x := fun {β f x} h => by
    rw [e] at h
    exact Option.some.inj h
  have hB : (fn.all fun d => d.ok (frK (getT s))) = true := by
    have z : (fn.all fun d => d.ok (frK (getT s))) = ((fn.take 45).all (fun d => d.ok (frK (getT s))) && (fn.drop 45).all fun d => d.ok (frK (getT s))) := by rw [← List.all_append, List.take_append_drop]
    rw [z, pick (runB w os), pick (runD w os)]
    rfl
  show (theEnd w os).map _ = _
  rw [e]
  exact congrArg some (Prod.ext l (Prod.ext (pick (runS w os)) (Prod.ext (pick (runA w os)) (Prod.ext hB (Prod.ext (pick (runC w os)) (pick (runE w os)))))))
theorem txt {K : PySem.W.Frag} {h : Heap} {mg : Str → Option Value} (X : K.In h) (G : h.Ns mainGlobals mg) (c : obsX K = valX) : Txt K mg := by
  have c1 : (fa.all fun f => f.ok K) = true := congrArg (fun z : Bool × Bool × List He.FnW × Bool => z.1) c
  have c2 : (fn.all fun d => d.ok K) = true := congrArg (fun z : Bool × Bool × List He.FnW × Bool => z.2.1) c
  have c3 : fn.map (fun d => He5.fnA K (d.at_ K)) = fn.map He5.DefA.val := congrArg (fun z : Bool × Bool × List He.FnW × Bool => z.2.2.1) c
  have c4 : (exs.all fun f => f K) = true := congrArg (fun z : Bool × Bool × List He.FnW × Bool => z.2.2.2) c
  refine ⟨fun i f e => List.all_eq_true.mp c1 f (List.mem_of_getElem? e), fun i f e => List.all_eq_true.mp c4 f (List.mem_of_getElem? e), fun i d e => ?_, fun x e => He.glo_ok X G e, fun x e => He.free_ok X G e, fun x i e => He.int_ok X G e, fun x z e => He.str_ok X G e⟩
  have c5 : (fn.map fun d => He5.fnA K (d.at_ K))[i]? = (fn.map He5.DefA.val)[i]? := by rw [c3]
  rw [List.getElem?_map, List.getElem?_map, e] at c5
  exact He5.DefA.funD (Option.some.inj c5) (List.all_eq_true.mp c2 d (List.mem_of_getElem? e))
theorem promised {K : PySem.W.Frag} {H : Hp} {a : Addr} {ns : List Int} (hl : ns.length ≤ 63) (hS : SqL K H a (ns.map V.int)) : Dn.DefSp (r_law K) [.ref a] H (fun v _ => v = .bl true) fun _ _ _ => False :=
  ⟨H, [], [], [Dn.scrD K ns], Dn.blD true, Same.refl _, .nil, .cons ⟨a, rfl, hS⟩ .nil, ⟨ns, by show ns.length ≤ 1000; omega, rfl, rfl, rfl, rfl⟩, fun v H0' H' _ hv => hv⟩
end Pr
open PySem PySem.W PySem.Calls PyProof.Rows
theorem PySem.Challenge.cw_howmanyeach_k87_whole_cuts_judged_holds : PySem.Challenge.rw_howmanyeach_k87_whole_cuts_judged.Holds := by
  w_on; o_law
  refine HandSHeadRun.head_any (r := OpenLaw.row PySem.Challenge.rw_howmanyeach_k87_whole_cuts_judged) (q := Pr.qv) (H := Pr.hk) (ob := Pr.ob) (M := 12000) (loose := Pr.names) (d := HandSHeadRun.topDef (OpenLaw.row PySem.Challenge.rw_howmanyeach_k87_whole_cuts_judged).prog 108) (kwd := []) Pr.ob_eq
    (by kernel_rfl) (fun s => by kernel_rfl) Pr.run (by kernel_rfl) (by kernel_rfl) (by kernel_rfl) (by rfl) (by first | assumption | decide +kernel) (by decide +kernel) ⟨rfl, rfl, rfl, rfl, rfl, by decide +kernel⟩ ?hw ?hc
  case hw => w_witness2
  case hc =>
    refine L2.walk_ofE (l := PySem.Challenge.rw_howmanyeach_k87_whole_cuts_judged) (n := 63) (k := 12) (x := "_law_script") (CX := L2.CX0) rfl (by decide) (by kernel_rfl) ⟨rfl, by decide, by decide⟩ ?F (fun _ _ _ _ z => z)
    intro w mg fa h Y G hmg0
    obtain ⟨K, KX, c⟩ := Y
    have hmg : mg ("law" : PySem.Str) = some (.ref fa) := by
      have e : (HandSHeadRun.topDef (OpenLaw.row PySem.Challenge.rw_howmanyeach_k87_whole_cuts_judged).prog 108).name = ("law" : PySem.Str) := by kernel_rfl
      rw [← e]
      exact hmg0
    have T := Pr.txt KX G c
    have e := hmg.symm.trans (Pr.g_law T)
    cases e
    have b := L2.FunD.bindsA (ps := ["_law_script"]) (Pr.F_law T) fun _ _ _ _ _ _ us hl => match us, hl with | [_], _ => rfl
    exact ⟨K, Pr.fdOf K (Pr.a_law K), Dn.DefSp (Pr.r_law K), KX, fun s v => b s [v] rfl, fun H a ns hl _ hS => Pr.promised hl hS, fun base _ _ => Pr.ok_law T⟩
