import PyProof.Rows.All
import Wide.All
import OpenK.AllK
import Wide.FinOn
import Lean
import PySem.Challenge.RW_sm0122_01
open PySem PySem.W PyProof.Rows
set_option Elab.async false
set_option maxRecDepth 100000
set_option linter.unusedVariables false

section
set_option maxHeartbeats 8000000
namespace Mine
/-- the text without its three rows that bind __name__ -/
noncomputable def vw : Program := { PySem.Challenge.pw_sm0122_01 with main := { PySem.Challenge.pw_sm0122_01.main with body := (PySem.Challenge.pw_sm0122_01.main.body.drop 1).take 32 ++ ((PySem.Challenge.pw_sm0122_01.main.body.drop 34).take 17 ++ PySem.Challenge.pw_sm0122_01.main.body.drop 52) } }
theorem said : PySem.Challenge.rw_sm0122_01.wellSaid = true := by rw [PySem.W.Fast.te9446332074065402090]; decide +kernel
theorem lawRec_is : (defOf vw "law").isSome = true := by kernel_rfl
noncomputable def lawRec : DefRec × List (Str × PySem.Expr) := (defOf vw "law").get lawRec_is
theorem lawRec_eq : defOf vw "law" = some (lawRec.1, lawRec.2) := by kernel_rfl
theorem opt_two {α β : Type} {o : Option Shared} {f : Shared → α} {g : Shared → β} {a : α} {b : β} (h1 : o.map f = some a) (h2 : o.map g = some b) : o.map (fun s => (f s, g s)) = some (a, b) := by
  cases o with
  | none => cases h1
  | some s => exact congrArg some (Prod.ext (Option.some.inj h1) (Option.some.inj h2))
theorem opt_three {α β γ : Type} {o : Option Shared} {f : Shared → α} {g : Shared → β} {k : Shared → γ} {a : α} {b : β} {d : γ} (h1 : o.map (fun s => (f s, g s)) = some (a, b)) (h2 : o.map k = some d) : o.map (fun s => (f s, g s, k s)) = some (a, b, d) := by
  cases o with
  | none => cases h1
  | some s =>
    have e1 : (f s, g s) = (a, b) := Option.some.inj h1
    have e2 : k s = d := Option.some.inj h2
    show some (f s, g s, k s) = some (a, b, d)
    rw [show f s = a from congrArg Prod.fst e1, show g s = b from congrArg Prod.snd e1, e2]
noncomputable def xt (s : Shared) : Bool := xlAt vw [] s && recOk [] s
theorem see1 (w : World) : (openEnds treeTable PySem.Challenge.pw_sm0122_01 w 4458).map (fun s => (openSeen vw [] (importedModules PySem.Challenge.pw_sm0122_01.main.body) xt true s).1) = some (openGood vw []).1 := by
  unfold openEnds fencedOpening topFrom
  try rw [PySem.W.Fast.te14082659384304107361, PySem.W.Fast.te14364793385576792824, PySem.W.Fast.te10274390034422433532, PySem.W.Fast.te14289696077712309145, PySem.W.Fast.te1435165496053646825]
  kernel_rfl
theorem see2 (w : World) : (openEnds treeTable PySem.Challenge.pw_sm0122_01 w 4458).map (fun s => ((openSeen vw [] (importedModules PySem.Challenge.pw_sm0122_01.main.body) xt true s).2.1, (openSeen vw [] (importedModules PySem.Challenge.pw_sm0122_01.main.body) xt true s).2.2.1)) = some ((openGood vw []).2.1, (openGood vw []).2.2.1) := by
  unfold openEnds fencedOpening topFrom
  try rw [PySem.W.Fast.te14082659384304107361, PySem.W.Fast.te14364793385576792824, PySem.W.Fast.te10274390034422433532, PySem.W.Fast.te14289696077712309145, PySem.W.Fast.te1435165496053646825]
  kernel_rfl
theorem see3 (w : World) : (openEnds treeTable PySem.Challenge.pw_sm0122_01 w 4458).map (fun s => (openSeen vw [] (importedModules PySem.Challenge.pw_sm0122_01.main.body) xt true s).2.2.2) = some (openGood vw []).2.2.2 := by
  unfold openEnds fencedOpening topFrom
  try rw [PySem.W.Fast.te14082659384304107361, PySem.W.Fast.te14364793385576792824, PySem.W.Fast.te10274390034422433532, PySem.W.Fast.te14289696077712309145, PySem.W.Fast.te1435165496053646825]
  kernel_rfl
theorem see (w : World) : (openEnds treeTable PySem.Challenge.pw_sm0122_01 w 4458).map (fun s => openSeen vw [] (importedModules PySem.Challenge.pw_sm0122_01.main.body) xt true s) = some (openGood vw []) :=
  opt_two (see1 w) (opt_three (see2 w) (see3 w))
theorem hd_head {H : Hook} (hY : ∀ w, (openEnds treeTable PySem.Challenge.pw_sm0122_01 w 4458).map H.obs = some (H.val w)) (hw : PySem.Challenge.rw_sm0122_01.row.toRowW.promised)
    (hc : WalkO vw [] (XL vw []) H.says PySem.Challenge.rw_sm0122_01.row.toRowW lawRec.1 lawRec.2 fun f vs => PySem.call f vs) : PySem.Challenge.rw_sm0122_01.row.Holds :=
  holds_open (q := vw) (loose := []) (Xt := xt) (XP := XL vw []) (Yf := H.obs) (Ya := H.val) (YP := H.says) (N := 4458) (fun w => opt_two (see w) (hY w)) H.of H.keeps (fun s e => xl_of s (Bool.and_eq_true_iff.mp e).1) XL.keeps lawRec_eq (by kernel_rfl) (by kernel_rfl)
    (fun s e => recFacts_of (Bool.and_eq_true_iff.mp e).2) (by rfl) (row_said said) (by decide +kernel) ⟨by kernel_rfl, by kernel_rfl, by kernel_rfl, by kernel_rfl, by kernel_rfl, by decide +kernel⟩ hw hc
local macro_rules | `(tactic| o_law) => `(tactic| refine holds_law said fun _ => ?_)
local macro_rules | `(tactic| o_head $H) => `(tactic| refine hd_head (H := $H) (fun _ => by unfold openEnds fencedOpening topFrom; try rw [PySem.W.Fast.te14082659384304107361, PySem.W.Fast.te14364793385576792824, PySem.W.Fast.te10274390034422433532, PySem.W.Fast.te14289696077712309145, PySem.W.Fast.te1435165496053646825]; kernel_rfl) ?hw ?hc)
open_top hd for PySem.Challenge.rw_sm0122_01
end Mine
end
section
namespace Mine
/-- what a value is, as far as the text asks -/
inductive T where
  | none
  | bool (b : Bool)
  | int (i : Int)
  | str (s : Str)
  | ints (l : List Int)
  | oints (l : List Int)
  | fints (l : List Int)
  | list (ts : List T)
  | tup (ts : List T)
  | ent (u : Int) (raw : List Int) (x sp k : Int) (mp : List Int)
  | disk | data | feed | dead
  | own (ts : List T)
  | ownO (a d C : Addr) (fs : List (Str × T))
  | ptr (a : Addr)
  | ownG (t : T) (os : List (Addr × Addr × List (Str × T))) (ls : List (Addr × List T))

structure St where
  data : List Int
  turn : Int
  cells : List Int

structure Cfg where
  prog : Program
  w : World
  K : Frag
  B0 : Heap
  mg : Str → Option Value
  mb : Str → Option Value
  D : Addr
  Fd : Addr
  disk : Addr
  dd : Addr
  G : Addr
  cl : Addr
  DiskC : Addr
  EntC : Addr
  ErrC : Addr
  ep : Addr → Prop

noncomputable def Cfg.Mut (c : Cfg) (a : Addr) : Prop := a = c.D ∨ a = c.Fd

noncomputable def IntsAt (h : Heap) (a : Addr) (l : List Int) : Prop := ∃ vs n, h.get? a = some (listOf vs.toArray n) ∧ IntsAre vs l

structure EntFs (es : List DictEntry) (u x sp k : Int) (r m : Addr) : Prop where
  keys : ∀ e ∈ es, e.refKey = false
  user : ∃ t, getL "user" es = some (some (.int u t))
  raw : getL "raw" es = some (some (.ref r))
  extent : ∃ t, getL "extent" es = some (some (.int x t))
  spare : ∃ t, getL "spare" es = some (some (.int sp t))
  count : ∃ t, getL "count" es = some (some (.int k t))
  map : getL "map" es = some (some (.ref m))

/-- its own objects are new since ep -/
noncomputable def EntX (c : Cfg) (a d r m : Addr) : Prop := ¬ c.ep a ∧ ¬ c.ep d ∧ ¬ c.ep m
noncomputable def EntAt (c : Cfg) (X : Addr → Prop) (h : Heap) (a d : Addr) (u : Int) (raw : List Int) (x sp k : Int) (mp : List Int) : Prop :=
  ∃ es n r m, h.get? a = some (instObj c.EntC d) ∧ h.get? d = some (dictOf es n) ∧ es.length ≤ 6 ∧ EntFs es u x sp k r m ∧
    ¬ X r ∧ IntsAt h r raw ∧ ¬ X m ∧ IntsAt h m mp ∧ EntX c a d r m

mutual
noncomputable def Rep (c : Cfg) (X : Addr → Prop) (h : Heap) : T → Value → Prop
  | .none, v => v = .none
  | .bool b, v => v = .bool b
  | .int i, v => ∃ t, v = .int i t
  | .str s, v => ∃ t, v = .str s t
  | .ints l, v => ∃ a, v = .ref a ∧ ¬ X a ∧ IntsAt h a l
  | .oints l, v => ∃ a, v = .ref a ∧ ¬ X a ∧ c.ep a ∧ IntsAt h a l
  | .fints l, v => ∃ a, v = .ref a ∧ ¬ X a ∧ ¬ c.ep a ∧ IntsAt h a l
  | .list ts, v => ∃ a vs n, v = .ref a ∧ ¬ X a ∧ h.get? a = some (listOf vs.toArray n) ∧ RepL c X h ts vs
  | .tup ts, v => ∃ a vs, v = .ref a ∧ ¬ X a ∧ h.get? a = some { cls := .type "tuple", data := .seq vs.toArray } ∧ RepL c X h ts vs
  | .ent u raw x sp k mp, v => ∃ a d, v = .ref a ∧ ¬ X a ∧ ¬ X d ∧ EntAt c X h a d u raw x sp k mp
  | .disk, v => v = .ref c.disk
  | .data, v => v = .ref c.D
  | .feed, v => v = .ref c.Fd
  | .dead, _ => True
  | .own _, _ => False
  | .ownO .., _ => False
  | .ptr a, v => v = .ref a
  | .ownG .., _ => False
noncomputable def RepL (c : Cfg) (X : Addr → Prop) (h : Heap) : List T → List Value → Prop
  | [], vs => vs = []
  | t :: ts, vs => ∃ v r, vs = v :: r ∧ Rep c X h t v ∧ RepL c X h ts r
end

/-- what stood stands still, but for the addresses M, and the slots of frames -/
noncomputable def Kp (M : Addr → Prop) (h h' : Heap) : Prop :=
  ∀ a o, ¬ M a → h.get? a = some o → ∃ sl, h'.get? a = some { o with slots := sl } ∧ (o.cls ≠ .type "frame" → sl = o.slots)

theorem Kp.refl (M h) : Kp M h h := fun _ o _ e => ⟨o.slots, e, fun _ => rfl⟩
theorem Kp.trans {M h₁ h₂ h₃} (x : Kp M h₁ h₂) (y : Kp M h₂ h₃) : Kp M h₁ h₃ := fun a o hm e => by
    obtain ⟨sl, e1, f1⟩ := x a o hm e
    obtain ⟨sl', e2, f2⟩ := y a _ hm e1
    exact ⟨sl', e2, fun hc => (f2 hc).trans (f1 hc)⟩
theorem Kp.mono {M N : Addr → Prop} {h h'} (x : Kp M h h') (hs : ∀ a, M a → N a) : Kp N h h' := fun a o hm e => x a o (fun q => hm (hs a q)) e
theorem Kp.get {M h h'} (x : Kp M h h') {a o} (hm : ¬ M a) (e : h.get? a = some o) (hc : o.cls ≠ .type "frame") : h'.get? a = some o := by
  obtain ⟨sl, e1, f⟩ := x a o hm e
  rw [f hc] at e1; exact e1
theorem Kp.of_keeps {M h h'} (k : ∀ a o, ¬ M a → h.get? a = some o → h'.get? a = some o) : Kp M h h' :=
  fun a o hm e => ⟨o.slots, k a o hm e, fun _ => rfl⟩
theorem Kp.push {M h} (o : Obj) : Kp M h (h.push o) := .of_keeps fun _ _ _ e => Heap.get?_push_of_some _ e

theorem list_cls {i n} : (listOf i n).cls ≠ .type "frame" := show Value.type "list" ≠ .type "frame" by decide
theorem dict_cls {i n} : (dictOf i n).cls ≠ .type "frame" := show Value.type "dict" ≠ .type "frame" by decide
theorem tup_cls {vs : List Value} : ({ cls := .type "tuple", data := .seq vs.toArray } : Obj).cls ≠ .type "frame" := show Value.type "tuple" ≠ .type "frame" by decide
theorem IntsAt.kp {M h h'} (k : Kp M h h') {a l} (hm : ¬ M a) : IntsAt h a l → IntsAt h' a l := fun ⟨vs, n, e, i⟩ =>
  ⟨vs, n, k.get hm e list_cls, i⟩
theorem inst_cls {C d : Addr} : (instObj C d).cls ≠ .type "frame" := by intro e; cases e
theorem EntAt.kp {c : Cfg} {M X h h'} (k : Kp M h h') (hMX : ∀ a, M a → X a) {a d u raw x sp kk mp} (ha : ¬ M a) (hd : ¬ M d) :
    EntAt c X h a d u raw x sp kk mp → EntAt c X h' a d u raw x sp kk mp := fun ⟨es, n, r, m, e1, e2, e3, e4, e5, e6, e7, e8, e9⟩ =>
  ⟨es, n, r, m, k.get ha e1 inst_cls, k.get hd e2 dict_cls, e3, e4, e5, e6.kp k fun q => e5 (hMX _ q), e7, e8.kp k (fun q => e7 (hMX _ q)), e9⟩

mutual
theorem Rep.kp {c : Cfg} {M X : Addr → Prop} {h h'} (k : Kp M h h') (hMX : ∀ a, M a → X a) : ∀ (t : T) (v : Value), Rep c X h t v → Rep c X h' t v
  | .none, v, r => by simpa only [Rep] using r
  | .bool b, v, r => by simpa only [Rep] using r
  | .int i, v, r => by simpa only [Rep] using r
  | .str s, v, r => by simpa only [Rep] using r
  | .ints l, v, r => by
    simp only [Rep] at r ⊢
    obtain ⟨a, e, hx, hi⟩ := r
    exact ⟨a, e, hx, hi.kp k fun q => hx (hMX _ q)⟩
  | .oints l, v, r => by
    simp only [Rep] at r ⊢
    obtain ⟨a, e, hx, hp, hi⟩ := r
    exact ⟨a, e, hx, hp, hi.kp k fun q => hx (hMX _ q)⟩
  | .fints l, v, r => by
    simp only [Rep] at r ⊢
    obtain ⟨a, e, hx, hp, hi⟩ := r
    exact ⟨a, e, hx, hp, hi.kp k fun q => hx (hMX _ q)⟩
  | .list ts, v, r => by
    simp only [Rep] at r ⊢
    obtain ⟨a, vs, n, e, hx, ho, hr⟩ := r
    exact ⟨a, vs, n, e, hx, k.get (fun q => hx (hMX _ q)) ho list_cls, RepL.kp k hMX ts vs hr⟩
  | .tup ts, v, r => by
    simp only [Rep] at r ⊢
    obtain ⟨a, vs, e, hx, ho, hr⟩ := r
    exact ⟨a, vs, e, hx, k.get (fun q => hx (hMX _ q)) ho tup_cls, RepL.kp k hMX ts vs hr⟩
  | .ent u raw x sp kk mp, v, r => by
    simp only [Rep] at r ⊢
    obtain ⟨a, d, e, hx, hd, hr⟩ := r
    exact ⟨a, d, e, hx, hd, hr.kp k hMX (fun q => hx (hMX _ q)) (fun q => hd (hMX _ q))⟩
  | .disk, v, r => by simpa only [Rep] using r
  | .data, v, r => by simpa only [Rep] using r
  | .feed, v, r => by simpa only [Rep] using r
  | .dead, v, r => by simp only [Rep]
  | .own _, v, r => by simp only [Rep] at r
  | .ownO .., v, r => by simp only [Rep] at r
  | .ptr _, v, r => by simpa only [Rep] using r
  | .ownG .., v, r => by simp only [Rep] at r
theorem RepL.kp {c : Cfg} {M X : Addr → Prop} {h h'} (k : Kp M h h') (hMX : ∀ a, M a → X a) : ∀ (ts : List T) (vs : List Value), RepL c X h ts vs → RepL c X h' ts vs
  | [], vs, r => by simpa only [RepL] using r
  | t :: ts, vs, r => by
    simp only [RepL] at r ⊢
    obtain ⟨v, r', e, h1, h2⟩ := r
    exact ⟨v, r', e, Rep.kp k hMX t v h1, RepL.kp k hMX ts r' h2⟩
end

theorem EntAt.anti {c : Cfg} {X Y : Addr → Prop} {h} (hs : ∀ a, X a → Y a) {a d u raw x sp kk mp} : EntAt c Y h a d u raw x sp kk mp → EntAt c X h a d u raw x sp kk mp :=
  fun ⟨es, n, r, m, e1, e2, e3, e4, e5, e6, e7, e8, e9⟩ => ⟨es, n, r, m, e1, e2, e3, e4, fun q => e5 (hs _ q), e6, fun q => e7 (hs _ q), e8, e9⟩
mutual
theorem Rep.anti {c : Cfg} {X Y : Addr → Prop} {h} (hs : ∀ a, X a → Y a) : ∀ (t : T) (v : Value), Rep c Y h t v → Rep c X h t v
  | .none, v, r => by simpa only [Rep] using r
  | .bool b, v, r => by simpa only [Rep] using r
  | .int i, v, r => by simpa only [Rep] using r
  | .str s, v, r => by simpa only [Rep] using r
  | .ints l, v, r => by
    simp only [Rep] at r ⊢
    obtain ⟨a, e, hx, hi⟩ := r
    exact ⟨a, e, fun q => hx (hs _ q), hi⟩
  | .oints l, v, r => by
    simp only [Rep] at r ⊢
    obtain ⟨a, e, hx, hp, hi⟩ := r
    exact ⟨a, e, fun q => hx (hs _ q), hp, hi⟩
  | .fints l, v, r => by
    simp only [Rep] at r ⊢
    obtain ⟨a, e, hx, hp, hi⟩ := r
    exact ⟨a, e, fun q => hx (hs _ q), hp, hi⟩
  | .list ts, v, r => by
    simp only [Rep] at r ⊢
    obtain ⟨a, vs, n, e, hx, ho, hr⟩ := r
    exact ⟨a, vs, n, e, fun q => hx (hs _ q), ho, RepL.anti hs ts vs hr⟩
  | .tup ts, v, r => by
    simp only [Rep] at r ⊢
    obtain ⟨a, vs, e, hx, ho, hr⟩ := r
    exact ⟨a, vs, e, fun q => hx (hs _ q), ho, RepL.anti hs ts vs hr⟩
  | .ent u raw x sp kk mp, v, r => by
    simp only [Rep] at r ⊢
    obtain ⟨a, d, e, hx, hd, hr⟩ := r
    exact ⟨a, d, e, fun q => hx (hs _ q), fun q => hd (hs _ q), hr.anti hs⟩
  | .disk, v, r => by simpa only [Rep] using r
  | .data, v, r => by simpa only [Rep] using r
  | .feed, v, r => by simpa only [Rep] using r
  | .dead, v, r => by simp only [Rep]
  | .own _, v, r => by simp only [Rep] at r
  | .ownO .., v, r => by simp only [Rep] at r
  | .ptr _, v, r => by simpa only [Rep] using r
  | .ownG .., v, r => by simp only [Rep] at r
theorem RepL.anti {c : Cfg} {X Y : Addr → Prop} {h} (hs : ∀ a, X a → Y a) : ∀ (ts : List T) (vs : List Value), RepL c Y h ts vs → RepL c X h ts vs
  | [], vs, r => by simpa only [RepL] using r
  | t :: ts, vs, r => by
    simp only [RepL] at r ⊢
    obtain ⟨v, r', e, h1, h2⟩ := r
    exact ⟨v, r', e, Rep.anti hs t v h1, RepL.anti hs ts r' h2⟩
end

/-- every node stands: so more may be shut out where nothing stands -/
theorem off_none {h : Heap} {a : Addr} {o : Obj} (e : h.get? a = some o) (z : h.get? a = none) : False := by rw [e] at z; cases z
theorem IntsAt.off {h a l} : IntsAt h a l → h.get? a = none → False := fun ⟨_, _, e, _⟩ z => off_none e z
theorem EntAt.more {c : Cfg} {X Y : Addr → Prop} {h} (hs : ∀ a, Y a → X a ∨ h.get? a = none) {a d u raw x sp kk mp} : EntAt c X h a d u raw x sp kk mp → EntAt c Y h a d u raw x sp kk mp :=
  fun ⟨es, n, r, m, e1, e2, e3, e4, e5, e6, e7, e8, e9⟩ => ⟨es, n, r, m, e1, e2, e3, e4, fun q => (hs _ q).elim e5 (e6.off), e6, fun q => (hs _ q).elim e7 (e8.off), e8, e9⟩
mutual
theorem Rep.more {c : Cfg} {X Y : Addr → Prop} {h} (hs : ∀ a, Y a → X a ∨ h.get? a = none) : ∀ (t : T) (v : Value), Rep c X h t v → Rep c Y h t v
  | .none, v, r => by simpa only [Rep] using r
  | .bool b, v, r => by simpa only [Rep] using r
  | .int i, v, r => by simpa only [Rep] using r
  | .str s, v, r => by simpa only [Rep] using r
  | .ints l, v, r => by
    simp only [Rep] at r ⊢
    obtain ⟨a, e, hx, hi⟩ := r
    exact ⟨a, e, fun q => (hs _ q).elim hx (hi.off), hi⟩
  | .oints l, v, r => by
    simp only [Rep] at r ⊢
    obtain ⟨a, e, hx, hp, hi⟩ := r
    exact ⟨a, e, fun q => (hs _ q).elim hx (hi.off), hp, hi⟩
  | .fints l, v, r => by
    simp only [Rep] at r ⊢
    obtain ⟨a, e, hx, hp, hi⟩ := r
    exact ⟨a, e, fun q => (hs _ q).elim hx (hi.off), hp, hi⟩
  | .list ts, v, r => by
    simp only [Rep] at r ⊢
    obtain ⟨a, vs, n, e, hx, ho, hr⟩ := r
    exact ⟨a, vs, n, e, fun q => (hs _ q).elim hx (off_none ho), ho, RepL.more hs ts vs hr⟩
  | .tup ts, v, r => by
    simp only [Rep] at r ⊢
    obtain ⟨a, vs, e, hx, ho, hr⟩ := r
    exact ⟨a, vs, e, fun q => (hs _ q).elim hx (off_none ho), ho, RepL.more hs ts vs hr⟩
  | .ent u raw x sp kk mp, v, r => by
    simp only [Rep] at r ⊢
    obtain ⟨a, d, e, hx, hd, hr⟩ := r
    obtain ⟨es, n, r', m, e1, e2, _⟩ := id hr
    exact ⟨a, d, e, fun q => (hs _ q).elim hx (off_none e1), fun q => (hs _ q).elim hd (off_none e2), hr.more hs⟩
  | .disk, v, r => by simpa only [Rep] using r
  | .data, v, r => by simpa only [Rep] using r
  | .feed, v, r => by simpa only [Rep] using r
  | .dead, v, r => by simp only [Rep]
  | .own _, v, r => by simp only [Rep] at r
  | .ownO .., v, r => by simp only [Rep] at r
  | .ptr _, v, r => by simpa only [Rep] using r
  | .ownG .., v, r => by simp only [Rep] at r
theorem RepL.more {c : Cfg} {X Y : Addr → Prop} {h} (hs : ∀ a, Y a → X a ∨ h.get? a = none) : ∀ (ts : List T) (vs : List Value), RepL c X h ts vs → RepL c Y h ts vs
  | [], vs, r => by simpa only [RepL] using r
  | t :: ts, vs, r => by
    simp only [RepL] at r ⊢
    obtain ⟨v, r', e, h1, h2⟩ := r
    exact ⟨v, r', e, Rep.more hs t v h1, RepL.more hs ts r' h2⟩
end

theorem RepL.length {c : Cfg} {X : Addr → Prop} {h} : ∀ (ts : List T) (vs : List Value), RepL c X h ts vs → vs.length = ts.length
  | [], vs, r => by simp only [RepL] at r; rw [r]; rfl
  | t :: ts, vs, r => by
    simp only [RepL] at r
    obtain ⟨v, r', e, _, h2⟩ := r
    rw [e, List.length_cons, List.length_cons, RepL.length ts r' h2]
theorem RepL.append {c : Cfg} {X : Addr → Prop} {h} : ∀ (ts us : List T) (vs ws : List Value), RepL c X h ts vs → RepL c X h us ws → RepL c X h (ts ++ us) (vs ++ ws)
  | [], us, vs, ws, r, q => by simp only [RepL] at r; rw [r]; exact q
  | t :: ts, us, vs, ws, r, q => by
    simp only [RepL, List.cons_append] at r ⊢
    obtain ⟨v, r', e, h1, h2⟩ := r
    exact ⟨v, r' ++ ws, by rw [e]; rfl, h1, RepL.append ts us r' ws h2 q⟩
theorem RepL.get {c : Cfg} {X : Addr → Prop} {h} : ∀ (ts : List T) (vs : List Value) (i : Nat) (t : T), RepL c X h ts vs → ts[i]? = some t → ∃ v, vs[i]? = some v ∧ Rep c X h t v
  | [], vs, i, t, r, e => by simp at e
  | u :: ts, vs, 0, t, r, e => by
    simp only [RepL] at r
    obtain ⟨v, r', e', h1, h2⟩ := r
    simp at e; subst e
    exact ⟨v, by rw [e']; rfl, h1⟩
  | u :: ts, vs, i + 1, t, r, e => by
    simp only [RepL] at r
    obtain ⟨v, r', e', h1, h2⟩ := r
    obtain ⟨v', q1, q2⟩ := RepL.get ts r' i t h2 (by simpa using e)
    exact ⟨v', by rw [e']; simpa using q1, q2⟩

/-- the disk, its data, the feed -/
structure RelH (c : Cfg) (X : Addr → Prop) (σ : St) (h : Heap) : Prop where
  base : ∀ a o, c.B0.get? a = some o → h.get? a = some o
  live : ∀ a, X a → ∃ o, h.get? a = some o
  muts : ∀ a, c.Mut a → X a
  ne : c.D ≠ c.Fd
  data : IntsAt h c.D σ.data
  feed : ∃ t n, h.get? c.Fd = some (listOf #[.ref c.cl, .int σ.turn t] n)
  cells : ¬ X c.cl ∧ IntsAt h c.cl σ.cells
  given : ¬ X c.G ∧ IntsAt h c.G []
  obj : ¬ X c.disk ∧ h.get? c.disk = some (instObj c.DiskC c.dd)
  dict : ¬ X c.dd ∧ ∃ es n, h.get? c.dd = some (dictOf es n) ∧ (∃ t, getL "blocks" es = some (some (.int 8 t))) ∧ (∃ t, getL "block" es = some (some (.int 32 t))) ∧
    (∃ t, getL "record" es = some (some (.int 16 t))) ∧ (∃ t, getL "entries" es = some (some (.int 4 t))) ∧ getL "is_read_only" es = some (some (.bool false)) ∧
    getL "given" es = some (some (.ref c.G)) ∧ getL "data" es = some (some (.ref c.D))
  fresh : ∀ a, c.Mut a → c.B0.get? a = none
  stay : ∀ a, X a → c.B0.get? a = none
  epl : ∀ a, c.ep a → ∃ o, h.get? a = some o
end Mine
end
section
namespace Mine
noncomputable def AOk (c : Cfg) (A : Around) (n : Nat) : Prop := A.handled = none ∧ A.depth + n < recursionLimit ∧ A.units + 8 * n + 8 < cLine ∧ ∀ l, A.frames = some l → ∀ f ∈ l, ∀ L, f.frame = some L → c.B0.get? L = none

noncomputable def FrsOk (h : Heap) : List Env → Prop
  | [] => True
  | e :: r => e.scope.kind = .function ∧ (∃ L o es k, e.frame = some L ∧ h.get? L = some o ∧ o.cls = .type "frame" ∧ o.data = .dict es k) ∧ FrsOk h r

noncomputable def Un (X Y : Addr → Prop) (a : Addr) : Prop := X a ∨ Y a
noncomputable def No (_ : Addr) : Prop := False
theorem Un.no {X : Addr → Prop} : Un X No = X := by funext a; simp [Un, No]

/-- an object's attributes -/
noncomputable def FsOk (c : Cfg) (Y : Addr → Prop) (h : Heap) (fs : List (Str × T)) (es : List DictEntry) : Prop :=
  es.length ≤ fs.length ∧ (∀ e ∈ es, e.refKey = false) ∧ ∀ p ∈ fs, ∃ v, getL p.1 es = some (some v) ∧ handedIn v = true ∧ Rep c Y h p.2 v
theorem FsOk.kp {c : Cfg} {M Y h h'} (k : Kp M h h') (hM : ∀ a, M a → Y a) {fs es} (r : FsOk c Y h fs es) : FsOk c Y h' fs es :=
  ⟨r.1, r.2.1, fun p q => let ⟨v, e, i, z⟩ := r.2.2 p q; ⟨v, e, i, Rep.kp k hM _ _ z⟩⟩
theorem FsOk.more {c : Cfg} {Y Z : Addr → Prop} {h} (hs : ∀ a, Z a → Y a ∨ h.get? a = none) {fs es} (r : FsOk c Y h fs es) : FsOk c Z h fs es :=
  ⟨r.1, r.2.1, fun p q => let ⟨v, e, i, z⟩ := r.2.2 p q; ⟨v, e, i, Rep.more hs _ _ z⟩⟩
theorem FsOk.anti {c : Cfg} {Y Z : Addr → Prop} {h} (hs : ∀ a, Z a → Y a) {fs es} (r : FsOk c Y h fs es) : FsOk c Z h fs es :=
  ⟨r.1, r.2.1, fun p q => let ⟨v, e, i, z⟩ := r.2.2 p q; ⟨v, e, i, Rep.anti hs _ _ z⟩⟩
noncomputable def OwnX (c : Cfg) (X ow : Addr → Prop) (a d : Addr) : Prop := ow a ∧ ow d ∧ ¬ X a ∧ ¬ X d ∧ ¬ c.ep a ∧ ¬ c.ep d ∧ a ≠ d
noncomputable def OwnE (c : Cfg) (X ow : Addr → Prop) (h : Heap) (a d : Addr) (fs : List (Str × T)) : Prop := OwnX c X ow a d ∧ ∃ es n, h.get? a = some (instObj c.EntC d) ∧ h.get? d = some (dictOf es n) ∧ FsOk c (Un X ow) h fs es
noncomputable def OwnL (c : Cfg) (X ow : Addr → Prop) (h : Heap) (m : Addr) (ts : List T) : Prop := ow m ∧ ¬ X m ∧ ¬ c.ep m ∧ ∃ vs k, h.get? m = some (listOf vs.toArray k) ∧ RepL c (Un X ow) h ts vs
noncomputable def VRep (c : Cfg) (X ow : Addr → Prop) (h : Heap) (t : T) (v : Value) : Prop :=
  match t with
  | .own ts => ∃ a vs k, v = .ref a ∧ ow a ∧ ¬ X a ∧ h.get? a = some (listOf vs.toArray k) ∧ RepL c (Un X ow) h ts vs
  | .ownG t os ls => Rep c (Un X ow) h t v ∧ (∀ o ∈ os, OwnE c X ow h o.1 o.2.1 o.2.2) ∧ ∀ l ∈ ls, OwnL c X ow h l.1 l.2
  | .ownO a d C fs => ∃ es n, v = .ref a ∧ OwnX c X ow a d ∧ h.get? a = some (instObj C d) ∧ h.get? d = some (dictOf es n) ∧ FsOk c (Un X ow) h fs es
  | t => Rep c (Un X ow) h t v

theorem VRep.rep {c X ow h} {t : T} {v} (r : VRep c X ow h t v) (h1 : ∀ ts, t ≠ .own ts) (h2 : ∀ a d C fs, t ≠ .ownO a d C fs) (h3 : ∀ t' os ls, t ≠ .ownG t' os ls) : Rep c (Un X ow) h t v := by
  cases t <;> first | exact r | exact absurd rfl (h1 _) | exact absurd rfl (h2 _ _ _ _) | exact absurd rfl (h3 _ _ _)
theorem VRep.of {c X ow h} {t : T} {v} (r : Rep c (Un X ow) h t v) : VRep c X ow h t v := by
  cases t <;> first | exact r | (simp only [Rep] at r)

noncomputable abbrev Loc := List (Str × T)

structure FrOk (c : Cfg) (X ow : Addr → Prop) (env : Env) (loc : Loc) (h : Heap) : Prop where
  ns : ∃ m, h.Ns env.locals m ∧ ∀ x t, loc.lookup x = some t → t ≠ .dead → env.kindOf x = some .local → ∃ v, m x = some v ∧ VRep c X ow h t v
  cells : ∀ x t, loc.lookup x = some t → t ≠ .dead → (env.kindOf x = some .cell ∨ env.kindOf x = some .free) → ∃ a v, env.cells.lookup x = some a ∧ h.IsCell a (some v) ∧ VRep c X ow h t v
  cellAt : ∀ x a, (x, a) ∈ env.cells → ∃ v, h.IsCell a v
  apart : env.cells.Pairwise fun x y => x.2 ≠ y.2
  has : ∀ x, env.kindOf x = some .cell → ∃ a, env.cells.lookup x = some a

/-- what an activation may change of what stood: the data, the feed, its own frame and cells, its own object -/
noncomputable def MutF (c : Cfg) (env : Env) (ow : Addr → Prop) (a : Addr) : Prop := c.Mut a ∨ a = env.locals ∨ (∃ x, (x, a) ∈ env.cells) ∨ ow a

structure Act (c : Cfg) (X ow : Addr → Prop) (A : Around) (n : Nat) (env : Env) (names : List (Str × NameKind)) (loc : Loc) (σ : St) (h : Heap) : Prop where
  ok : AOk c A n
  frs : ∃ l, A.frames = some l ∧ FrsOk h l
  kind : env.scope.kind = .function
  names : env.scope.names = names
  glob : env.globals = mainGlobals
  blt : env.builtins = builtinsNs
  excl : ∀ a, (a = env.locals ∨ ∃ x, (x, a) ∈ env.cells) → X a
  fr : FrOk c X ow env loc h
  rel : RelH c (Un X ow) σ h

structure CfgOk (c : Cfg) : Prop where
  X : c.K.In c.B0
  g : c.B0.Ns mainGlobals c.mg
  b : c.B0.Ns builtinsNs c.mb
  nolimit : c.B0.NoLimit

section
variable {c : Cfg} {X ow : Addr → Prop} {A : Around} {n : Nat} {env : Env} {names : List (Str × NameKind)} {loc : Loc} {σ σ' : St} {h h' : Heap}

theorem FrsOk.kp {M : Addr → Prop} (k : Kp M h h') : ∀ {l : List Env}, (∀ a, M a → ∀ o, h.get? a = some o → o.cls ≠ .type "frame") → FrsOk h l → FrsOk h' l
  | [], _, _ => trivial
  | _ :: _, hm, ⟨hk, ⟨L, o, es, n, e1, e2, e3, e4⟩, r⟩ => by
    obtain ⟨sl, q, _⟩ := k L o (fun z => hm L z o e2 e3) e2
    exact ⟨hk, ⟨L, _, es, n, e1, q, e3, e4⟩, FrsOk.kp k hm r⟩

theorem RelH.mut_list (R : RelH c X σ h) {a : Addr} (hm : c.Mut a) : ∃ o vs n, h.get? a = some o ∧ o = listOf vs n := by
  rcases hm with rfl | rfl
  · obtain ⟨vs, n, e, _⟩ := R.data; exact ⟨_, _, _, e, rfl⟩
  · obtain ⟨t, n, e⟩ := R.feed; exact ⟨_, _, _, e, rfl⟩
theorem RelH.mut_cls (R : RelH c X σ h) (a : Addr) (hm : c.Mut a) (o : Obj) (e : h.get? a = some o) : o.cls = .type "list" := by
  obtain ⟨o', vs, n, e', q⟩ := R.mut_list hm
  rw [e] at e'; cases e'; rw [q]
theorem RelH.mut_frame (R : RelH c X σ h) (a : Addr) (hm : c.Mut a) (o : Obj) (e : h.get? a = some o) : o.cls ≠ .type "frame" := by
  rw [R.mut_cls a hm o e]; decide

theorem ns_kp {M : Addr → Prop} (k : Kp M h h') {L : Addr} {m} (hL : ¬ M L) : h.Ns L m → h'.Ns L m := fun ⟨o, es, ep, ho, hd, r⟩ => by
  obtain ⟨sl, e, _⟩ := k L o hL ho
  exact ⟨_, es, ep, e, hd, r⟩
theorem cell_kp {M : Addr → Prop} (k : Kp M h h') {a : Addr} {v} (hL : ¬ M a) : h.IsCell a v → h'.IsCell a v := fun ⟨o, ho, hd⟩ => by
  obtain ⟨sl, e, _⟩ := k a o hL ho
  exact ⟨_, e, hd⟩
theorem RelH.not_ns (R : RelH c X σ h) {L : Addr} {m} (hn : h.Ns L m) : ¬ c.Mut L := fun q => by
  obtain ⟨o, es, ep, ho, hd, _⟩ := hn
  obtain ⟨o', vs, n, e', q'⟩ := R.mut_list q
  rw [ho] at e'; cases e'; rw [q'] at hd; cases hd
theorem RelH.not_cell (R : RelH c X σ h) {L : Addr} {v} (hn : h.IsCell L v) : ¬ c.Mut L := fun q => by
  obtain ⟨o, ho, hd⟩ := hn
  obtain ⟨o', vs, n, e', q'⟩ := R.mut_list q
  rw [ho] at e'; cases e'; rw [q'] at hd; cases hd

theorem OwnE.kp {M : Addr → Prop} (k : Kp M h h') (hM : ∀ a, M a → X a) {a d fs} (r : OwnE c X ow h a d fs) : OwnE c X ow h' a d fs :=
  let ⟨hx, es, n, h1, h2, h3⟩ := r
  ⟨hx, es, n, k.get (fun q => hx.2.2.1 (hM _ q)) h1 inst_cls, k.get (fun q => hx.2.2.2.1 (hM _ q)) h2 dict_cls, h3.kp k fun a q => .inl (hM a q)⟩
theorem OwnL.kp {M : Addr → Prop} (k : Kp M h h') (hM : ∀ a, M a → X a) {m ts} (r : OwnL c X ow h m ts) : OwnL c X ow h' m ts :=
  let ⟨h0, h1, h2, vs, n, h3, h4⟩ := r
  ⟨h0, h1, h2, vs, n, k.get (fun q => h1 (hM _ q)) h3 list_cls, RepL.kp k (fun a q => .inl (hM a q)) _ _ h4⟩
theorem VRep.kp {M : Addr → Prop} (k : Kp M h h') (hM : ∀ a, M a → X a) {t v} (hs : VRep c X ow h t v) : VRep c X ow h' t v := by
  have hU : ∀ a, M a → Un X ow a := fun a q => .inl (hM a q)
  cases t with
  | own ts =>
    obtain ⟨a, vs, n, e, h1, h2, h3, h4⟩ := hs
    exact ⟨a, vs, n, e, h1, h2, k.get (fun q => h2 (hM _ q)) h3 list_cls, RepL.kp k hU ts vs h4⟩
  | ownG t os ls => exact ⟨Rep.kp k hU _ _ hs.1, fun o q => (hs.2.1 o q).kp k hM, fun l q => (hs.2.2 l q).kp k hM⟩
  | ownO a d C fs =>
    obtain ⟨es, n, e, hx, h1, h2, h3⟩ := hs
    exact ⟨es, n, e, hx, k.get (fun q => hx.2.2.1 (hM _ q)) h1 inst_cls, k.get (fun q => hx.2.2.2.1 (hM _ q)) h2 dict_cls, h3.kp k hU⟩
  | _ => exact Rep.kp k hU _ v hs

theorem FrOk.kp {M : Addr → Prop} (k : Kp M h h') (hM : ∀ a, M a → X a) (hn : ∀ L m, h.Ns L m → ¬ M L) (hc : ∀ a v, h.IsCell a v → ¬ M a) (F : FrOk c X ow env loc h) : FrOk c X ow env loc h' where
  ns := by
    obtain ⟨m, h1, h2⟩ := F.ns
    exact ⟨m, ns_kp k (hn _ _ h1) h1, fun x t e d q => let ⟨v, a, b⟩ := h2 x t e d q; ⟨v, a, b.kp k hM⟩⟩
  cells := fun x t e d q => let ⟨a, v, h1, h2, h3⟩ := F.cells x t e d q; ⟨a, v, h1, cell_kp k (hc _ _ h2) h2, h3.kp k hM⟩
  cellAt := fun x a q => let ⟨v, h1⟩ := F.cellAt x a q; ⟨v, cell_kp k (hc _ _ h1) h1⟩
  apart := F.apart
  has := F.has

/-- what an expression leaves -/
theorem Act.kp (W : Act c X ow A n env names loc σ h) (k : Kp c.Mut h h') (R : RelH c (Un X ow) σ' h') (hX : ∀ a, c.Mut a → X a) : Act c X ow A n env names loc σ' h' where
  ok := W.ok
  frs := let ⟨l, e, q⟩ := W.frs; ⟨l, e, q.kp k W.rel.mut_frame⟩
  kind := W.kind
  names := W.names
  glob := W.glob
  blt := W.blt
  excl := W.excl
  fr := W.fr.kp k hX (fun _ _ => W.rel.not_ns) (fun _ _ => W.rel.not_cell)
  rel := R
end

/-- the expression e comes to t and leaves σ' -/
noncomputable def EvTo (c : Cfg) (n : Nat) (names : List (Str × NameKind)) (loc : Loc) (σ : St) (e : PySem.Expr) (t : T) (σ' : St) : Prop :=
  CfgOk c → ∀ (X ow : Addr → Prop) (A : Around) (env : Env) (s : Shared) (Q E : Value → Shared → Prop), (∀ a, c.Mut a → X a) → Act c X ow A n env names loc σ s.heap →
    (∀ v h' tk, RelH c (Un X ow) σ' h' → Kp c.Mut s.heap h' → Rep c (Un X ow) h' t v → Q v { s with heap := h', toks := tk }) →
    wpAny (model c.prog c.w) A (eval e env) Q E s
/-- the test e comes to b -/
noncomputable def TsTo (c : Cfg) (n : Nat) (names : List (Str × NameKind)) (loc : Loc) (σ : St) (e : PySem.Expr) (b : Bool) (σ' : St) : Prop :=
  CfgOk c → ∀ (X ow : Addr → Prop) (A : Around) (env : Env) (s : Shared) (Q : Bool → Shared → Prop) (E : Value → Shared → Prop), (∀ a, c.Mut a → X a) → Act c X ow A n env names loc σ s.heap →
    (∀ h' tk, RelH c (Un X ow) σ' h' → Kp c.Mut s.heap h' → Q b { s with heap := h', toks := tk }) →
    wpAny (model c.prog c.w) A (isTrue e env (eval e env)) Q E s
/-- the expressions es come to ts, in their order -/
noncomputable def EvsTo (c : Cfg) (n : Nat) (names : List (Str × NameKind)) (loc : Loc) (σ : St) (es : List PySem.Expr) (ts : List T) (σ' : St) : Prop :=
  CfgOk c → ∀ (X ow : Addr → Prop) (A : Around) (env : Env) (pos : Pos) (s : Shared) (Q : List Value → Shared → Prop) (E : Value → Shared → Prop), (∀ a, c.Mut a → X a) → Act c X ow A n env names loc σ s.heap →
    (∀ vs h' tk, RelH c (Un X ow) σ' h' → Kp c.Mut s.heap h' → RepL c (Un X ow) h' ts vs → Q vs { s with heap := h', toks := tk }) →
    wpAny (model c.prog c.w) A (spliced (backTo pos (starEach es env))) Q E s

section
variable {c : Cfg} {n : Nat} {names : List (Str × NameKind)} {loc : Loc} {σ σ₁ σ₂ σ₃ : St}

/-- two expressions, one behind the other; then the rest -/
theorem two {e₁ e₂ : PySem.Expr} {t₁ t₂ : T} (h₁ : EvTo c n names loc σ e₁ t₁ σ₁) (h₂ : EvTo c n names loc σ₁ e₂ t₂ σ₂) (K : CfgOk c) {X ow A env s} {Q E : Value → Shared → Prop} {f : Value → Value → Sem Value}
    (hX : ∀ a, c.Mut a → X a) (W : Act c X ow A n env names loc σ s.heap)
    (h : ∀ a b h' tk, RelH c (Un X ow) σ₂ h' → Kp c.Mut s.heap h' → Rep c (Un X ow) h' t₁ a → Rep c (Un X ow) h' t₂ b → wpAny (model c.prog c.w) A (f a b) Q E { s with heap := h', toks := tk }) :
    wpAny (model c.prog c.w) A (eval e₁ env) (fun a s₁ => wpAny (model c.prog c.w) A (eval e₂ env) (fun b s₂ => wpAny (model c.prog c.w) A (f a b) Q E s₂) E s₁) E s :=
  h₁ K X ow A env s _ E hX W fun a h' tk R k r => h₂ K X ow A env _ _ E hX (W.kp k R hX) fun b h'' tk' R' k' r' =>
    h a b h'' tk' R' (k.trans k') (Rep.kp k' (fun a q => .inl (hX a q)) _ _ r) r'

theorem ev_int {i : Int} {k : Nat} {p : Pos} : EvTo c n names loc σ (.Constant (.int i) k p) (.int i) σ := fun _ X ow A env s Q E hX W h =>
  wpAny_Constant_int (h _ s.heap _ W.rel (Kp.refl _ _) (by simp only [Rep]; exact ⟨_, rfl⟩))
theorem ev_str {x : Str} {k : Nat} {p : Pos} : EvTo c n names loc σ (.Constant (.str x) k p) (.str x) σ := fun _ X ow A env s Q E hX W h =>
  wpAny_Constant_str (h _ s.heap _ W.rel (Kp.refl _ _) (by simp only [Rep]; exact ⟨_, rfl⟩))
theorem ev_none {k : Nat} {p : Pos} : EvTo c n names loc σ (.Constant .none k p) .none σ := fun _ X ow A env s Q E hX W h =>
  wpAny_Constant_none (h _ s.heap s.toks W.rel (Kp.refl _ _) (by simp only [Rep]))
theorem ev_bool {b : Bool} {k : Nat} {p : Pos} : EvTo c n names loc σ (.Constant (.bool b) k p) (.bool b) σ := fun _ X ow A env s Q E hX W h =>
  wpAny_Constant_bool (h _ s.heap s.toks W.rel (Kp.refl _ _) (by simp only [Rep]))

noncomputable def plT : T → Bool
  | .dead => false
  | .own _ => false
  | .ownO _ _ _ _ => false
  | .ownG _ _ _ => false
  | _ => true
theorem plT_0 {t : T} (h : plT t = true) : t ≠ .dead := fun e => by rw [e] at h; cases h
theorem plT_1 {t : T} (h : plT t = true) : ∀ ts, t ≠ .own ts := fun _ e => by rw [e] at h; cases h
theorem plT_2 {t : T} (h : plT t = true) : ∀ a d C fs, t ≠ .ownO a d C fs := fun _ _ _ _ e => by rw [e] at h; cases h
theorem plT_3 {t : T} (h : plT t = true) : ∀ t' os ls, t ≠ .ownG t' os ls := fun _ _ _ e => by rw [e] at h; cases h
/-- a name of the frame's -/
theorem ev_loc {x : Str} {p : Pos} {t : T} (hl : loc.lookup x = some t) (hk : names.lookup x = some .local) (hq : plT t = true := by rfl)
    (hd : (x == ("__debug__" : Str)) = false := by decide) : EvTo c n names loc σ (.Name x p) t σ := fun _ X ow A env s Q E hX W h => by
  obtain ⟨m, hn, hm⟩ := W.fr.ns
  have hk' : env.kindOf x = some .local := by show env.scope.names.lookup x = _; rw [W.names]; exact hk
  obtain ⟨v, hv, r⟩ := hm x t hl (plT_0 hq) hk'
  exact wpAny_Name (wpAny_loadName_local W.kind hk' hn hv (h _ s.heap s.toks W.rel (Kp.refl _ _) (r.rep (plT_1 hq) (plT_2 hq) (plT_3 hq)))) hd
theorem ev_cell {x : Str} {p : Pos} {t : T} (hl : loc.lookup x = some t) (hk : names.lookup x = some .cell) (hq : plT t = true := by rfl)
    (hd : (x == ("__debug__" : Str)) = false := by decide) : EvTo c n names loc σ (.Name x p) t σ := fun _ X ow A env s Q E hX W h => by
  have hk' : env.kindOf x = some .cell := by show env.scope.names.lookup x = _; rw [W.names]; exact hk
  obtain ⟨a, v, q3, q4, r⟩ := W.fr.cells x t hl (plT_0 hq) (.inl hk')
  exact wpAny_Name (wpAny_loadName_cell W.kind hk' q3 q4 (h _ s.heap s.toks W.rel (Kp.refl _ _) (r.rep (plT_1 hq) (plT_2 hq) (plT_3 hq)))) hd
/-- a name of the top's: an int -/
theorem ev_gint {x : Str} {p : Pos} {i : Int} {tk : Tok} (hg : c.mg x = some (.int i tk)) (hk : names.lookup x = some .globalImplicit) (hd : (x == ("__debug__" : Str)) = false := by decide) :
    EvTo c n names loc σ (.Name x p) (.int i) σ := fun K X ow A env s Q E hX W h => by
  have hk' : env.kindOf x = some .globalImplicit := by show env.scope.names.lookup x = _; rw [W.names]; exact hk
  refine Calls.Name_function_global W.kind hk' (Calls.loadGlobal_global (env := env) (by rw [W.glob]; exact K.g.keeps W.rel.base) hg ?_) hd
  exact h _ s.heap s.toks W.rel (Kp.refl _ _) (by simp only [Rep]; exact ⟨_, rfl⟩)

theorem ev_add {l r : PySem.Expr} {p : Pos} {a b : Int} (h₁ : EvTo c n names loc σ l (.int a) σ₁) (h₂ : EvTo c n names loc σ₁ r (.int b) σ₂) : EvTo c n names loc σ (.BinOp l .Add r p) (.int (a + b)) σ₂ :=
  fun K X ow A env s Q E hX W h => wpAny_BinOp (two h₁ h₂ K hX W fun v w h' tk R k r1 r2 => by
    simp only [Rep] at r1 r2
    obtain ⟨t, rfl⟩ := r1; obtain ⟨u, rfl⟩ := r2
    exact add_int (h _ h' _ R k (by simp only [Rep]; exact ⟨_, rfl⟩)))
theorem ev_sub {l r : PySem.Expr} {p : Pos} {a b : Int} (h₁ : EvTo c n names loc σ l (.int a) σ₁) (h₂ : EvTo c n names loc σ₁ r (.int b) σ₂) : EvTo c n names loc σ (.BinOp l .Sub r p) (.int (a - b)) σ₂ :=
  fun K X ow A env s Q E hX W h => wpAny_BinOp (two h₁ h₂ K hX W fun v w h' tk R k r1 r2 => by
    simp only [Rep] at r1 r2
    obtain ⟨t, rfl⟩ := r1; obtain ⟨u, rfl⟩ := r2
    exact sub_int (h _ h' _ R k (by simp only [Rep]; exact ⟨_, rfl⟩)))
end
end Mine
end
section
namespace Mine
section
variable {c : Cfg} {n : Nat} {names : List (Str × NameKind)} {loc : Loc} {σ σ₁ σ₂ σ₃ : St}

theorem ev_mul {l r : PySem.Expr} {p : Pos} {a b : Int} (h₁ : EvTo c n names loc σ l (.int a) σ₁) (h₂ : EvTo c n names loc σ₁ r (.int b) σ₂) (hm : IntMulOk a b) : EvTo c n names loc σ (.BinOp l .Mult r p) (.int (a * b)) σ₂ :=
  fun K X ow A env s Q E hX W h => wpAny_BinOp (two h₁ h₂ K hX W fun v w h' tk R k r1 r2 => by
    simp only [Rep] at r1 r2
    obtain ⟨t, rfl⟩ := r1; obtain ⟨u, rfl⟩ := r2
    exact PyProof.Rows.mul_int (h _ h' _ R k (by simp only [Rep]; exact ⟨_, rfl⟩)) hm)
theorem ev_fdiv {l r : PySem.Expr} {p : Pos} {a b : Int} (h₁ : EvTo c n names loc σ l (.int a) σ₁) (h₂ : EvTo c n names loc σ₁ r (.int b) σ₂) (hb : b ≠ 0) (hs : b.natAbs < 1073741824) : EvTo c n names loc σ (.BinOp l .FloorDiv r p) (.int (a.fdiv b)) σ₂ :=
  fun K X ow A env s Q E hX W h => wpAny_BinOp (two h₁ h₂ K hX W fun v w h' tk R k r1 r2 => by
    simp only [Rep] at r1 r2
    obtain ⟨t, rfl⟩ := r1; obtain ⟨u, rfl⟩ := r2
    exact floordiv_int hb (h _ h' _ R k (by simp only [Rep]; exact ⟨_, rfl⟩)) (.inl (PyProof.noPylong_small hs)))
theorem ev_mod {l r : PySem.Expr} {p : Pos} {a b : Int} (h₁ : EvTo c n names loc σ l (.int a) σ₁) (h₂ : EvTo c n names loc σ₁ r (.int b) σ₂) (hb : b ≠ 0) : EvTo c n names loc σ (.BinOp l .Mod r p) (.int (a.fmod b)) σ₂ :=
  fun K X ow A env s Q E hX W h => wpAny_BinOp (two h₁ h₂ K hX W fun v w h' tk R k r1 r2 => by
    simp only [Rep] at r1 r2
    obtain ⟨t, rfl⟩ := r1; obtain ⟨u, rfl⟩ := r2
    exact mod_int' hb (h _ h' _ R k (by simp only [Rep]; exact ⟨_, rfl⟩)))
theorem ev_and {l r : PySem.Expr} {p : Pos} {a b : Int} (h₁ : EvTo c n names loc σ l (.int a) σ₁) (h₂ : EvTo c n names loc σ₁ r (.int b) σ₂) : EvTo c n names loc σ (.BinOp l .BitAnd r p) (.int (Builtin.bitAnd a b)) σ₂ :=
  fun K X ow A env s Q E hX W h => wpAny_BinOp (two h₁ h₂ K hX W fun v w h' tk R k r1 r2 => by
    simp only [Rep] at r1 r2
    obtain ⟨t, rfl⟩ := r1; obtain ⟨u, rfl⟩ := r2
    exact and_int (h _ h' _ R k (by simp only [Rep]; exact ⟨_, rfl⟩)))
theorem ev_or {l r : PySem.Expr} {p : Pos} {a b : Int} (h₁ : EvTo c n names loc σ l (.int a) σ₁) (h₂ : EvTo c n names loc σ₁ r (.int b) σ₂) : EvTo c n names loc σ (.BinOp l .BitOr r p) (.int (Builtin.bitOr a b)) σ₂ :=
  fun K X ow A env s Q E hX W h => wpAny_BinOp (two h₁ h₂ K hX W fun v w h' tk R k r1 r2 => by
    simp only [Rep] at r1 r2
    obtain ⟨t, rfl⟩ := r1; obtain ⟨u, rfl⟩ := r2
    exact or_int (h _ h' _ R k (by simp only [Rep]; exact ⟨_, rfl⟩)))

/-- a new object: nothing that stood moves -/
theorem rel_push {X : Addr → Prop} {h : Heap} (R : RelH c X σ h) (o : Obj) : RelH c X σ (h.push o) where
  base := fun a x e => Heap.get?_push_of_some _ (R.base a x e)
  live := fun a q => let ⟨x, e⟩ := R.live a q; ⟨x, Heap.get?_push_of_some _ e⟩
  muts := R.muts
  ne := R.ne
  data := let ⟨vs, n, e, i⟩ := R.data; ⟨vs, n, Heap.get?_push_of_some _ e, i⟩
  feed := let ⟨t, n, e⟩ := R.feed; ⟨t, n, Heap.get?_push_of_some _ e⟩
  cells := ⟨R.cells.1, let ⟨vs, n, e, i⟩ := R.cells.2; ⟨vs, n, Heap.get?_push_of_some _ e, i⟩⟩
  given := ⟨R.given.1, let ⟨vs, n, e, i⟩ := R.given.2; ⟨vs, n, Heap.get?_push_of_some _ e, i⟩⟩
  obj := ⟨R.obj.1, Heap.get?_push_of_some _ R.obj.2⟩
  dict := ⟨R.dict.1, let ⟨es, n, e, r⟩ := R.dict.2; ⟨es, n, Heap.get?_push_of_some _ e, r⟩⟩
  fresh := R.fresh
  stay := R.stay
  epl := fun a q => let ⟨x, e⟩ := R.epl a q; ⟨x, Heap.get?_push_of_some _ e⟩
/-- what stood stands, and D, Fd too -/
theorem rel_keeps {X : Addr → Prop} {h h' : Heap} (R : RelH c X σ h) (k : ∀ a o, h.get? a = some o → h'.get? a = some o) : RelH c X σ h' where
  base := fun a x e => k _ _ (R.base a x e)
  live := fun a q => let ⟨x, e⟩ := R.live a q; ⟨x, k _ _ e⟩
  muts := R.muts
  ne := R.ne
  data := let ⟨vs, n, e, i⟩ := R.data; ⟨vs, n, k _ _ e, i⟩
  feed := let ⟨t, n, e⟩ := R.feed; ⟨t, n, k _ _ e⟩
  cells := ⟨R.cells.1, let ⟨vs, n, e, i⟩ := R.cells.2; ⟨vs, n, k _ _ e, i⟩⟩
  given := ⟨R.given.1, let ⟨vs, n, e, i⟩ := R.given.2; ⟨vs, n, k _ _ e, i⟩⟩
  obj := ⟨R.obj.1, k _ _ R.obj.2⟩
  dict := ⟨R.dict.1, let ⟨es, n, e, r⟩ := R.dict.2; ⟨es, n, k _ _ e, r⟩⟩
  fresh := R.fresh
  stay := R.stay
  epl := fun a q => let ⟨x, e⟩ := R.epl a q; ⟨x, k _ _ e⟩
theorem rel_not_size {X : Addr → Prop} {h : Heap} (R : RelH c X σ h) : ¬ X h.objs.size := fun q => let ⟨x, e⟩ := R.live _ q; Nat.lt_irrefl _ (Heap.lt_size e)

theorem ints_isList {h : Heap} {a : Addr} {vs : List Value} {k : Nat} (e : h.get? a = some (listOf vs.toArray k)) : h.IsList a vs.toArray := ⟨_, e, rfl, k, rfl⟩
theorem ints_len {vs : List Value} {l : List Int} (h : IntsAre vs l) : vs.length = l.length := h.length

/-- a new list of ints: its heap, its relation -/
theorem new_ints {X : Addr → Prop} {h : Heap} (R : RelH c X σ h) {vs : List Value} {l : List Int} (i : IntsAre vs l) :
    RelH c X σ (h.push { cls := .type "list", data := .seq vs.toArray }) ∧ Kp c.Mut h (h.push { cls := .type "list", data := .seq vs.toArray }) ∧
      Rep c X (h.push { cls := .type "list", data := .seq vs.toArray }) (.ints l) (.ref h.objs.size) :=
  ⟨rel_push R _, Kp.push _, by simp only [Rep]; exact ⟨_, rfl, rel_not_size R, vs, 0, Heap.get?_push_size _ rfl, i⟩⟩
theorem new_tup {X : Addr → Prop} {h : Heap} (R : RelH c X σ h) (hM : ∀ a, c.Mut a → X a) {vs : List Value} {ts : List T} (i : RepL c X h ts vs) :
    RelH c X σ (h.push { cls := .type "tuple", data := .seq vs.toArray }) ∧ Kp c.Mut h (h.push { cls := .type "tuple", data := .seq vs.toArray }) ∧
      Rep c X (h.push { cls := .type "tuple", data := .seq vs.toArray }) (.tup ts) (.ref h.objs.size) :=
  ⟨rel_push R _, Kp.push _, by simp only [Rep]; exact ⟨_, vs, rfl, rel_not_size R, Heap.get?_push_size _ rfl, RepL.kp (Kp.push _) hM _ _ i⟩⟩

theorem unX {X ow : Addr → Prop} (hX : ∀ a, c.Mut a → X a) : ∀ a, c.Mut a → Un X ow a := fun a q => .inl (hX a q)

/-- the items of a display -/
theorem evs_nil : EvsTo c n names loc σ [] [] σ := fun _ X ow A env pos s Q E hX W h => wpAny_items_nil (h [] s.heap s.toks W.rel (Kp.refl _ _) (by simp only [RepL]))
theorem evs_cons {e : PySem.Expr} {es : List PySem.Expr} {t : T} {ts : List T} (h₁ : EvTo c n names loc σ e t σ₁) (h₂ : EvsTo c n names loc σ₁ es ts σ₂)
    (he : ∀ env, starEach (e :: es) env = (false, eval e env) :: starEach es env := by intro _; rfl) : EvsTo c n names loc σ (e :: es) (t :: ts) σ₂ := fun K X ow A env pos s Q E hX W h =>
  wpAny_items_cons (h₁ K X ow A env s _ E hX W fun v h' tk R k r => h₂ K X ow A env pos _ _ E hX (W.kp k R hX) fun vs h'' tk' R' k' r' =>
    h (v :: vs) h'' tk' R' (k.trans k') (by simp only [RepL]; exact ⟨v, vs, rfl, Rep.kp k' (unX hX) _ _ r, r'⟩)) (he env)

theorem repL_ints {X : Addr → Prop} {h : Heap} : ∀ (l : List Int) (vs : List Value), RepL c X h (l.map T.int) vs → IntsAre vs l
  | [], vs, r => by simp only [List.map_nil, RepL] at r; rw [r]; exact .nil
  | x :: l, vs, r => by
    simp only [List.map_cons, RepL] at r
    obtain ⟨v, r', e, h1, h2⟩ := r
    simp only [Rep] at h1
    obtain ⟨t, rfl⟩ := h1
    rw [e]; exact .cons x t (repL_ints l r' h2)
theorem ints_repL {X : Addr → Prop} {h : Heap} : ∀ {vs : List Value} {l : List Int}, IntsAre vs l → RepL c X h (l.map T.int) vs
  | _, _, .nil => by simp only [List.map_nil, RepL]
  | _, _, .cons x t r => by simp only [List.map_cons, RepL]; exact ⟨_, _, rfl, by simp only [Rep]; exact ⟨t, rfl⟩, ints_repL r⟩

theorem ev_ints {es : List PySem.Expr} {ts : List T} {l : List Int} {p : Pos} (h₁ : EvsTo c n names loc σ es ts σ₁) (hl : ts = l.map T.int) (hz : l.length ≤ sizeLine) : EvTo c n names loc σ (.List es p) (.ints l) σ₁ := fun K X ow A env s Q E hX W h =>
  wpAny_List (h₁ K X ow A env p s _ E hX W fun vs h' tk R k r => by
    subst hl
    have i := repL_ints l vs r
    obtain ⟨a1, a2, a3⟩ := new_ints R i
    exact ⟨by rw [ints_len i]; exact hz, h _ _ tk a1 (k.trans a2) a3⟩)
theorem ev_tup {es : List PySem.Expr} {ts : List T} {p : Pos} {kk : Nat} (h₁ : EvsTo c n names loc σ es ts σ₁) (hz : ts.length ≤ sizeLine) : EvTo c n names loc σ (.Tuple es kk p) (.tup ts) σ₁ := fun K X ow A env s Q E hX W h =>
  wpAny_Tuple (h₁ K X ow A env p s _ E hX W fun vs h' tk R k r => by
    obtain ⟨a1, a2, a3⟩ := new_tup R (unX hX) r
    exact ⟨by rw [RepL.length _ _ r]; exact hz, h _ _ tk a1 (k.trans a2) a3⟩)

/-- list + list, list * int -/
theorem ev_cat {l r : PySem.Expr} {p : Pos} {a b : List Int} (h₁ : EvTo c n names loc σ l (.ints a) σ₁) (h₂ : EvTo c n names loc σ₁ r (.ints b) σ₂) (hz : a.length + b.length ≤ sizeLine) : EvTo c n names loc σ (.BinOp l .Add r p) (.ints (a ++ b)) σ₂ :=
  fun K X ow A env s Q E hX W h => wpAny_BinOp (two h₁ h₂ K hX W fun v w h' tk R k r1 r2 => by
    simp only [Rep] at r1 r2
    obtain ⟨x, rfl, _, vs, n1, e1, i1⟩ := r1; obtain ⟨y, rfl, _, ws, n2, e2, i2⟩ := r2
    obtain ⟨a1, a2, a3⟩ := new_ints R (IntsAre.append i1 i2)
    have e : vs.toArray ++ ws.toArray = (vs ++ ws).toArray := by simp
    refine concat_meets ⟨_, e1, rfl⟩ ⟨_, e2, rfl⟩ noFill_list_add seq_list_add PySem.F.slot_list_add PySem.F.entry_list_add (PySem.F.args_list_add_2 _ _)
      (list_addW x y vs.toArray ws.toArray n1 n2 _ _ _ _ (by rw [List.size_toArray, List.size_toArray, ints_len i1, ints_len i2]; exact hz)) ⟨e1, e2, ?_⟩
    rw [e]
    exact h _ _ tk a1 (k.trans a2) a3)

theorem IntsAre.rep {v : Value} {x : Int} {t : Tok} (hv : v = .int x t) : ∀ k : Nat, IntsAre (List.replicate k v) (List.replicate k x)
  | 0 => .nil
  | k + 1 => by rw [List.replicate_succ, List.replicate_succ, hv]; exact .cons x t (hv ▸ IntsAre.rep hv k)
/-- [a] * k -/
theorem ev_rep {l r : PySem.Expr} {p : Pos} {a : Int} {k : Int} (h₁ : EvTo c n names loc σ l (.ints [a]) σ₁) (h₂ : EvTo c n names loc σ₁ r (.int k) σ₂) (h0 : 0 ≤ k) (hz : k ≤ 1000000) : EvTo c n names loc σ (.BinOp l .Mult r p) (.ints (List.replicate k.toNat a)) σ₂ :=
  fun K X ow A env s Q E hX W h => wpAny_BinOp (two h₁ h₂ K hX W fun v w h' tk R kp r1 r2 => by
    simp only [Rep] at r1 r2
    obtain ⟨x, rfl, _, vs, n1, e1, i1⟩ := r1; obtain ⟨u, rfl⟩ := r2
    cases i1 with
    | cons _ t i1 =>
    cases i1
    have hsz : (#[Value.int a t] : Array Value).size * k.toNat ≤ 2 ^ 24 := by show 1 * k.toNat ≤ 2 ^ 24; (first | lia | omega)
    obtain ⟨a1, a2, a3⟩ := new_ints R (IntsAre.rep (v := .int a t) rfl k.toNat)
    refine wpAny_binaryOp_repeat_ref (T := "list") (U := "int") (by decide) ⟨_, e1, rfl⟩ (fun s' => typeIs_int s' k u) noFill_list_mul PySem.F.fills_int_mul PySem.F.slot_int_rmul repeat_list PySem.F.slot_int_index.lookup
      (call_meets PySem.F.slot_int_rmul (typeIs_int _ k u) PySem.F.entry_int_rmul (PySem.F.args_int_rmul_2 _ _) (int___rmul___int_list k u x _ n1)
        ⟨e1, rfl, ⟨_, e1, rfl⟩, call_meets PySem.F.slot_list_mul ⟨_, e1, rfl⟩ PySem.F.entry_list_mul (PySem.F.args_list_mul_2 _ _)
          (AutoListH.list___mul___list_int_3 x _ n1 k u (by simp [Builtin.List.listFitsIndex]; (first | lia | omega)) (by simp; (first | lia | omega)) (by simp [Builtin.List.listTooLong, sizeLine]; (first | lia | omega)))
          ⟨e1, ?_⟩⟩)
    have e : List.foldl (fun x1 x2 => x1 ++ x2) #[] (List.replicate (if ([Value.int a t].toArray).isEmpty = true then 0 else k.toNat) [Value.int a t].toArray) = (List.replicate k.toNat (Value.int a t)).toArray := by
      simp only [List.isEmpty_toArray, List.isEmpty_cons, Bool.false_eq_true, if_false, listMul_foldl]
      apply Array.ext'
      simp
    rw [e]
    exact h _ _ tk a1 (kp.trans a2) a3)

/-- two values compared -/
noncomputable def CmpTo (c : Cfg) (n : Nat) (op : CmpOp) (t₁ t₂ : T) (b : Bool) : Prop :=
  CfgOk c → ∀ (X : Addr → Prop) (A : Around) (s : Shared) (v₁ v₂ : Value) (Q E : Value → Shared → Prop), AOk c A n → Rep c X s.heap t₁ v₁ → Rep c X s.heap t₂ v₂ →
    (∀ tk, Q (.bool b) { s with toks := tk }) → wpAny (model c.prog c.w) A (compareOp op v₁ v₂) Q E s

theorem cmp_lt {a b : Int} : CmpTo c n .Lt (.int a) (.int b) (decide (a < b)) := fun _ X A s v w Q E _ r1 r2 h => by
  simp only [Rep] at r1 r2; obtain ⟨t, rfl⟩ := r1; obtain ⟨u, rfl⟩ := r2; exact lt_int (h s.toks)
theorem cmp_gt {a b : Int} : CmpTo c n .Gt (.int a) (.int b) (decide (b < a)) := fun _ X A s v w Q E _ r1 r2 h => by
  simp only [Rep] at r1 r2; obtain ⟨t, rfl⟩ := r1; obtain ⟨u, rfl⟩ := r2; exact gt_int (h s.toks)
theorem cmp_le {a b : Int} : CmpTo c n .LtE (.int a) (.int b) (decide (a ≤ b)) := fun _ X A s v w Q E _ r1 r2 h => by
  simp only [Rep] at r1 r2; obtain ⟨t, rfl⟩ := r1; obtain ⟨u, rfl⟩ := r2; exact PyProof.Rows.le_int (h s.toks)
theorem cmp_ge {a b : Int} : CmpTo c n .GtE (.int a) (.int b) (decide (b ≤ a)) := fun _ X A s v w Q E _ r1 r2 h => by
  simp only [Rep] at r1 r2; obtain ⟨t, rfl⟩ := r1; obtain ⟨u, rfl⟩ := r2; exact PyProof.Rows.ge_int (h s.toks)
theorem cmp_eq {a b : Int} : CmpTo c n .Eq (.int a) (.int b) (a == b) := fun _ X A s v w Q E _ r1 r2 h => by
  simp only [Rep] at r1 r2; obtain ⟨t, rfl⟩ := r1; obtain ⟨u, rfl⟩ := r2; exact PyProof.Rows.eq_int (h s.toks)
theorem cmp_ne {a b : Int} : CmpTo c n .NotEq (.int a) (.int b) (a != b) := fun _ X A s v w Q E _ r1 r2 h => by
  simp only [Rep] at r1 r2; obtain ⟨t, rfl⟩ := r1; obtain ⟨u, rfl⟩ := r2; exact PyProof.Rows.ne_int (h s.toks)
theorem cmp_eq_str {a b : Str} : CmpTo c n .Eq (.str a) (.str b) (a == b) := fun _ X A s v w Q E _ r1 r2 h => by
  simp only [Rep] at r1 r2; obtain ⟨t, rfl⟩ := r1; obtain ⟨u, rfl⟩ := r2; exact PyProof.Rows.eq_str (h s.toks)
theorem cmp_ne_str {a b : Str} : CmpTo c n .NotEq (.str a) (.str b) (a != b) := fun _ X A s v w Q E _ r1 r2 h => by
  simp only [Rep] at r1 r2; obtain ⟨t, rfl⟩ := r1; obtain ⟨u, rfl⟩ := r2; exact PyProof.Rows.ne_str (h s.toks)
theorem cmp_eq_si {a : Str} {b : Int} : CmpTo c n .Eq (.str a) (.int b) false := fun _ X A s v w Q E _ r1 r2 h => by
  simp only [Rep] at r1 r2; obtain ⟨t, rfl⟩ := r1; obtain ⟨u, rfl⟩ := r2; exact EqMixed.eq_str_int (h s.toks)
theorem cmp_eq_is {a : Int} {b : Str} : CmpTo c n .Eq (.int a) (.str b) false := fun _ X A s v w Q E _ r1 r2 h => by
  simp only [Rep] at r1 r2; obtain ⟨t, rfl⟩ := r1; obtain ⟨u, rfl⟩ := r2; exact EqMixed.eq_int_str (h s.toks)
theorem cmp_ne_si {a : Str} {b : Int} : CmpTo c n .NotEq (.str a) (.int b) true := fun _ X A s v w Q E _ r1 r2 h => by
  simp only [Rep] at r1 r2; obtain ⟨t, rfl⟩ := r1; obtain ⟨u, rfl⟩ := r2; exact EqMixed.ne_str_int (h s.toks)
theorem cmp_ne_bool {a b : Bool} : CmpTo c n .NotEq (.bool a) (.bool b) (a != b) := fun _ X A s v w Q E _ r1 r2 h => by
  simp only [Rep] at r1 r2; subst r1 r2; exact PyProof.Rows.ne_bool (h s.toks)
theorem cmp_is_none {t : T} {b : Bool} (hb : ∀ (X : Addr → Prop) h v, Rep c X h t v → (v == .none) = b) : CmpTo c n .Is t .none b := fun _ X A s v w Q E _ r1 r2 h => by
  have := hb X s.heap v r1
  simp only [Rep] at r2; subst r2; exact is_none (by rw [this]; exact h s.toks)
theorem cmp_isnot_none {t : T} {b : Bool} (hb : ∀ (X : Addr → Prop) h v, Rep c X h t v → (v == .none) = b) : CmpTo c n .IsNot t .none (!b) := fun _ X A s v w Q E _ r1 r2 h => by
  have := hb X s.heap v r1
  simp only [Rep] at r2; subst r2; exact isNot_none (by rw [this]; exact h s.toks)
theorem none_is (X : Addr → Prop) (h : Heap) (v : Value) (r : Rep c X h .none v) : (v == .none) = true := by simp only [Rep] at r; subst r; rfl
theorem int_not_none {i : Int} (X : Addr → Prop) (h : Heap) (v : Value) (r : Rep c X h (.int i) v) : (v == .none) = false := by simp only [Rep] at r; obtain ⟨t, rfl⟩ := r; rfl
theorem tup_not_none {ts : List T} (X : Addr → Prop) (h : Heap) (v : Value) (r : Rep c X h (.tup ts) v) : (v == .none) = false := by simp only [Rep] at r; obtain ⟨_, _, rfl, _⟩ := r; rfl
theorem ent_not_none {u raw x sp k mp} (X : Addr → Prop) (h : Heap) (v : Value) (r : Rep c X h (.ent u raw x sp k mp) v) : (v == .none) = false := by simp only [Rep] at r; obtain ⟨_, _, rfl, _⟩ := r; rfl
theorem room_64 {A : Around} (o : AOk c A n) (hn : 8 ≤ n) : A.units + 64 < cLine := by have := o.2.2.1; (first | lia | omega)
theorem room_1 {A : Around} (o : AOk c A n) : A.units < cLine := by have := o.2.2.1; (first | lia | omega)
theorem cmp_eq_ints {a b : List Int} (hn : 8 ≤ n) : CmpTo c n .Eq (.ints a) (.ints b) (decide (a = b)) := fun _ X A s v w Q E o r1 r2 h => by
  simp only [Rep] at r1 r2
  obtain ⟨x, rfl, _, vs, n1, e1, i1⟩ := r1; obtain ⟨y, rfl, _, ws, n2, e2, i2⟩ := r2
  exact eq_intsK (ints_isList e1) i1 (ints_isList e2) i2 (room_64 o hn) (h s.toks)
theorem cmp_ne_ints {a b : List Int} (hn : 8 ≤ n) : CmpTo c n .NotEq (.ints a) (.ints b) (!decide (a = b)) := fun _ X A s v w Q E o r1 r2 h => by
  simp only [Rep] at r1 r2
  obtain ⟨x, rfl, _, vs, n1, e1, i1⟩ := r1; obtain ⟨y, rfl, _, ws, n2, e2, i2⟩ := r2
  exact ne_intsK (ints_isList e1) i1 (ints_isList e2) i2 (room_64 o hn) (h s.toks)
theorem cmp_in {a : Int} {l : List Int} : CmpTo c n .In (.int a) (.ints l) (l.any (· == a)) := fun _ X A s v w Q E o r1 r2 h => by
  simp only [Rep] at r1 r2
  obtain ⟨t, rfl⟩ := r1; obtain ⟨y, rfl, _, ws, n2, e2, i2⟩ := r2
  exact in_list_ints (ints_isList e2) i2 (h s.toks)
theorem cmp_notin {a : Int} {l : List Int} : CmpTo c n .NotIn (.int a) (.ints l) (!(l.any (· == a))) := fun _ X A s v w Q E o r1 r2 h => by
  simp only [Rep] at r1 r2
  obtain ⟨t, rfl⟩ := r1; obtain ⟨y, rfl, _, ws, n2, e2, i2⟩ := r2
  exact notin_list_ints (ints_isList e2) i2 (h s.toks)

/-- a data list, as it lies -/
theorem data_isList {X : Addr → Prop} {h : Heap} (R : RelH c X σ h) : ∃ vs, h.IsList c.D vs.toArray ∧ IntsAre vs σ.data := let ⟨vs, k, e, i⟩ := R.data; ⟨vs, ints_isList e, i⟩

theorem ev_cmp {l r : PySem.Expr} {op : CmpOp} {p : Pos} {t₁ t₂ : T} {b : Bool} (h₁ : EvTo c n names loc σ l t₁ σ₁) (h₂ : EvTo c n names loc σ₁ r t₂ σ₂) (hc : CmpTo c n op t₁ t₂ b) (hm : behindInMarks op r = false := by rfl) :
    EvTo c n names loc σ (.Compare l [op] [r] p) (.bool b) σ₂ := fun K X ow A env s Q E hX W h =>
  wpAny_Compare1 (two h₁ h₂ K hX W fun v w h' tk R k r1 r2 => hc K _ A _ v w _ _ W.ok r1 r2 fun tk' => h _ h' tk' R k (by simp only [Rep])) hm
theorem ts_cmp {l r : PySem.Expr} {op : CmpOp} {p : Pos} {t₁ t₂ : T} {b : Bool} (h₁ : EvTo c n names loc σ l t₁ σ₁) (h₂ : EvTo c n names loc σ₁ r t₂ σ₂) (hc : CmpTo c n op t₁ t₂ b) (hm : behindInMarks op r = false := by rfl) :
    TsTo c n names loc σ (.Compare l [op] [r] p) b σ₂ := fun K X ow A env s Q E hX W h =>
  wpAny_isTrue_Compare1 (two (f := fun a b => compareOp op a b) (Q := fun v s' => wpAny (model c.prog c.w) A (truthy v) Q E s') h₁ h₂ K hX W fun v w h' tk R k r1 r2 => hc K _ A _ v w _ _ W.ok r1 r2 fun tk' => wpAny_truthy_bool (h h' tk' R k)) hm
/-- a < b < d -/
theorem ts_chain {l m r : PySem.Expr} {o₁ o₂ : CmpOp} {p : Pos} {t₁ t₂ t₃ : T} {b₁ b₂ : Bool} (h₁ : EvTo c n names loc σ l t₁ σ) (h₂ : EvTo c n names loc σ m t₂ σ) (h₃ : EvTo c n names loc σ r t₃ σ)
    (hc₁ : CmpTo c n o₁ t₁ t₂ b₁) (hc₂ : CmpTo c n o₂ t₂ t₃ b₂) (hm : lastMarks [o₁, o₂] [m, r] = false := by rfl) : TsTo c n names loc σ (.Compare l [o₁, o₂] [m, r] p) (b₁ && b₂) σ := fun K X ow A env s Q E hX W h =>
  isTrue_chain (h₁ K X ow A env s _ E hX W fun v₁ h' tk R k r₁ => test_link (h₂ K X ow A env _ _ E hX (W.kp k R hX) fun v₂ h'' tk' R' k' r₂ =>
    hc₁ K _ A _ v₁ v₂ _ _ W.ok (Rep.kp k' (unX hX) _ _ r₁) r₂ fun tk₁ => wpAny_truthy_bool (by
      have W' := (W.kp k R hX).kp k' R' hX
      cases b₁ with
      | false => exact h _ _ R' (k.trans k')
      | true => exact test_last (h₃ K X ow A env _ _ E hX W' fun v₃ h₃ tk₃ R₃ k₃ r₃ => hc₂ K _ A _ v₂ v₃ _ _ W.ok (Rep.kp k₃ (unX hX) _ _ r₂) r₃ fun tk₄ => wpAny_truthy_bool (h _ _ R₃ ((k.trans k').trans k₃)))))) hm
end
end Mine
end
section
namespace Mine
section
variable {c : Cfg} {n : Nat} {names : List (Str × NameKind)} {loc : Loc} {σ σ₁ σ₂ σ₃ : St}

theorem ts_not {x : PySem.Expr} {p : Pos} {b : Bool} (h₁ : TsTo c n names loc σ x b σ₁) : TsTo c n names loc σ (.UnaryOp .Not x p) (!b) σ₁ := fun K X ow A env s Q E hX W h => by
  show wpAny _ _ (do return !(← isTrue x env (eval x env))) _ _ _
  exact wpAny_bind (h₁ K X ow A env s _ E hX W fun h' tk R k => wpAny_pure (h h' tk R k))
theorem ts_val {e : PySem.Expr} {b : Bool} (h₁ : EvTo c n names loc σ e (.bool b) σ₁) (he : ∀ env whole, isTrue e env whole = (do let v ← whole; standAt e.pos; holding [v] (truthy v)) := by intro _ _; rfl) : TsTo c n names loc σ e b σ₁ := fun K X ow A env s Q E hX W h =>
  wpAny_isTrue_value (h₁ K X ow A env s _ E hX W fun v h' tk R k r => by simp only [Rep] at r; subst r; exact wpAny_truthy_bool (h h' tk R k)) (he _ _)

/-- and, or over a list: nothing is changed on the way -/
noncomputable def AllTo (c : Cfg) (n : Nat) (names : List (Str × NameKind)) (loc : Loc) (σ : St) (op : BoolOp) (es : List PySem.Expr) (b : Bool) : Prop :=
  CfgOk c → ∀ (X ow : Addr → Prop) (A : Around) (env : Env) (s : Shared) (Q : Bool → Shared → Prop) (E : Value → Shared → Prop), (∀ a, c.Mut a → X a) → Act c X ow A n env names loc σ s.heap →
    (∀ h' tk, RelH c (Un X ow) σ h' → Kp c.Mut s.heap h' → Q b { s with heap := h', toks := tk }) → wpAny (model c.prog c.w) A (allTrue op es env) Q E s
theorem all_nil : AllTo c n names loc σ .And [] true := fun K X ow A env s Q E hX W h => wpAny_allTrue_And_nil (h s.heap s.toks W.rel (Kp.refl _ _))
theorem any_nil : AllTo c n names loc σ .Or [] false := fun K X ow A env s Q E hX W h => wpAny_allTrue_Or_nil (h s.heap s.toks W.rel (Kp.refl _ _))
theorem all_cons {e : PySem.Expr} {es : List PySem.Expr} {b d : Bool} (h₁ : TsTo c n names loc σ e b σ) (h₂ : b = true → AllTo c n names loc σ .And es d) : AllTo c n names loc σ .And (e :: es) (b && d) := fun K X ow A env s Q E hX W h =>
  wpAny_allTrue_And_cons (h₁ K X ow A env s _ E hX W fun h' tk R k => by
    cases b with
    | false => exact h h' tk R k
    | true => exact h₂ rfl K X ow A env _ _ E hX (W.kp k R hX) fun h'' tk' R' k' => h h'' tk' R' (k.trans k'))
theorem any_cons {e : PySem.Expr} {es : List PySem.Expr} {b d : Bool} (h₁ : TsTo c n names loc σ e b σ) (h₂ : b = false → AllTo c n names loc σ .Or es d) : AllTo c n names loc σ .Or (e :: es) (b || d) := fun K X ow A env s Q E hX W h =>
  wpAny_allTrue_Or_cons (h₁ K X ow A env s _ E hX W fun h' tk R k => by
    cases b with
    | true => exact h h' tk R k
    | false => exact h₂ rfl K X ow A env _ _ E hX (W.kp k R hX) fun h'' tk' R' k' => h h'' tk' R' (k.trans k'))
theorem ts_bool {op : BoolOp} {es : List PySem.Expr} {p : Pos} {b : Bool} (h₁ : AllTo c n names loc σ op es b) : TsTo c n names loc σ (.BoolOp op es p) b σ := fun K X ow A env s Q E hX W h =>
  wpAny_isTrue_BoolOp (h₁ K X ow A env s Q E hX W h)
/-- a or b, as a value -/
theorem ev_or2 {x y : PySem.Expr} {p : Pos} {b d : Bool} (h₁ : EvTo c n names loc σ x (.bool b) σ) (h₂ : b = false → EvTo c n names loc σ y (.bool d) σ) : EvTo c n names loc σ (.BoolOp .Or [x, y] p) (.bool (b || d)) σ := fun K X ow A env s Q E hX W h =>
  BoolOp_or (h₁ K X ow A env s _ E hX W fun v h' tk R k r => by
    simp only [Rep] at r; subst r
    refine wpAny_truthy_bool ?_
    cases b with
    | true => exact h _ h' tk R k (by simp only [Rep]; rfl)
    | false => exact BoolOp_one (h₂ rfl K X ow A env _ _ E hX (W.kp k R hX) fun v' h'' tk' R' k' r' => h v' h'' tk' R' (k.trans k') (by simpa using r')))
theorem ev_if {test body orelse : PySem.Expr} {p : Pos} {b : Bool} {t : T} (h₁ : TsTo c n names loc σ test b σ₁) (h₂ : b = true → EvTo c n names loc σ₁ body t σ₂) (h₃ : b = false → EvTo c n names loc σ₁ orelse t σ₂) :
    EvTo c n names loc σ (.IfExp test body orelse p) t σ₂ := fun K X ow A env s Q E hX W h =>
  wpAny_IfExp (h₁ K X ow A env s _ E hX W fun h' tk R k => by
    cases b with
    | true => exact h₂ rfl K X ow A env _ _ E hX (W.kp k R hX) fun v h'' tk' R' k' r => h v h'' tk' R' (k.trans k') r
    | false => exact h₃ rfl K X ow A env _ _ E hX (W.kp k R hX) fun v h'' tk' R' k' r => h v h'' tk' R' (k.trans k') r)

/-! attributes -/
noncomputable def AttrOk (K : Frag) (C : Addr) (x : Str) : Prop := plainGet K C x = true ∧ hasDictIn K C = true ∧ ∃ a, findIn K (.ref C) x = some a ∧ noGet K a = true

theorem inst_at {h : Heap} {a d C : Addr} {es : List DictEntry} {k : Nat} (h1 : h.get? a = some (instObj C d)) (h2 : h.get? d = some (dictOf es k)) : PySem.W.InstAt h a (instObj C d) C (some (dictOf es k)) :=
  ⟨h1, rfl, rfl, h2⟩
theorem getA {A : Around} {E : Value → Shared → Prop} {s : Shared} {Q : Value → Shared → Prop} {a d C : Addr} {es : List DictEntry} {k : Nat} {x : Str} {v : Value} (X : c.K.In s.heap) (ao : AttrOk c.K C x)
    (h1 : s.heap.get? a = some (instObj C d)) (h2 : s.heap.get? d = some (dictOf es k)) (hl : getL x es = some (some v)) (hh : handedIn v = true) (h : Q v { s with toks := s.toks + 1 }) :
    wpAny (model c.prog c.w) A (getAttr (.ref a) x true) Q E s := by
  obtain ⟨hg, hd, at', ha, hn⟩ := ao
  exact get_value X (inst_at h1 h2) (plainGet_of hg).1 (findObj_own hd ha hn (by rw [lookIn_dict]; exact hl)) hh h
theorem Act.inK {X ow : Addr → Prop} {A : Around} {env : Env} {h : Heap} (W : Act c X ow A n env names loc σ h) (K : CfgOk c) : c.K.In h := K.X.keeps W.rel.base
theorem RelH.inK {X : Addr → Prop} {h : Heap} (R : RelH c X σ h) (K : CfgOk c) : c.K.In h := K.X.keeps R.base

theorem attr_node {value : PySem.Expr} {attr : Str} {pos : Pos} {A : Around} {E : Value → Shared → Prop} {s : Shared} {env : Env} {Q : Value → Shared → Prop}
    (h : wpAny (model c.prog c.w) A (eval value env) (fun o s₁ => wpAny (model c.prog c.w) A (getAttr o attr true) Q E s₁) E s) (he : ∀ env, attributeBase value attr env (eval value env) = eval value env) :
    wpAny (model c.prog c.w) A (eval (.Attribute value attr pos) env) Q E s :=
  Attribute_any_ h (by
    show (do let o ← attributeBase value attr env (eval value env); standAt pos.atName; let r ← holding [o] (getAttr o attr true); letTemporaryGo value o r; pure r) = _
    rw [he])

structure DiskAttrs (c : Cfg) : Prop where
  blocks : AttrOk c.K c.DiskC "blocks"
  block : AttrOk c.K c.DiskC "block"
  record : AttrOk c.K c.DiskC "record"
  entries : AttrOk c.K c.DiskC "entries"
  ro : AttrOk c.K c.DiskC "is_read_only"
  given : AttrOk c.K c.DiskC "given"
  data : AttrOk c.K c.DiskC "data"
  user : AttrOk c.K c.EntC "user"
  raw : AttrOk c.K c.EntC "raw"
  extent : AttrOk c.K c.EntC "extent"
  spare : AttrOk c.K c.EntC "spare"
  count : AttrOk c.K c.EntC "count"
  map : AttrOk c.K c.EntC "map"

section
variable {value : PySem.Expr} {p : Pos}
theorem ev_disk_int {x : Str} {i : Int} (ao : AttrOk c.K c.DiskC x)
    (hi : ∀ (X : Addr → Prop) (σ : St) (h : Heap), RelH c X σ h → ∃ es k, h.get? c.dd = some (dictOf es k) ∧ ∃ t, getL x es = some (some (.int i t)))
    (h₁ : EvTo c n names loc σ value .disk σ₁) (he : ∀ env, attributeBase value x env (eval value env) = eval value env := by intro _; rfl) : EvTo c n names loc σ (.Attribute value x p) (.int i) σ₁ := fun K X ow A env s Q E hX W h =>
  attr_node (h₁ K X ow A env s _ E hX W fun v h' tk R k r => by
    simp only [Rep] at r; subst r
    obtain ⟨es, kk, e, t, hl⟩ := hi _ _ _ R
    exact getA (R.inK K) ao R.obj.2 e hl rfl (h _ h' _ R k (by simp only [Rep]; exact ⟨t, rfl⟩))) he
theorem ev_blocks (DA : DiskAttrs c) (h₁ : EvTo c n names loc σ value .disk σ₁) (he : ∀ env, attributeBase value "blocks" env (eval value env) = eval value env := by intro _; rfl) : EvTo c n names loc σ (.Attribute value "blocks" p) (.int 8) σ₁ :=
  ev_disk_int DA.blocks (fun X σ h R => let ⟨es, k, e, a, _⟩ := R.dict.2; ⟨es, k, e, a⟩) h₁ he
theorem ev_block (DA : DiskAttrs c) (h₁ : EvTo c n names loc σ value .disk σ₁) (he : ∀ env, attributeBase value "block" env (eval value env) = eval value env := by intro _; rfl) : EvTo c n names loc σ (.Attribute value "block" p) (.int 32) σ₁ :=
  ev_disk_int DA.block (fun X σ h R => let ⟨es, k, e, _, a, _⟩ := R.dict.2; ⟨es, k, e, a⟩) h₁ he
theorem ev_record (DA : DiskAttrs c) (h₁ : EvTo c n names loc σ value .disk σ₁) (he : ∀ env, attributeBase value "record" env (eval value env) = eval value env := by intro _; rfl) : EvTo c n names loc σ (.Attribute value "record" p) (.int 16) σ₁ :=
  ev_disk_int DA.record (fun X σ h R => let ⟨es, k, e, _, _, a, _⟩ := R.dict.2; ⟨es, k, e, a⟩) h₁ he
theorem ev_entries (DA : DiskAttrs c) (h₁ : EvTo c n names loc σ value .disk σ₁) (he : ∀ env, attributeBase value "entries" env (eval value env) = eval value env := by intro _; rfl) : EvTo c n names loc σ (.Attribute value "entries" p) (.int 4) σ₁ :=
  ev_disk_int DA.entries (fun X σ h R => let ⟨es, k, e, _, _, _, a, _⟩ := R.dict.2; ⟨es, k, e, a⟩) h₁ he
theorem ev_ro (DA : DiskAttrs c) (h₁ : EvTo c n names loc σ value .disk σ₁) (he : ∀ env, attributeBase value "is_read_only" env (eval value env) = eval value env := by intro _; rfl) : EvTo c n names loc σ (.Attribute value "is_read_only" p) (.bool false) σ₁ := fun K X ow A env s Q E hX W h =>
  attr_node (h₁ K X ow A env s _ E hX W fun v h' tk R k r => by
    simp only [Rep] at r; subst r
    obtain ⟨es, kk, e, _, _, _, _, a, _⟩ := R.dict.2
    exact getA (R.inK K) DA.ro R.obj.2 e a rfl (h _ h' _ R k (by simp only [Rep]))) he
theorem ev_given (DA : DiskAttrs c) (h₁ : EvTo c n names loc σ value .disk σ₁) (he : ∀ env, attributeBase value "given" env (eval value env) = eval value env := by intro _; rfl) : EvTo c n names loc σ (.Attribute value "given" p) (.ints []) σ₁ := fun K X ow A env s Q E hX W h =>
  attr_node (h₁ K X ow A env s _ E hX W fun v h' tk R k r => by
    simp only [Rep] at r; subst r
    obtain ⟨es, kk, e, _, _, _, _, _, a, _⟩ := R.dict.2
    exact getA (R.inK K) DA.given R.obj.2 e a rfl (h _ h' _ R k (by simp only [Rep]; exact ⟨_, rfl, R.given.1, R.given.2⟩))) he
theorem ev_data (DA : DiskAttrs c) (h₁ : EvTo c n names loc σ value .disk σ₁) (he : ∀ env, attributeBase value "data" env (eval value env) = eval value env := by intro _; rfl) : EvTo c n names loc σ (.Attribute value "data" p) .data σ₁ := fun K X ow A env s Q E hX W h =>
  attr_node (h₁ K X ow A env s _ E hX W fun v h' tk R k r => by
    simp only [Rep] at r; subst r
    obtain ⟨es, kk, e, _, _, _, _, _, _, a⟩ := R.dict.2
    exact getA (R.inK K) DA.data R.obj.2 e a rfl (h _ h' _ R k (by simp only [Rep]))) he

variable {u x sp kk : Int} {raw mp : List Int}
theorem ev_ent_int {a : Str} {i : Int} (ao : AttrOk c.K c.EntC a) (hi : ∀ es r m, EntFs es u x sp kk r m → ∃ t, getL a es = some (some (.int i t)))
    (h₁ : EvTo c n names loc σ value (.ent u raw x sp kk mp) σ₁) (he : ∀ env, attributeBase value a env (eval value env) = eval value env := by intro _; rfl) : EvTo c n names loc σ (.Attribute value a p) (.int i) σ₁ := fun K X ow A env s Q E hX W h =>
  attr_node (h₁ K X ow A env s _ E hX W fun v h' tk R k r => by
    simp only [Rep] at r
    obtain ⟨b, d, rfl, _, _, es, k2, r', m, e1, e2, _, fs, _⟩ := r
    obtain ⟨t, hl⟩ := hi _ _ _ fs
    exact getA (R.inK K) ao e1 e2 hl rfl (h _ h' _ R k (by simp only [Rep]; exact ⟨t, rfl⟩))) he
theorem ev_user (DA : DiskAttrs c) (h₁ : EvTo c n names loc σ value (.ent u raw x sp kk mp) σ₁) (he : ∀ env, attributeBase value "user" env (eval value env) = eval value env := by intro _; rfl) : EvTo c n names loc σ (.Attribute value "user" p) (.int u) σ₁ := ev_ent_int DA.user (fun _ _ _ f => f.user) h₁ he
theorem ev_extent (DA : DiskAttrs c) (h₁ : EvTo c n names loc σ value (.ent u raw x sp kk mp) σ₁) (he : ∀ env, attributeBase value "extent" env (eval value env) = eval value env := by intro _; rfl) : EvTo c n names loc σ (.Attribute value "extent" p) (.int x) σ₁ := ev_ent_int DA.extent (fun _ _ _ f => f.extent) h₁ he
theorem ev_spare (DA : DiskAttrs c) (h₁ : EvTo c n names loc σ value (.ent u raw x sp kk mp) σ₁) (he : ∀ env, attributeBase value "spare" env (eval value env) = eval value env := by intro _; rfl) : EvTo c n names loc σ (.Attribute value "spare" p) (.int sp) σ₁ := ev_ent_int DA.spare (fun _ _ _ f => f.spare) h₁ he
theorem ev_count (DA : DiskAttrs c) (h₁ : EvTo c n names loc σ value (.ent u raw x sp kk mp) σ₁) (he : ∀ env, attributeBase value "count" env (eval value env) = eval value env := by intro _; rfl) : EvTo c n names loc σ (.Attribute value "count" p) (.int kk) σ₁ := ev_ent_int DA.count (fun _ _ _ f => f.count) h₁ he
theorem ev_raw (DA : DiskAttrs c) (h₁ : EvTo c n names loc σ value (.ent u raw x sp kk mp) σ₁) (he : ∀ env, attributeBase value "raw" env (eval value env) = eval value env := by intro _; rfl) : EvTo c n names loc σ (.Attribute value "raw" p) (.ints raw) σ₁ := fun K X ow A env s Q E hX W h =>
  attr_node (h₁ K X ow A env s _ E hX W fun v h' tk R k r => by
    simp only [Rep] at r
    obtain ⟨b, d, rfl, _, _, es, k2, r', m, e1, e2, _, fs, h5, h6, _⟩ := r
    exact getA (R.inK K) DA.raw e1 e2 fs.raw rfl (h _ h' _ R k (by simp only [Rep]; exact ⟨_, rfl, h5, h6⟩))) he
theorem ev_map (DA : DiskAttrs c) (h₁ : EvTo c n names loc σ value (.ent u raw x sp kk mp) σ₁) (he : ∀ env, attributeBase value "map" env (eval value env) = eval value env := by intro _; rfl) : EvTo c n names loc σ (.Attribute value "map" p) (.ints mp) σ₁ := fun K X ow A env s Q E hX W h =>
  attr_node (h₁ K X ow A env s _ E hX W fun v h' tk R k r => by
    simp only [Rep] at r
    obtain ⟨b, d, rfl, _, _, es, k2, r', m, e1, e2, _, fs, _, _, h7, h8, _⟩ := r
    exact getA (R.inK K) DA.map e1 e2 fs.map rfl (h _ h' _ R k (by simp only [Rep]; exact ⟨_, rfl, h7, h8⟩))) he
end

/-! items and slices -/
section
variable {value slice : PySem.Expr} {p : Pos} {l : List Int} {i : Int}
theorem sub_node {A : Around} {E : Value → Shared → Prop} {s : Shared} {env : Env} {Q : Value → Shared → Prop}
    (h : wpAny (model c.prog c.w) A (eval value env) (fun o s₁ => wpAny (model c.prog c.w) A (eval slice env) (fun i s₂ => wpAny (model c.prog c.w) A (subscriptTail value slice o i) Q E s₂) E s₁) E s) :
    wpAny (model c.prog c.w) A (eval (.Subscript value slice p) env) Q E s := Subscript_ h
theorem item_ints {A : Around} {E : Value → Shared → Prop} {s : Shared} {Q : Value → Shared → Prop} {a : Addr} {t : Tok} (hs : ∀ o i, subscripted slice false o i = operate [o, i] (getItem o i))
    (e : IntsAt s.heap a l) (h0 : 0 ≤ i) (h1 : i < l.length) (hz : l.length < 2 ^ 62) (h : ∀ t, Q (.int (l.getD i.toNat 0) t) s) : wpAny (model c.prog c.w) A (subscriptTail value slice (.ref a) (.int i t)) Q E s := by
  obtain ⟨vs, k, e, hi⟩ := e
  obtain ⟨t', hx⟩ := hi.get i.toNat _ (ints_getD h0 h1)
  exact tail_any (ints_isList e).typeIs slot_list_getitem.lookup (wpAny_getItem_list (ints_isList e) h0 (by (first | lia | omega)) (by simpa using hx) (h t')) (hs _ _)
theorem ev_item (h₁ : EvTo c n names loc σ value (.ints l) σ₁) (h₂ : EvTo c n names loc σ₁ slice (.int i) σ₂) (h0 : 0 ≤ i) (h1 : i < l.length) (hz : l.length < 2 ^ 62)
    (hs : ∀ o i, subscripted slice false o i = operate [o, i] (getItem o i) := by intro _ _; rfl) : EvTo c n names loc σ (.Subscript value slice p) (.int (l.getD i.toNat 0)) σ₂ := fun K X ow A env s Q E hX W h =>
  sub_node (two (f := fun a b => subscriptTail value slice a b) h₁ h₂ K hX W fun v w h' tk R k r1 r2 => by
    simp only [Rep] at r1 r2
    obtain ⟨a, rfl, _, e⟩ := r1; obtain ⟨t, rfl⟩ := r2
    exact item_ints hs e h0 h1 hz fun t => h _ h' tk R k (by simp only [Rep]; exact ⟨t, rfl⟩))
theorem ev_ditem (h₁ : EvTo c n names loc σ value .data σ₁) (h₂ : EvTo c n names loc σ₁ slice (.int i) σ₂) (h0 : 0 ≤ i) (h1 : i < σ₂.data.length) (hz : σ₂.data.length < 2 ^ 62)
    (hs : ∀ o i, subscripted slice false o i = operate [o, i] (getItem o i) := by intro _ _; rfl) : EvTo c n names loc σ (.Subscript value slice p) (.int (σ₂.data.getD i.toNat 0)) σ₂ := fun K X ow A env s Q E hX W h =>
  sub_node (two (f := fun a b => subscriptTail value slice a b) h₁ h₂ K hX W fun v w h' tk R k r1 r2 => by
    simp only [Rep] at r1 r2
    subst r1; obtain ⟨t, rfl⟩ := r2
    exact item_ints hs R.data h0 h1 hz fun t => h _ h' tk R k (by simp only [Rep]; exact ⟨t, rfl⟩))
theorem ev_litem {ts : List T} {t : T} (h₁ : EvTo c n names loc σ value (.list ts) σ₁) (h₂ : EvTo c n names loc σ₁ slice (.int i) σ₂) (h0 : 0 ≤ i) (ht : ts[i.toNat]? = some t) (hz : ts.length < 2 ^ 62)
    (hs : ∀ o i, subscripted slice false o i = operate [o, i] (getItem o i) := by intro _ _; rfl) : EvTo c n names loc σ (.Subscript value slice p) t σ₂ := fun K X ow A env s Q E hX W h =>
  sub_node (two (f := fun a b => subscriptTail value slice a b) h₁ h₂ K hX W fun v w h' tk R k r1 r2 => by
    simp only [Rep] at r1 r2
    obtain ⟨a, vs, kk, rfl, _, e, hr⟩ := r1; obtain ⟨u, rfl⟩ := r2
    obtain ⟨v, hv, rv⟩ := RepL.get ts vs i.toNat t hr ht
    have hlt : i.toNat < ts.length := (List.getElem?_eq_some_iff.mp ht).1
    exact tail_any (ints_isList e).typeIs slot_list_getitem.lookup (wpAny_getItem_list (ints_isList e) h0 (by (first | lia | omega)) (by simpa using hv) (h _ h' tk R k rv)) (hs _ _))
theorem ev_titem {ts : List T} {t : T} {j : Nat} (h₁ : EvTo c n names loc σ value (.tup ts) σ₁) (h₂ : EvTo c n names loc σ₁ slice (.int (j : Int)) σ₂) (ht : ts[j]? = some t) (hz : ts.length < 2 ^ 62)
    (hs : ∀ o i, subscripted slice false o i = operate [o, i] (getItem o i) := by intro _ _; rfl) : EvTo c n names loc σ (.Subscript value slice p) t σ₂ := fun K X ow A env s Q E hX W h =>
  sub_node (two (f := fun a b => subscriptTail value slice a b) h₁ h₂ K hX W fun v w h' tk R k r1 r2 => by
    simp only [Rep] at r1 r2
    obtain ⟨a, vs, rfl, _, e, hr⟩ := r1; obtain ⟨u, rfl⟩ := r2
    obtain ⟨v, hv, rv⟩ := RepL.get ts vs j t hr ht
    have hlt : j < ts.length := (List.getElem?_eq_some_iff.mp ht).1
    have hlen := RepL.length _ _ hr
    refine item_tupleT (j := j) ⟨_, e, rfl, _, rfl⟩ (by (first | lia | omega)) (by (first | lia | omega)) ?_ hv (h _ h' tk R k rv) (hs _ _)
    unfold seqIndex?
    simp
    (first | lia | omega))
end
end
end Mine
end
section
namespace Mine
section
variable {c : Cfg} {n : Nat} {names : List (Str × NameKind)} {loc : Loc} {σ σ₁ σ₂ σ₃ : St}

noncomputable def toI : Option Nat → Option Int
  | none => none
  | some k => some (k : Int)
/-- what a slice's part comes to -/
inductive PartTo (c : Cfg) (n : Nat) (names : List (Str × NameKind)) (loc : Loc) (σ : St) : Option PySem.Expr → Option Nat → Prop
  | none : PartTo c n names loc σ none none
  | some {e : PySem.Expr} {i : Int} {k : Nat} (h : EvTo c n names loc σ e (.int i) σ) (hk : i = (k : Int)) : PartTo c n names loc σ (some e) (some k)

theorem part_at {X ow : Addr → Prop} {A : Around} {env : Env} {s : Shared} {E : Value → Shared → Prop} {x : Option PySem.Expr} {k : Option Nat} (h₁ : PartTo c n names loc σ x k) (K : CfgOk c) {Q : Value → Shared → Prop}
    (hX : ∀ a, c.Mut a → X a) (W : Act c X ow A n env names loc σ s.heap)
    (h : ∀ v h' tk, RelH c (Un X ow) σ h' → Kp c.Mut s.heap h' → IsPart v (toI k) → Q v { s with heap := h', toks := tk }) : wpAny (model c.prog c.w) A (evalPart x env) Q E s := by
  cases h₁ with
  | none => rw [evalPart_none]; exact wpAny_pure (h _ s.heap s.toks W.rel (Kp.refl _ _) .none)
  | some h₁ hk =>
    rw [evalPart_some]
    exact h₁ K X ow A env s _ E hX W fun v h' tk R kp r => by
      simp only [Rep] at r; obtain ⟨t, rfl⟩ := r
      exact h _ h' tk R kp (by rw [hk]; exact .int _ t)

noncomputable def cut (l : List Int) (a b : Option Nat) : List Int := (l.drop (a.elim 0 fun a => min a l.length)).take (b.elim l.length (fun b => min b l.length) - a.elim 0 fun a => min a l.length)
theorem IntsAre.drop : ∀ {vs : List Value} {l : List Int}, IntsAre vs l → ∀ k, IntsAre (vs.drop k) (l.drop k)
  | _, _, .nil, k => by simp; exact .nil
  | _, _, .cons x t r, 0 => .cons x t r
  | _, _, .cons x t r, k + 1 => by simpa using IntsAre.drop r k
theorem IntsAre.take : ∀ {vs : List Value} {l : List Int}, IntsAre vs l → ∀ k, IntsAre (vs.take k) (l.take k)
  | _, _, .nil, k => by simp; exact .nil
  | _, _, .cons x t r, 0 => .nil
  | _, _, .cons x t r, k + 1 => by simpa using IntsAre.cons x t (IntsAre.take r k)
theorem pick_ints {vs : List Value} {l : List Int} (h : IntsAre vs l) (a b : Option Nat) :
    ∃ us, slicePick vs.toArray (toI a) (toI b) none = us.toArray ∧ IntsAre us (cut l a b) := by
  rw [slicePick_plain]
  refine ⟨_, rfl, ?_⟩
  have hl := ints_len h
  have e1 : (toI a).elim 0 (clipAt vs.toArray.size) = a.elim 0 fun a => min a l.length := by
    cases a with
    | none => rfl
    | some a => simp only [toI, Option.elim_some, clipAt_nat, List.size_toArray, hl]
  have e2 : (toI b).elim vs.toArray.size (clipAt vs.toArray.size) = b.elim l.length fun b => min b l.length := by
    cases b with
    | none => simp [toI, hl]
    | some b => simp only [toI, Option.elim_some, clipAt_nat, List.size_toArray, hl]
  rw [e1, e2]
  exact IntsAre.take (IntsAre.drop h _) _

theorem slice_at {l : List Int} {X : Addr → Prop} {s : Shared} {Q : Value → Shared → Prop} {a : Addr} {vl vu : Value} {lo hi : Option Nat} (R : RelH c X σ s.heap) (e : IntsAt s.heap a l) (hz : l.length ≤ sizeLine)
    (h1 : IsPart vl (toI lo)) (h2 : IsPart vu (toI hi)) (h : ∀ v h' tk, RelH c X σ h' → Kp c.Mut s.heap h' → Rep c X h' (.ints (cut l lo hi)) v → Q v { s with heap := h', toks := tk }) :
    ∃ l items lo hi, Value.ref a = .ref l ∧ s.heap.IsList l items ∧ items.size ≤ sizeLine ∧ IsPart vl lo ∧ IsPart vu hi ∧
        Q (.ref (s.heap.objs.size + 1)) { s with heap := (s.heap.push { cls := .type "slice", data := .fields #[vl, vu, .none] }).push { cls := .type "list", data := .seq (slicePick items lo hi none) } } := by
  obtain ⟨vs, k, e, i⟩ := e
  obtain ⟨us, q, iu⟩ := pick_ints i lo hi
  refine ⟨a, vs.toArray, _, _, rfl, ints_isList e, by rw [List.size_toArray, ints_len i]; exact hz, h1, h2, ?_⟩
  rw [q]
  obtain ⟨a1, a2, a3⟩ := new_ints (rel_push R { cls := .type "slice", data := .fields #[vl, vu, .none] }) iu
  rw [Heap.size_push] at a3
  exact h _ _ s.toks a1 ((Kp.push _).trans a2) a3

/-- l[lo:hi] -/
theorem ev_slice {value : PySem.Expr} {lo hi : Option PySem.Expr} {p q : Pos} {l : List Int} {a b : Option Nat} (h₁ : EvTo c n names loc σ value (.ints l) σ₁) (h₂ : PartTo c n names loc σ₁ lo a) (h₃ : PartTo c n names loc σ₁ hi b) (hz : l.length ≤ sizeLine)
    (ht : ∀ o r, letTemporaryGo value o r = pure () := by intro _ _; rfl) : EvTo c n names loc σ (.Subscript value (.Slice lo hi none q) p) (.ints (cut l a b)) σ₁ := fun K X ow A env s Q E hX W h =>
  wpAny_Subscript_list_slice (h₁ K X ow A env s _ E hX W fun v h' tk R k r => by
    have W' := W.kp k R hX
    refine part_at h₂ K hX W' fun v1 h1 tk1 R1 k1 i1 => ?_
    have W1 := W'.kp k1 R1 hX
    refine part_at h₃ K hX W1 fun v2 h2 tk2 R2 k2 i2 => ?_
    have r' := Rep.kp k2 (unX hX) _ _ (Rep.kp k1 (unX hX) _ _ r)
    simp only [Rep] at r'
    obtain ⟨x, rfl, _, e⟩ := r'
    exact slice_at (s := { s with heap := h2, toks := tk2 }) R2 e hz i1 i2 fun v h3 tk3 R3 k3 r3 => h v h3 tk3 R3 (((k.trans k1).trans k2).trans k3) r3) ht
/-! calls -/
inductive Out where
  | ret (t : T) (σ : St)
  | exc (w : Str) (σ : St)

/-- an exception of the text's class on its way, above the frames l -/
noncomputable def Fly (c : Cfg) (l : List Env) (e : Addr) (w : Str) (h : Heap) : Prop :=
  ∃ oe d vs es k t, h.get? e = some oe ∧ oe.cls = .ref c.ErrC ∧ oe.dict = some d ∧ oe.data = .fields vs ∧ h.get? d = some (dictOf es k) ∧ getL "word" es = some (some (.str w t)) ∧
    c.B0.get? e = none ∧ FrsOk h l ∧
    (vs[1]? = some .none ∨ ∃ T oT ts, vs[1]? = some (.ref T) ∧ T ≠ e ∧ h.get? T = some oT ∧ oT.cls = .type "traceback" ∧ oT.data = .fields ts ∧ ts[3]? = some .none)

/-- e and its traceback are new since h₀ -/
noncomputable def NewX (h₀ h : Heap) (e : Addr) : Prop := h₀.get? e = none ∧ ∀ oe vs T, h.get? e = some oe → oe.data = .fields vs → vs[1]? = some (.ref T) → h₀.get? T = none
/-- the call of f upon ts: what comes of it is in P -/
noncomputable def CallP (c : Cfg) (n : Nat) (f : Value) (ts : List T) (σ : St) (P : Out → Prop) : Prop :=
  CfgOk c → ∀ (X : Addr → Prop) (A : Around) (l : List Env) (s : Shared) (vs : List Value) (Q E : Value → Shared → Prop), (∀ a, c.Mut a → X a) → AOk c A n → A.frames = some l → FrsOk s.heap l → RelH c X σ s.heap → RepL c X s.heap ts vs →
    (∀ t σ' v h' tk, P (.ret t σ') → RelH c X σ' h' → Kp c.Mut s.heap h' → Rep c X h' t v → Q v { s with heap := h', toks := tk }) →
    (∀ w σ' e h' tk, P (.exc w σ') → RelH c X σ' h' → Kp c.Mut s.heap h' → Fly c l e w h' → NewX s.heap h' e → E (.ref e) { s with heap := h', toks := tk }) →
    wpAny (model c.prog c.w) A (call f vs) Q E s
noncomputable def IsFn (c : Cfg) (a : Addr) : Prop := ∃ o fd, c.B0.get? a = some o ∧ o.data = .func fd
/-- the built-in or type, called -/
noncomputable def CallB (c : Cfg) (n : Nat) (f : Value) (ts : List T) (σ : St) (t : T) : Prop :=
  CfgOk c → ∀ (X : Addr → Prop) (A : Around) (s : Shared) (vs : List Value) (Q E : Value → Shared → Prop), (∀ a, c.Mut a → X a) → AOk c A n → RelH c X σ s.heap → RepL c X s.heap ts vs →
    (∀ v h' tk, RelH c X σ h' → Kp c.Mut s.heap h' → Rep c X h' t v → Q v { s with heap := h', toks := tk }) → wpAny (model c.prog c.w) A (call f vs) Q E s

theorem global_at {X ow : Addr → Prop} {A : Around} {env : Env} {s : Shared} {E Q : Value → Shared → Prop} {x : Str} {p : Pos} {v : Value} (K : CfgOk c) (W : Act c X ow A n env names loc σ s.heap) (hg : c.mg x = some v) (hk : names.lookup x = some .globalImplicit)
    (h : Q v s) (hd : (x == ("__debug__" : Str)) = false) : wpAny (model c.prog c.w) A (eval (.Name x p) env) Q E s :=
  Calls.Name_function_global W.kind (by show env.scope.names.lookup x = _; rw [W.names]; exact hk) (Calls.loadGlobal_global (env := env) (by rw [W.glob]; exact K.g.keeps W.rel.base) hg h) hd
theorem builtin_at {X ow : Addr → Prop} {A : Around} {env : Env} {s : Shared} {E Q : Value → Shared → Prop} {x : Str} {p : Pos} {v : Value} (K : CfgOk c) (W : Act c X ow A n env names loc σ s.heap) (hg : c.mg x = none) (hb : c.mb x = some v) (hk : names.lookup x = some .globalImplicit)
    (h : Q v s) (hd : (x == ("__debug__" : Str)) = false) : wpAny (model c.prog c.w) A (eval (.Name x p) env) Q E s :=
  Calls.Name_function_global W.kind (by show env.scope.names.lookup x = _; rw [W.names]; exact hk) (Calls.loadGlobal_builtin (env := env) (by rw [W.glob]; exact K.g.keeps W.rel.base) hg (by rw [W.blt]; exact K.b.keeps W.rel.base) hb h) hd

/-- the call's own tree: a def's name upon plain arguments; what may come of it told by what follows -/
theorem call_node {f : Str} {fp p : Pos} {a : Addr} {args : List PySem.Expr} {ts : List T} {A : Around} {env : Env} {s : Shared} {Q E : Value → Shared → Prop} {X ow : Addr → Prop} {e₀ : PySem.Expr} {er : List PySem.Expr} (ha : args = e₀ :: er)
    (K : CfgOk c) (hX : ∀ a, c.Mut a → X a) (W : Act c X ow A n env names loc σ s.heap) (hg : c.mg f = some (.ref a)) (hf : IsFn c a) (hk : names.lookup f = some .globalImplicit)
    (h₁ : EvsTo c n names loc σ args ts σ₁)
    (h : ∀ vs h' tk, RelH c (Un X ow) σ₁ h' → Kp c.Mut s.heap h' → RepL c (Un X ow) h' ts vs → wpAny (model c.prog c.w) A (call (.ref a) vs) Q E { s with heap := h', toks := tk })
    (hd : (f == ("__debug__" : Str)) = false) (hs : starEach (e₀ :: er) env = (false, eval e₀ env) :: starEach er env) :
    wpAny (model c.prog c.w) A (eval (.Call (.Name f fp) args [] p) env) Q E s := by
  subst ha
  show wpAny _ _ (do callWith p (← eval (.Name f fp) env) [] (backTo p (starEach (e₀ :: er) env)) (backToKw p (keywordEach [] env))) _ _ _
  refine wpAny_bind (global_at K W hg hk ?_ hd)
  show wpAny _ _ (callWith p (.ref a) [] (backTo p (starEach (e₀ :: er) env)) []) _ _ _
  obtain ⟨o, fd, ho, hfd⟩ := hf
  rw [hs]
  refine Calls.callWith_function (o := o) (fd := fd) (Calls.evalArgs_plain ?_)
  have := h₁ K X ow A env p s (fun vs s₁ => (s₁.heap.get? a = some o ∧ o.data = .func fd) ∧ wpAny (model c.prog c.w) A (call (.ref a) ([] ++ vs) []) Q E s₁) E hX W fun vs h' tk R k r => ⟨⟨R.base _ _ ho, hfd⟩, h vs h' tk R k r⟩
  rw [hs] at this
  exact this

/-- a def's call whose end is told -/
theorem ev_call {f : Str} {fp p : Pos} {a : Addr} {args : List PySem.Expr} {ts : List T} {e₀ : PySem.Expr} {er : List PySem.Expr} {t : T} (hg : c.mg f = some (.ref a)) (hf : IsFn c a) (hk : names.lookup f = some .globalImplicit) (h₁ : EvsTo c n names loc σ args ts σ₁)
    (h₂ : CallP c n (.ref a) ts σ₁ (fun o => o = .ret t σ₂)) (ha : args = e₀ :: er := by rfl) (hs : ∀ env, starEach (e₀ :: er) env = (false, eval e₀ env) :: starEach er env := by intro _; rfl) (hd : (f == ("__debug__" : Str)) = false := by decide) :
    EvTo c n names loc σ (.Call (.Name f fp) args [] p) t σ₂ := fun K X ow A env s Q E hX W h =>
  call_node ha K hX W hg hf hk h₁ (fun vs h' tk R k r => by
    have W' := W.kp k R hX
    obtain ⟨l, hl, hfr⟩ := W'.frs
    exact h₂ K (Un X ow) A l _ vs Q E (unX hX) W.ok hl hfr R r
      (fun t' σ' v h'' tk' e R' k' r' => by cases e; exact h v h'' tk' R' (k.trans k') r') (fun _ _ _ _ _ e => nomatch e)) hd (hs env)

theorem starEach_plain {es : List PySem.Expr} {env : Env} {e₀ er} (h : starEach (e₀ :: er) env = (false, eval e₀ env) :: starEach er env) : True := trivial
theorem evb_node {f : Str} {fp p : Pos} {v : Value} {args : List PySem.Expr} {ts : List T} {t : T} {e₀ : PySem.Expr} {er : List PySem.Expr} (hg : c.mg f = none) (hb : c.mb f = some v) (hk : names.lookup f = some .globalImplicit) (h₁ : EvsTo c n names loc σ args ts σ₁) (h₂ : CallB c n v ts σ₁ t)
    (hv : (∃ id, v = .builtin id) ∨ ∃ id, v = .type id) (ha : args = e₀ :: er) (hs : ∀ env, starEach (e₀ :: er) env = (false, eval e₀ env) :: starEach er env) (hp : ∀ p env, (backTo p (starEach (e₀ :: er) env)).any (·.1) = false) (hd : (f == ("__debug__" : Str)) = false) :
    EvTo c n names loc σ (.Call (.Name f fp) args [] p) t σ₁ := fun K X ow A env s Q E hX W h => by
  subst ha
  show wpAny _ _ (do callWith p (← eval (.Name f fp) env) [] (backTo p (starEach (e₀ :: er) env)) (backToKw p (keywordEach [] env))) _ _ _
  refine wpAny_bind (builtin_at K W hg hb hk ?_ hd)
  show wpAny _ _ (callWith p v [] (backTo p (starEach (e₀ :: er) env)) []) _ _ _
  have hpl := hp p env
  have key := h₁ K X ow A env p s (fun vs s₁ => wpAny (model c.prog c.w) A (call v ([] ++ vs) []) Q E s₁) E hX W fun vs h' tk R k r =>
    h₂ K (Un X ow) A { s with heap := h', toks := tk } vs Q E (unX hX) W.ok R r fun v' h'' tk' R' k' r' => h v' h'' tk' R' (k.trans k') r'
  rw [hs] at key hpl ⊢
  rcases hv with ⟨id, rfl⟩ | ⟨id, rfl⟩
  · exact Calls.callWith_builtin hpl (Calls.evalArgs_plain key)
  · exact PySem.callWith_type hpl (Calls.evalArgs_plain key)

theorem repL1 {X : Addr → Prop} {h : Heap} {t : T} {vs : List Value} (r : RepL c X h [t] vs) : ∃ v, vs = [v] ∧ Rep c X h t v := by
  simp only [RepL] at r; obtain ⟨v, r', e, h1, e2⟩ := r; exact ⟨v, by rw [e, e2], h1⟩
theorem repL2 {X : Addr → Prop} {h : Heap} {t u : T} {vs : List Value} (r : RepL c X h [t, u] vs) : ∃ v w, vs = [v, w] ∧ Rep c X h t v ∧ Rep c X h u w := by
  simp only [RepL] at r; obtain ⟨v, r', e, h1, w, r2, e2, h2, e3⟩ := r; exact ⟨v, w, by rw [e, e2, e3], h1, h2⟩

theorem b_len_ints {l : List Int} (hz : l.length < 2 ^ 62) : CallB c n (.builtin "len") [.ints l] σ (.int l.length) := fun K X A s vs Q E hX o R r h => by
  obtain ⟨v, rfl, r1⟩ := repL1 r
  simp only [Rep] at r1; obtain ⟨a, rfl, _, ws, k, e, i⟩ := r1
  have hl := ints_len i
  exact len_list (ints_isList e) (by rw [List.size_toArray, hl]; (first | lia | omega)) (h _ s.heap _ R (Kp.refl _ _) (by simp only [Rep]; exact ⟨_, by rw [List.size_toArray, hl]⟩))
theorem b_len_list {l : List T} (hz : l.length < 2 ^ 62) : CallB c n (.builtin "len") [.list l] σ (.int l.length) := fun K X A s vs Q E hX o R r h => by
  obtain ⟨v, rfl, r1⟩ := repL1 r
  simp only [Rep] at r1; obtain ⟨a, ws, k, rfl, _, e, i⟩ := r1
  have hl := RepL.length _ _ i
  exact len_list (ints_isList e) (by rw [List.size_toArray, hl]; (first | lia | omega)) (h _ s.heap _ R (Kp.refl _ _) (by simp only [Rep]; exact ⟨_, by rw [List.size_toArray, hl]⟩))
theorem b_min {a b : Int} : CallB c n (.builtin "min") [.int a, .int b] σ (.int (if b < a then b else a)) := fun K X A s vs Q E hX o R r h => by
  obtain ⟨v, w, rfl, r1, r2⟩ := repL2 r
  simp only [Rep] at r1 r2; obtain ⟨t, rfl⟩ := r1; obtain ⟨u, rfl⟩ := r2
  refine min_two_ints o.1 fun h' tk hk => ?_
  have := fun v r => h v h' tk (rel_keeps R hk) (.of_keeps fun a o _ e => hk a o e) r
  split
  · exact this _ (by simp only [Rep]; rename_i hc; exact ⟨u, by rw [if_pos hc]⟩)
  · exact this _ (by simp only [Rep]; rename_i hc; exact ⟨t, by rw [if_neg hc]⟩)
theorem b_max {a b : Int} : CallB c n (.builtin "max") [.int a, .int b] σ (.int (if b > a then b else a)) := fun K X A s vs Q E hX o R r h => by
  obtain ⟨v, w, rfl, r1, r2⟩ := repL2 r
  simp only [Rep] at r1 r2; obtain ⟨t, rfl⟩ := r1; obtain ⟨u, rfl⟩ := r2
  refine max_two_ints o.1 fun h' tk hk => ?_
  have := fun v r => h v h' tk (rel_keeps R hk) (.of_keeps fun a o _ e => hk a o e) r
  split
  · exact this _ (by simp only [Rep]; rename_i hc; exact ⟨u, by rw [if_pos hc]⟩)
  · exact this _ (by simp only [Rep]; rename_i hc; exact ⟨t, by rw [if_neg hc]⟩)
theorem b_abs {a : Int} : CallB c n (.builtin "abs") [.int a] σ (.int (if a < 0 then -a else a)) := fun K X A s vs Q E hX o R r h => by
  obtain ⟨v, rfl, r1⟩ := repL1 r
  simp only [Rep] at r1; obtain ⟨t, rfl⟩ := r1
  exact call_abs_int fun u tk => h _ s.heap tk R (Kp.refl _ _) (by simp only [Rep]; exact ⟨u, rfl⟩)
theorem b_int {a : Int} : CallB c n (.type "int") [.int a] σ (.int a) := fun K X A s vs Q E hX o R r h => by
  obtain ⟨v, rfl, r1⟩ := repL1 r
  simp only [Rep] at r1; obtain ⟨t, rfl⟩ := r1
  exact call_int_int (h _ s.heap s.toks R (Kp.refl _ _) (by simp only [Rep]; exact ⟨t, rfl⟩))
theorem copy_at {l : List Int} {X : Addr → Prop} {A : Around} {s : Shared} {Q E : Value → Shared → Prop} {a : Addr} (R : RelH c X σ s.heap) (e : IntsAt s.heap a l) (hz : l.length ≤ sizeLine)
    (h : ∀ v h' tk, RelH c X σ h' → Kp c.Mut s.heap h' → Rep c X h' (.ints l) v → Q v { s with heap := h', toks := tk }) : wpAny (model c.prog c.w) A (call (.type "list") [.ref a]) Q E s := by
  obtain ⟨ws, k, e, i⟩ := e
  exact call_list_seq (hsz := by rw [List.size_toArray, ints_len i]; exact hz) a (.inl rfl) e rfl rfl fun h' c' hk hD =>
    h _ h' s.toks (rel_keeps R hk) (.of_keeps fun a o _ e => hk a o e) (by simp only [Rep]; exact ⟨_, rfl, rel_not_size R, ws, c', hD, i⟩)
theorem b_list {l : List Int} (hz : l.length ≤ sizeLine) : CallB c n (.type "list") [.ints l] σ (.ints l) := fun K X A s vs Q E hX o R r h => by
  obtain ⟨v, rfl, r1⟩ := repL1 r
  simp only [Rep] at r1; obtain ⟨a, rfl, _, e⟩ := r1
  exact copy_at R e hz h
theorem b_dlist (hz : σ.data.length ≤ sizeLine) : CallB c n (.type "list") [.data] σ (.ints σ.data) := fun K X A s vs Q E hX o R r h => by
  obtain ⟨v, rfl, r1⟩ := repL1 r
  simp only [Rep] at r1; subst r1
  exact copy_at R R.data hz h

/-- bools in a list -/
theorem repL_bools {X : Addr → Prop} {h : Heap} : ∀ (l : List Bool) (vs : List Value), RepL c X h (l.map T.bool) vs → vs = l.map Value.bool
  | [], vs, r => by simpa only [List.map_nil, RepL] using r
  | x :: l, vs, r => by
    simp only [List.map_cons, RepL] at r
    obtain ⟨v, r', e, h1, h2⟩ := r
    simp only [Rep] at h1
    rw [e, h1, repL_bools l r' h2]; rfl
theorem truth_bools {A : Around} (l : List Bool) : TruthOf c.prog c.w A (fun i v => ((l.map Value.bool).toArray)[i]? = some v) (fun i => l.getD i false) := fun i v s Q E hv hQ => by
  dsimp only at hv hQ
  rw [List.getElem?_toArray, List.getElem?_map] at hv
  obtain ⟨b, hb, rfl⟩ := Option.map_eq_some_iff.mp hv
  refine wpAny_truthy_bool ?_
  have : l.getD i false = b := by rw [List.getD_eq_getElem?_getD, hb]; rfl
  rw [this] at hQ; exact hQ
theorem range_all (l : List Bool) : (List.range l.length).all (fun i => l.getD i false) = l.all id := by
  rw [Bool.eq_iff_iff, List.all_eq_true, List.all_eq_true]
  constructor
  · intro h b hb
    obtain ⟨i, hi, rfl⟩ := List.getElem_of_mem hb
    have := h i (List.mem_range.mpr hi)
    simpa [List.getD_eq_getElem?_getD, hi] using this
  · intro h i hi
    have hi' := List.mem_range.mp hi
    have := h l[i] (List.getElem_mem hi')
    simpa [List.getD_eq_getElem?_getD, hi'] using this
theorem range_any (l : List Bool) : (List.range l.length).any (fun i => l.getD i false) = l.any id := by
  rw [Bool.eq_iff_iff, List.any_eq_true, List.any_eq_true]
  constructor
  · rintro ⟨i, hi, h⟩
    have hi' := List.mem_range.mp hi
    exact ⟨l[i], List.getElem_mem hi', by simpa [List.getD_eq_getElem?_getD, hi'] using h⟩
  · rintro ⟨b, hb, h⟩
    obtain ⟨i, hi, rfl⟩ := List.getElem_of_mem hb
    exact ⟨i, List.mem_range.mpr hi, by simpa [List.getD_eq_getElem?_getD, hi] using h⟩
theorem b_all {l : List Bool} : CallB c n (.builtin "all") [.list (l.map T.bool)] σ (.bool (l.all id)) := fun K X A s vs Q E hX o R r h => by
  obtain ⟨v, rfl, r1⟩ := repL1 r
  simp only [Rep] at r1; obtain ⟨a, ws, k, rfl, _, e, i⟩ := r1
  have := repL_bools l ws i
  subst this
  have hne : a ≠ s.heap.objs.size := Nat.ne_of_lt (Heap.lt_size e)
  refine call_all_walk (wpAny_pyIter_list (ints_isList e) ?_)
  refine ⟨_, _, _, _, _, _, _, rfl, Walks.list (A := A.in1) o.1 _ a hne (l.map Value.bool).toArray, ⟨⟨_, Heap.get?_push_size _ rfl, rfl, rfl⟩, (ints_isList e).push _⟩, truth_bools l, fun h' tk hk => ?_⟩
  have hk' : ∀ b o, s.heap.get? b = some o → h'.get? b = some o := fun b o q => hk b o (by simp; exact Nat.ne_of_lt (Heap.lt_size q)) (Heap.get?_push_of_some _ q)
  have hsz : (l.map Value.bool).toArray.size = l.length := by simp
  rw [hsz, range_all]
  exact h _ h' tk (rel_keeps R hk') (.of_keeps fun a o _ e => hk' a o e) (by simp only [Rep])
theorem b_any {l : List Bool} : CallB c n (.builtin "any") [.list (l.map T.bool)] σ (.bool (l.any id)) := fun K X A s vs Q E hX o R r h => by
  obtain ⟨v, rfl, r1⟩ := repL1 r
  simp only [Rep] at r1; obtain ⟨a, ws, k, rfl, _, e, i⟩ := r1
  have := repL_bools l ws i
  subst this
  have hne : a ≠ s.heap.objs.size := Nat.ne_of_lt (Heap.lt_size e)
  refine call_any_walk (wpAny_pyIter_list (ints_isList e) ?_)
  refine ⟨_, _, _, _, _, _, _, rfl, Walks.list (A := A.in1) o.1 _ a hne (l.map Value.bool).toArray, ⟨⟨_, Heap.get?_push_size _ rfl, rfl, rfl⟩, (ints_isList e).push _⟩, truth_bools l, fun h' tk hk => ?_⟩
  have hk' : ∀ b o, s.heap.get? b = some o → h'.get? b = some o := fun b o q => hk b o (by simp; exact Nat.ne_of_lt (Heap.lt_size q)) (Heap.get?_push_of_some _ q)
  have hsz : (l.map Value.bool).toArray.size = l.length := by simp
  rw [hsz, range_any]
  exact h _ h' tk (rel_keeps R hk') (.of_keeps fun a o _ e => hk' a o e) (by simp only [Rep])

/-- the greatest of a list -/
noncomputable def top : List Int → Int
  | [] => 0
  | [a] => a
  | a :: l => if top l > a then top l else a
theorem top_ge : ∀ (l : List Int) (a : Int), a ∈ l → a ≤ top l
  | [b], a, h => by simp at h; simp [top, h]
  | b :: d :: l, a, h => by
    simp only [top]
    have ih := top_ge (d :: l)
    rcases List.mem_cons.mp h with rfl | h
    · split <;> (first | lia | omega)
    · have := ih a h; split <;> (first | lia | omega)
theorem top_mem : ∀ (l : List Int), l ≠ [] → top l ∈ l
  | [b], _ => by simp [top]
  | b :: d :: l, _ => by
    simp only [top]
    split
    · exact List.mem_cons_of_mem _ (top_mem (d :: l) (by simp))
    · simp
theorem b_max_list {l : List Int} (hne : l ≠ []) : CallB c n (.builtin "max") [.ints l] σ (.int (top l)) := fun K X A s vs Q E hX o R r h => by
  obtain ⟨v, rfl, r1⟩ := repL1 r
  simp only [Rep] at r1; obtain ⟨a, rfl, _, ws, k, e, i⟩ := r1
  obtain ⟨xs, ex⟩ := i.allInts.items
  have hns : l = xs.toList.map (·.1) := by rw [← i.numsOf, ← nums_intItems, ← ex]
  have hsz : 0 < xs.size := by
    have h3 : 0 < l.length := List.length_pos_iff.mpr hne
    rw [hns, List.length_map, Array.length_toList] at h3; exact h3
  have hl := ints_isList e
  rw [ex] at hl
  refine max_intList o.1 hl hsz fun v h' tk hv hk => ?_
  obtain ⟨t, rfl⟩ := intItems_at hv
  obtain ⟨h1, h2⟩ := argBest_gt (numAt xs) (xs.size - 1)
  have hm : numAt xs (argBest (fun i j => decide (numAt xs i > numAt xs j)) (xs.size - 1)) = top l := by
    have e1 := top_mem l hne
    have e2 : numAt xs (argBest (fun i j => decide (numAt xs i > numAt xs j)) (xs.size - 1)) ∈ l := by
      rw [hns, numAt_eq]; exact getD_mem (by rw [List.length_map, Array.length_toList]; (first | lia | omega))
    have e3 : top l ≤ numAt xs (argBest (fun i j => decide (numAt xs i > numAt xs j)) (xs.size - 1)) := by
      rw [hns] at e1
      obtain ⟨j, hj, ej⟩ := mem_getD e1
      rw [List.length_map, Array.length_toList] at hj
      rw [hns, ← ej, ← numAt_eq]; exact h2 j (by (first | lia | omega))
    have e4 := top_ge l _ e2
    (first | lia | omega)
  rw [hm]
  exact h _ h' tk (rel_keeps R hk) (.of_keeps fun a o _ e => hk a o e) (by simp only [Rep]; exact ⟨t, rfl⟩)
end
end Mine
end
section
namespace Mine
section
variable {c : Cfg} {n : Nat} {names : List (Str × NameKind)} {loc : Loc} {σ σ₁ σ₂ σ₃ : St}

/-- the addresses M have turned: D and Fd, and what is read as it lies, are not among them -/
theorem rel_upd {X M : Addr → Prop} {h h' : Heap} (R : RelH c X σ h) (k : ∀ a o, ¬ M a → h.get? a = some o → h'.get? a = some o) (hM : ∀ a, M a → X a ∧ ¬ c.Mut a) (live : ∀ a, M a → ∃ o, h'.get? a = some o) : RelH c X σ h' where
  base := fun a x e => k _ _ (fun q => by rw [R.stay a (hM a q).1] at e; cases e) (R.base a x e)
  live := fun a q => by
    by_cases hm : M a
    · exact live a hm
    · obtain ⟨x, e⟩ := R.live a q; exact ⟨x, k _ _ hm e⟩
  muts := R.muts
  ne := R.ne
  data := let ⟨vs, n, e, i⟩ := R.data; ⟨vs, n, k _ _ (fun q => (hM _ q).2 (.inl rfl)) e, i⟩
  feed := let ⟨t, n, e⟩ := R.feed; ⟨t, n, k _ _ (fun q => (hM _ q).2 (.inr rfl)) e⟩
  cells := ⟨R.cells.1, let ⟨vs, n, e, i⟩ := R.cells.2; ⟨vs, n, k _ _ (fun q => R.cells.1 (hM _ q).1) e, i⟩⟩
  given := ⟨R.given.1, let ⟨vs, n, e, i⟩ := R.given.2; ⟨vs, n, k _ _ (fun q => R.given.1 (hM _ q).1) e, i⟩⟩
  obj := ⟨R.obj.1, k _ _ (fun q => R.obj.1 (hM _ q).1) R.obj.2⟩
  dict := ⟨R.dict.1, let ⟨es, n, e, r⟩ := R.dict.2; ⟨es, n, k _ _ (fun q => R.dict.1 (hM _ q).1) e, r⟩⟩
  fresh := R.fresh
  stay := R.stay
  epl := fun a q => by
    by_cases hm : M a
    · exact live a hm
    · obtain ⟨x, e⟩ := R.epl a q; exact ⟨x, k _ _ hm e⟩

theorem FrsOk.keeps {h h' : Heap} {M : Addr → Prop} (k : ∀ a o, ¬ M a → h.get? a = some o → h'.get? a = some o) (u : ∀ a o, M a → h.get? a = some o → o.cls = .type "frame" → ∃ o' es j, h'.get? a = some o' ∧ o'.cls = .type "frame" ∧ o'.data = .dict es j) :
    ∀ {l : List Env}, FrsOk h l → FrsOk h' l
  | [], _ => trivial
  | _ :: _, ⟨hk, ⟨L, o, es, j, e1, e2, e3, e4⟩, r⟩ => by
    refine ⟨hk, ?_, FrsOk.keeps k u r⟩
    by_cases hm : M L
    · obtain ⟨o', es', j', q1, q2, q3⟩ := u L o hm e2 e3
      exact ⟨L, o', es', j', e1, q1, q2, q3⟩
    · exact ⟨L, o, es, j, e1, k _ _ hm e2, e3, e4⟩

theorem FrsOk.keepsD {h h' : Heap} {M : Addr → Prop} (k : ∀ a o, ¬ M a → h.get? a = some o → h'.get? a = some o) (u : ∀ a o es j, M a → h.get? a = some o → o.data = .dict es j → False) :
    ∀ {l : List Env}, FrsOk h l → FrsOk h' l
  | [], _ => trivial
  | _ :: _, ⟨hk, ⟨L, o, es, j, e1, e2, e3, e4⟩, r⟩ => ⟨hk, ⟨L, o, es, j, e1, k _ _ (fun hm => u L o es j hm e2 e4) e2, e3, e4⟩, FrsOk.keepsD k u r⟩
theorem putName_cls (name : Str) (hsh : Int) (key v : Value) (o : Obj) : (Obj.putName name hsh key v o).cls = o.cls := by
  obtain ⟨cl, d, dt, sl⟩ := o
  rw [Obj.putName_eq]
  unfold Obj.putNameByArray
  cases dt <;> first | rfl | (dsimp only; split <;> rfl)
theorem nsSet_own {M : Model} {A : Around} {E : Value → Shared → Prop} {s : Shared} {a : Addr} {m} {name : Str} {v : Value} {Q : Unit → Shared → Prop} (hn : s.heap.Ns a m)
    (h : ∀ h', h'.Ns a (fun x => if x = name then some v else m x) → Heap.SameBut a s.heap h' → (∀ o o', s.heap.get? a = some o → h'.get? a = some o' → o'.cls = o.cls) → Q () { s with heap := h', toks := s.toks + 1 }) :
    wpAny M A (nsSet a name v) Q E s := fun Γ p _ => by
  have key := Sem.wp_nsSet M Γ (fun _ _ _ => True) p s hn name v (fun _ _ s' => s'.heap.Ns a (fun x => if x = name then some v else m x) ∧ Heap.SameBut a s.heap s'.heap) (fun h' x y => ⟨x, y⟩)
  obtain ⟨o, es, ep, ho, hd, hk, hm⟩ := hn
  have hany : es.any (·.refKey) = false := by
    rw [Array.any_eq_false']; intro e he; obtain ⟨n, t, h⟩ := hk e he; simp [DictEntry.refKey, h]
  simp only [nsSet, strHash, Sem.wp_bind', Sem.wp_cmd_ask, Sem.wp_pure', Sem.wp_cmd_mkText] at key ⊢
  rw [Sem.wp_loadPart_of M Γ _ p { s with toks := s.toks + 1 } (o := o) _ ho] at key ⊢
  simp only [hd, aRefKeyMayBeTheName_eq, aRefKeyMayBeTheNameByArray, hany, Bool.and_false, Bool.false_eq_true, if_false, Sem.wp_cmd_updatePart] at key ⊢
  refine ⟨key.1, h _ key.2.1 key.2.2 fun o₁ o' e1 e2 => ?_⟩
  rw [ho] at e1; cases e1
  have hf : ∀ hsh key, (Obj.putName name hsh key v o).isFreed = false := fun hsh key => by
    obtain ⟨cl, d, dt, sl⟩ := o
    subst hd
    rw [Obj.putName_eq]; unfold Obj.putNameByArray
    dsimp only; split <;> rfl
  rw [Heap.get?_update_self _ ho (hf _ _)] at e2
  cases e2
  exact putName_cls ..

theorem lookup_cons_ne {x y : Str} {t : T} {loc : Loc} (h : y ≠ x) : ((x, t) :: loc).lookup y = loc.lookup y := by
  rw [List.lookup_cons, beq_eq_false_iff_ne.mpr h]
theorem lookup_cons_eq {x : Str} {t : T} {loc : Loc} : ((x, t) :: loc).lookup x = some t := by rw [List.lookup_cons, beq_self_eq_true]

/-- a value stored under a name -/
theorem store_var3 {X ow : Addr → Prop} {A : Around} {env : Env} {s : Shared} {E : Value → Shared → Prop} {Q : Unit → Shared → Prop} {x : Str} {t : T} {v : Value} (hX : ∀ a, c.Mut a → X a) (W : Act c X ow A n env names loc σ s.heap)
    (r : VRep c X ow s.heap t v) (hk : names.lookup x = some .local ∨ names.lookup x = some .cell)
    (h : ∀ h' tk, Act c X ow A n env names ((x, t) :: loc) σ h' → Kp (fun a => a = env.locals ∨ ∃ x, (x, a) ∈ env.cells) s.heap h' → (∀ a o, a ≠ env.locals → (∀ x, (x, a) ∉ env.cells) → s.heap.get? a = some o → h'.get? a = some o) → (names.lookup x = some .local → Kp (fun a => a = env.locals) s.heap h') → (∀ l, FrsOk s.heap l → FrsOk h' l) → Q () { s with heap := h', toks := tk }) :
    wpAny (model c.prog c.w) A (storeName env x v) Q E s := by
  have hko : ∀ y, env.kindOf y = names.lookup y := fun y => by show env.scope.names.lookup y = _; rw [W.names]
  obtain ⟨m, hn, hm⟩ := W.fr.ns
  rcases hk with hk | hk
  · have hk' : env.kindOf x = some .local := by rw [hko]; exact hk
    rw [storeName_local hk' (by rw [W.kind]; rfl)]
    refine nsSet_own hn fun h' hn' hs hcls => ?_
    have kk : ∀ a o, ¬ (a = env.locals) → s.heap.get? a = some o → h'.get? a = some o := fun a o hne e => (hs.2 a hne).trans e
    have kp : Kp (fun a => a = env.locals) s.heap h' := .of_keeps kk
    have hLX : ∀ a, a = env.locals → X a := fun a q => W.excl a (.inl q)
    have hLive : ∀ a, a = env.locals → ∃ o, h'.get? a = some o := fun a q => by obtain ⟨o, _, _, ho, _⟩ := hn'; exact ⟨o, by rw [q]; exact ho⟩
    have hcn : ∀ a u, s.heap.IsCell a u → a ≠ env.locals := fun a u ⟨o, ho, hd⟩ q => by
      obtain ⟨o', _, _, ho', hd', _⟩ := hn
      rw [q, ho'] at ho; cases ho; rw [hd'] at hd; cases hd
    refine h h' _ ⟨W.ok, ?_, W.kind, W.names, W.glob, W.blt, W.excl, ⟨⟨_, hn', fun y t' e d q => ?_⟩, fun y t' e d q => ?_, fun y a q => ?_, W.fr.apart, W.fr.has⟩,
      rel_upd W.rel kk (fun a q => ⟨.inl (hLX a q), fun z => W.rel.not_ns hn (q ▸ z)⟩) hLive⟩ (kp.mono fun a q => .inl q) (fun a o q _ e => kk a o q e) (fun _ => kp) (fun l f => ?_)
    rotate_right
    · refine f.keeps kk fun a o q ho hc => ?_
      obtain ⟨o', es, ep, ho', hd', _⟩ := hn'
      subst q
      exact ⟨o', es, ep, ho', (hcls _ _ ho ho').trans hc, hd'⟩
    · obtain ⟨l, e, f⟩ := W.frs
      refine ⟨l, e, f.keeps kk fun a o q ho hc => ?_⟩
      obtain ⟨o', es, ep, ho', hd', _⟩ := hn'
      subst q
      exact ⟨o', es, ep, ho', (hcls _ _ ho ho').trans hc, hd'⟩
    · by_cases hy : y = x
      · subst hy
        rw [lookup_cons_eq] at e; cases e
        exact ⟨v, by simp, r.kp kp hLX⟩
      · rw [lookup_cons_ne hy] at e
        obtain ⟨u, e1, e2⟩ := hm y t' e d q
        exact ⟨u, by simp [hy, e1], e2.kp kp hLX⟩
    · have hy : y ≠ x := fun z => by subst z; rw [hk'] at q; rcases q with q | q <;> cases q
      rw [lookup_cons_ne hy] at e
      obtain ⟨a, u, e1, e2, e3⟩ := W.fr.cells y t' e d q
      exact ⟨a, u, e1, e2.sameBut hs (hcn _ _ e2), e3.kp kp hLX⟩
    · obtain ⟨u, hu⟩ := W.fr.cellAt y a q
      exact ⟨u, hu.sameBut hs (hcn _ _ hu)⟩
  · have hk' : env.kindOf x = some .cell := by rw [hko]; exact hk
    obtain ⟨a, ha⟩ := W.fr.has x hk'
    have ham := mem_of_lookup ha
    obtain ⟨u₀, hu₀⟩ := W.fr.cellAt x a ham
    refine wpAny_storeName_cell W.kind hk' ha hu₀ fun h' hc' hs => ?_
    have kk : ∀ b o, ¬ (b = a) → s.heap.get? b = some o → h'.get? b = some o := fun b o hne e => (hs.2 b hne).trans e
    have kp : Kp (fun b => b = a) s.heap h' := .of_keeps kk
    have hLX : ∀ b, b = a → X b := fun b q => W.excl b (.inr ⟨x, q ▸ ham⟩)
    have hLive : ∀ b, b = a → ∃ o, h'.get? b = some o := fun b q => by obtain ⟨o, ho, _⟩ := hc'; exact ⟨o, by rw [q]; exact ho⟩
    have hLa : env.locals ≠ a := fun q => by
      obtain ⟨o', _, _, ho', hd', _⟩ := hn
      obtain ⟨o, ho, hd⟩ := hu₀
      rw [← q, ho'] at ho; cases ho; rw [hd'] at hd; cases hd
    have hn' := hn.sameBut hs hLa
    refine h h' s.toks ⟨W.ok, ?_, W.kind, W.names, W.glob, W.blt, W.excl, ⟨⟨_, hn', fun y t' e d q => ?_⟩, fun y t' e d q => ?_, fun y b q => ?_, W.fr.apart, W.fr.has⟩,
      rel_upd W.rel kk (fun b q => ⟨.inl (hLX b q), fun z => W.rel.not_cell hu₀ (q ▸ z)⟩) hLive⟩ (kp.mono fun b q => .inr ⟨x, q ▸ ham⟩) (fun b o q q' e => kk b o (fun z => q' x (z ▸ ham)) e) (fun q => by rw [hk] at q; cases q) (fun l f => ?_)
    rotate_right
    · refine f.keepsD kk fun b o es j q ho hd => ?_
      obtain ⟨o', ho', hd'⟩ := hu₀
      subst q
      rw [ho] at ho'; cases ho'; rw [hd] at hd'; cases hd'
    · obtain ⟨l, e, f⟩ := W.frs
      refine ⟨l, e, f.keepsD kk fun b o es j q ho hd => ?_⟩
      obtain ⟨o', ho', hd'⟩ := hu₀
      subst q
      rw [ho] at ho'; cases ho'; rw [hd] at hd'; cases hd'
    · have hy : y ≠ x := fun z => by subst z; rw [hk'] at q; cases q
      rw [lookup_cons_ne hy] at e
      obtain ⟨u, e1, e2⟩ := hm y t' e d q
      exact ⟨u, e1, e2.kp kp hLX⟩
    · by_cases hy : y = x
      · subst hy
        rw [lookup_cons_eq] at e; cases e
        exact ⟨a, v, ha, hc', r.kp kp hLX⟩
      · rw [lookup_cons_ne hy] at e
        obtain ⟨b, u, e1, e2, e3⟩ := W.fr.cells y t' e d q
        exact ⟨b, u, e1, e2.sameBut hs (fun z => hy (name_of_addr W.fr.apart (mem_of_lookup e1) (z ▸ ham))), e3.kp kp hLX⟩
    · by_cases hb : b = a
      · subst hb; exact ⟨_, hc'⟩
      · obtain ⟨u, hu⟩ := W.fr.cellAt y b q
        exact ⟨u, hu.sameBut hs hb⟩
theorem store_var {X ow : Addr → Prop} {A : Around} {env : Env} {s : Shared} {E : Value → Shared → Prop} {Q : Unit → Shared → Prop} {x : Str} {t : T} {v : Value} (hX : ∀ a, c.Mut a → X a) (W : Act c X ow A n env names loc σ s.heap)
    (r : VRep c X ow s.heap t v) (hk : names.lookup x = some .local ∨ names.lookup x = some .cell)
    (h : ∀ h' tk, Act c X ow A n env names ((x, t) :: loc) σ h' → Kp (fun a => a = env.locals ∨ ∃ x, (x, a) ∈ env.cells) s.heap h' → (∀ a o, a ≠ env.locals → (∀ x, (x, a) ∉ env.cells) → s.heap.get? a = some o → h'.get? a = some o) → Q () { s with heap := h', toks := tk }) :
    wpAny (model c.prog c.w) A (storeName env x v) Q E s := store_var3 hX W r hk fun h' tk a b d _ _ => h h' tk a b d
end
end Mine
end
section
namespace Mine
inductive SO where
  | next (loc : Loc) (σ : St)
  | ret (t : T) (σ : St)
  | exc (w : Str) (σ : St)

structure Post (c : Cfg) (n : Nat) (names : List (Str × NameKind)) (X ow : Addr → Prop) (A : Around) (env : Env) (h₀ : Heap) (s : Shared) (P : SO → Prop) (Q : Flow → Shared → Prop) (E : Value → Shared → Prop) : Prop where
  next : ∀ loc' σ' h' tk, P (.next loc' σ') → Act c X ow A n env names loc' σ' h' → Kp (MutF c env ow) h₀ h' → Q .next { s with heap := h', toks := tk }
  ret : ∀ t σ' v h' tk, P (.ret t σ') → RelH c X σ' h' → Kp (MutF c env ow) h₀ h' → Rep c X h' t v → Q (.ret v) { s with heap := h', toks := tk }
  exc : ∀ w σ' e h' tk, P (.exc w σ') → RelH c X σ' h' → Kp (MutF c env ow) h₀ h' → (∀ l, A.frames = some l → Fly c l e w h') → NewX h₀ h' e → E (.ref e) { s with heap := h', toks := tk }

noncomputable def Ex (c : Cfg) (n : Nat) (names : List (Str × NameKind)) (loc : Loc) (σ : St) (ss : List Stmt) (P : SO → Prop) : Prop :=
  CfgOk c → ∀ (X ow : Addr → Prop) (A : Around) (env : Env) (s : Shared) (Q : Flow → Shared → Prop) (E : Value → Shared → Prop), (∀ a, c.Mut a → X a) → Act c X ow A n env names loc σ s.heap →
    Post c n names X ow A env s.heap s P Q E → wpAny (model c.prog c.w) A (execs ss env) Q E s

noncomputable def St1 (c : Cfg) (n : Nat) (names : List (Str × NameKind)) (loc : Loc) (σ : St) (st : Stmt) (loc' : Loc) (σ' : St) : Prop :=
  CfgOk c → ∀ (X ow : Addr → Prop) (A : Around) (env : Env) (s : Shared) (Q : Flow → Shared → Prop) (E : Value → Shared → Prop), (∀ a, c.Mut a → X a) → Act c X ow A n env names loc σ s.heap →
    (∀ h' tk, Act c X ow A n env names loc' σ' h' → Kp (MutF c env ow) s.heap h' → Q .next { s with heap := h', toks := tk }) → wpAny (model c.prog c.w) A (exec st env) Q E s

section
variable {c : Cfg} {n : Nat} {names : List (Str × NameKind)} {loc loc' loc₁ : Loc} {σ σ' σ₁ σ₂ σ₃ : St} {P : SO → Prop} {rest : List Stmt}

theorem Kp.fresh {M M' : Addr → Prop} {h h' : Heap} (k : Kp M' h h') (hs : ∀ a, M' a → M a ∨ h.get? a = none) : Kp M h h' := fun a o hm e => by
  refine k a o (fun q => ?_) e
  rcases hs a q with z | z
  · exact hm z
  · rw [z] at e; cases e
theorem kpF {env : Env} {ow : Addr → Prop} {h h' : Heap} (k : Kp c.Mut h h') : Kp (MutF c env ow) h h' := k.mono fun a q => .inl q
theorem kpL {env : Env} {ow : Addr → Prop} {h h' : Heap} (k : Kp (fun a => a = env.locals ∨ ∃ x, (x, a) ∈ env.cells) h h') : Kp (MutF c env ow) h h' := k.mono fun a q => q.elim (fun q => .inr (.inl q)) fun q => .inr (.inr (.inl q))
theorem RelH.anti {X Y : Addr → Prop} {h : Heap} (R : RelH c Y σ h) (hs : ∀ a, X a → Y a) (hm : ∀ a, c.Mut a → X a) : RelH c X σ h where
  base := R.base
  live := fun a q => R.live a (hs a q)
  muts := hm
  ne := R.ne
  data := R.data
  feed := R.feed
  cells := ⟨fun q => R.cells.1 (hs _ q), R.cells.2⟩
  given := ⟨fun q => R.given.1 (hs _ q), R.given.2⟩
  obj := ⟨fun q => R.obj.1 (hs _ q), R.obj.2⟩
  dict := ⟨fun q => R.dict.1 (hs _ q), R.dict.2⟩
  fresh := R.fresh
  stay := fun a q => R.stay a (hs a q)
  epl := R.epl
theorem RelH.un {X ow : Addr → Prop} {h : Heap} (R : RelH c (Un X ow) σ h) (hm : ∀ a, c.Mut a → X a) : RelH c X σ h := R.anti (fun a q => .inl q) hm

theorem fresh_kp {M : Addr → Prop} {h h' : Heap} (k : Kp M h h') {e : Addr} (hn : h'.get? e = none) (hM : ∀ a, M a → ∃ o, h.get? a = some o → ∃ o', h'.get? a = some o') : ¬ M e → h.get? e = none := fun hm => by
  cases q : h.get? e with
  | none => rfl
  | some o => obtain ⟨sl, z, _⟩ := k e o hm q; rw [hn] at z; cases z

theorem Post.from {X ow : Addr → Prop} {A : Around} {env : Env} {h₀ h₁ : Heap} {s : Shared} {tk : Nat} {Q : Flow → Shared → Prop} {E : Value → Shared → Prop} (W : Post c n names X ow A env h₀ s P Q E) (k : Kp (MutF c env ow) h₀ h₁)
    (live : ∀ a o, h₀.get? a = some o → ∃ o', h₁.get? a = some o') : Post c n names X ow A env h₁ { s with heap := h₁, toks := tk } P Q E where
  next := fun loc' σ' h' tk' p a k' => W.next loc' σ' h' tk' p a (k.trans k')
  ret := fun t σ' v h' tk' p R k' r => W.ret t σ' v h' tk' p R (k.trans k') r
  exc := fun w σ' e h' tk' p R k' f hn => by
    have old : ∀ a, h₁.get? a = none → h₀.get? a = none := fun a z => by
      cases q : h₀.get? a with
      | none => rfl
      | some o => obtain ⟨o', y⟩ := live a o q; rw [z] at y; cases y
    exact W.exc w σ' e h' tk' p R (k.trans k') f ⟨old _ hn.1, fun oe vs T e1 e2 e3 => old _ (hn.2 oe vs T e1 e2 e3)⟩
theorem Act.liveF {X ow : Addr → Prop} {A : Around} {env : Env} {h h' : Heap} (W : Act c X ow A n env names loc' σ' h') (how : ∀ a, ow a → Un X ow a := fun a q => .inr q) (k : Kp (MutF c env ow) h h') : ∀ a o, h.get? a = some o → ∃ o', h'.get? a = some o' := fun a o e => by
  by_cases hm : MutF c env ow a
  · rcases hm with q | q | q | q
    · exact W.rel.live a (W.rel.muts a q)
    · exact W.rel.live a (.inl (W.excl a (.inl q)))
    · exact W.rel.live a (.inl (W.excl a (.inr q)))
    · exact W.rel.live a (.inr q)
  · obtain ⟨sl, z, _⟩ := k a o hm e; exact ⟨_, z⟩

theorem ex_nil (h : P (.next loc σ)) : Ex c n names loc σ [] P := fun K X ow A env s Q E hX W R => wpAny_execs_nil (R.next loc σ s.heap s.toks h W (Kp.refl _ _))
theorem ex_step {st : Stmt} (h₁ : St1 c n names loc σ st loc₁ σ₁) (h₂ : Ex c n names loc₁ σ₁ rest P) : Ex c n names loc σ (st :: rest) P := fun K X ow A env s Q E hX W R =>
  wpAny_execs_cons (h₁ K X ow A env s _ E hX W fun h' tk W' k => h₂ K X ow A env _ Q E hX W' (R.from k (W'.liveF (fun a q => .inr q) k)))
/-- what follows a statement that may end otherwise -/
noncomputable def Then (c : Cfg) (n : Nat) (names : List (Str × NameKind)) (rest : List Stmt) (P : SO → Prop) : SO → Prop
  | .next loc σ => Ex c n names loc σ rest P
  | o => P o
theorem then_at {X ow : Addr → Prop} {A : Around} {env : Env} {s : Shared} {Q : Flow → Shared → Prop} {E : Value → Shared → Prop} (K : CfgOk c) (hX : ∀ a, c.Mut a → X a) (R : Post c n names X ow A env s.heap s P Q E) :
    Post c n names X ow A env s.heap s (Then c n names rest P) (fun f s' => match f with | .next => wpAny (model c.prog c.w) A (execs rest env) Q E s' | f => Q f s') E where
  next := fun loc' σ' h' tk p W' k => p K X ow A env _ Q E hX W' (R.from k (W'.liveF (fun a q => .inr q) k))
  ret := fun t σ' v h' tk p R' k r => R.ret t σ' v h' tk p R' k r
  exc := fun w σ' e h' tk p R' k f hn => R.exc w σ' e h' tk p R' k f hn
theorem ex_if {test : PySem.Expr} {body orelse : List Stmt} {p : Pos} {b : Bool} (h₁ : TsTo c n names loc σ test b σ₁) (h₂ : b = true → Ex c n names loc σ₁ body (Then c n names rest P)) (h₃ : b = false → Ex c n names loc σ₁ orelse (Then c n names rest P)) :
    Ex c n names loc σ (.If test body orelse p :: rest) P := fun K X ow A env s Q E hX W R =>
  wpAny_execs_cons (wpAny_If (h₁ K X ow A env s _ E hX W fun h' tk R' k => by
    have W' := W.kp k R' hX
    have T := (then_at (rest := rest) K hX R).from (tk := tk) (kpF k) (W'.liveF (fun a q => .inr q) (kpF k))
    cases b with
    | true => exact h₂ rfl K X ow A env _ _ E hX W' T
    | false => exact h₃ rfl K X ow A env _ _ E hX W' T))
theorem ex_ret {e : PySem.Expr} {p : Pos} {t : T} (h₁ : EvTo c n names loc σ e t σ₁) (h : P (.ret t σ₁)) : Ex c n names loc σ (.Return (some e) p :: rest) P := fun K X ow A env s Q E hX W R =>
  wpAny_execs_cons (wpAny_Return_some (h₁ K X ow A env s _ E hX W fun v h' tk R' k r => R.ret t σ₁ v h' tk h (R'.un hX) (kpF k) (Rep.anti (fun a q => .inl q) _ _ r)))
/-- return found: the object that was the frame's own -/
theorem ex_ret_own {x : Str} {p q : Pos} {ts : List T} (hl : loc.lookup x = some (.own ts)) (hk : names.lookup x = some .local) (h : P (.ret (.list ts) σ)) (hd : (x == ("__debug__" : Str)) = false := by decide) : Ex c n names loc σ (.Return (some (.Name x q)) p :: rest) P := fun K X ow A env s Q E hX W R => by
  have hk' : env.kindOf x = some .local := by show env.scope.names.lookup x = _; rw [W.names]; exact hk
  obtain ⟨m, hn, hm⟩ := W.fr.ns
  obtain ⟨v, hv, r⟩ := hm x _ hl (by simp) hk'
  obtain ⟨a, vs, k, rfl, _, hxa, ho, hr⟩ := r
  exact wpAny_execs_cons (wpAny_Return_some (wpAny_Name (wpAny_loadName_local W.kind hk' hn hv (R.ret _ σ _ s.heap s.toks h (W.rel.un hX) (Kp.refl _ _) (by
    simp only [Rep]; exact ⟨a, vs, k, rfl, hxa, ho, RepL.anti (fun a q => .inl q) _ _ hr⟩))) hd))
/-- return found: the entry that was the frame's own -/
theorem ex_ret_ownE {x : Str} {p q : Pos} {a d : Addr} {fs : List (Str × T)} {u xx sp kk : Int} {raw mp : List Int} (hl : loc.lookup x = some (.ownO a d c.EntC fs)) (hk : names.lookup x = some .local)
    (hz : fs.length ≤ 6) (f1 : (("user" : Str), T.int u) ∈ fs) (f2 : (("raw" : Str), T.ints raw) ∈ fs) (f3 : (("extent" : Str), T.int xx) ∈ fs) (f4 : (("spare" : Str), T.int sp) ∈ fs) (f5 : (("count" : Str), T.int kk) ∈ fs) (f6 : (("map" : Str), T.fints mp) ∈ fs)
    (h : P (.ret (.ent u raw xx sp kk mp) σ)) (hd : (x == ("__debug__" : Str)) = false := by decide) : Ex c n names loc σ (.Return (some (.Name x q)) p :: rest) P := fun K X ow A env s Q E hX W R => by
  have hk' : env.kindOf x = some .local := by show env.scope.names.lookup x = _; rw [W.names]; exact hk
  obtain ⟨m, hn, hm⟩ := W.fr.ns
  obtain ⟨v, hv, r⟩ := hm x _ hl (by simp) hk'
  obtain ⟨es, n', rfl, hx, h1, h2, z1, z2, z3⟩ := r
  obtain ⟨v1, g1, _, r1⟩ := z3 _ f1
  obtain ⟨v2, g2, _, r2⟩ := z3 _ f2
  obtain ⟨v3, g3, _, r3⟩ := z3 _ f3
  obtain ⟨v4, g4, _, r4⟩ := z3 _ f4
  obtain ⟨v5, g5, _, r5⟩ := z3 _ f5
  obtain ⟨v6, g6, _, r6⟩ := z3 _ f6
  simp only [Rep] at r1 r2 r3 r4 r5 r6
  obtain ⟨t1, rfl⟩ := r1; obtain ⟨b2, rfl, x2, i2⟩ := r2; obtain ⟨t3, rfl⟩ := r3; obtain ⟨t4, rfl⟩ := r4; obtain ⟨t5, rfl⟩ := r5; obtain ⟨b6, rfl, x6, y6, i6⟩ := r6
  exact wpAny_execs_cons (wpAny_Return_some (wpAny_Name (wpAny_loadName_local W.kind hk' hn hv (R.ret _ σ _ s.heap s.toks h (W.rel.un hX) (Kp.refl _ _) (by
    simp only [Rep]
    exact ⟨a, d, rfl, hx.2.2.1, hx.2.2.2.1, es, n', b2, b6, h1, h2, Nat.le_trans z1 hz, ⟨z2, ⟨t1, g1⟩, g2, ⟨t3, g3⟩, ⟨t4, g4⟩, ⟨t5, g5⟩, g6⟩, fun q => x2 (.inl q), i2, fun q => x6 (.inl q), i6, hx.2.2.2.2.1, hx.2.2.2.2.2.1, y6⟩))) hd))

/-- x = e -/
theorem st_assign {x : Str} {xp p : Pos} {e : PySem.Expr} {t : T} (h₁ : EvTo c n names loc σ e t σ₁) (hk : names.lookup x = some .local ∨ names.lookup x = some .cell) (hs : ∀ env, swapsWith e (some (.Name x xp)) p.line env = pure false := by intro _; rfl) :
    St1 c n names loc σ (.Assign [.Name x xp] e p) ((x, t) :: loc) σ₁ := fun K X ow A env s Q E hX W h =>
  wpAny_Assign_Name (h₁ K X ow A env s _ E hX W fun v h' tk R k r => store_var (E := E) (s := { s with heap := h', toks := tk }) (Q := fun _ s' => Q .next s') hX (W.kp k R hX) (VRep.of r) hk fun h'' tk' W' k' _ => h h'' tk' W' ((kpF k).trans (kpL k'))) (hs env)
/-- x = x + e, x -= e -/
theorem st_aug_sub {x : Str} {xp p : Pos} {e : PySem.Expr} {a b : Int} (hl : loc.lookup x = some (.int a)) (hk : names.lookup x = some .local) (h₁ : EvTo c n names loc σ e (.int b) σ₁) : St1 c n names loc σ (.AugAssign (.Name x xp) .Sub e p) ((x, .int (a - b)) :: loc) σ₁ := fun K X ow A env s Q E hX W h => by
  have hk' : env.kindOf x = some .local := by show env.scope.names.lookup x = _; rw [W.names]; exact hk
  obtain ⟨m, hn, hm⟩ := W.fr.ns
  obtain ⟨v, hv, r⟩ := hm x _ hl (by simp) hk'
  have r : Rep c (Un X ow) s.heap (.int a) v := r
  simp only [Rep] at r; obtain ⟨t, rfl⟩ := r
  refine wpAny_AugAssign_Name (wpAny_loadName_local W.kind hk' hn hv (h₁ K X ow A env s _ E hX W fun v h' tk R k r => ?_))
  simp only [Rep] at r; obtain ⟨u, rfl⟩ := r
  refine isub_int ?_
  exact store_var (t := .int (a - b)) (E := E) (Q := fun _ s' => Q .next s') hX (W.kp k R hX) (VRep.of (by simp only [Rep]; exact ⟨_, rfl⟩)) (.inl hk) fun h'' tk' W' k' _ => h h'' tk' W' ((kpF k).trans (kpL k'))
theorem st_aug_add {x : Str} {xp p : Pos} {e : PySem.Expr} {a b : Int} (hl : loc.lookup x = some (.int a)) (hk : names.lookup x = some .local) (h₁ : EvTo c n names loc σ e (.int b) σ₁) : St1 c n names loc σ (.AugAssign (.Name x xp) .Add e p) ((x, .int (a + b)) :: loc) σ₁ := fun K X ow A env s Q E hX W h => by
  have hk' : env.kindOf x = some .local := by show env.scope.names.lookup x = _; rw [W.names]; exact hk
  obtain ⟨m, hn, hm⟩ := W.fr.ns
  obtain ⟨v, hv, r⟩ := hm x _ hl (by simp) hk'
  have r : Rep c (Un X ow) s.heap (.int a) v := r
  simp only [Rep] at r; obtain ⟨t, rfl⟩ := r
  refine wpAny_AugAssign_Name (wpAny_loadName_local W.kind hk' hn hv (h₁ K X ow A env s _ E hX W fun v h' tk R k r => ?_))
  simp only [Rep] at r; obtain ⟨u, rfl⟩ := r
  refine PyProof.Rows.iadd_int ?_
  exact store_var (t := .int (a + b)) (E := E) (Q := fun _ s' => Q .next s') hX (W.kp k R hX) (VRep.of (by simp only [Rep]; exact ⟨_, rfl⟩)) (.inl hk) fun h'' tk' W' k' _ => h h'' tk' W' ((kpF k).trans (kpL k'))
/-- e, its value dropped -/
theorem st_expr {e : PySem.Expr} {p : Pos} {t : T} (h₁ : EvTo c n names loc σ e t σ₁) (hs : ∀ env, swapsWith e none p.line env = pure false := by intro _; rfl) : St1 c n names loc σ (.Expr e p) loc σ₁ := fun K X ow A env s Q E hX W h =>
  wpAny_Expr_any (h₁ K X ow A env s _ E hX W fun v h' tk R k r => h h' tk (W.kp k R hX) (kpF k)) (by show (env.scope.kind == .module && _) = false; rw [W.kind]; rfl) (hs env)

/-- fewer names, or nothing known of them -/
noncomputable def Sub (loc : Loc) : Loc → Prop
  | [] => True
  | (x, t) :: r => (loc.lookup x = some t ∨ t = .dead) ∧ Sub loc r
theorem Sub.at {loc : Loc} : ∀ {loc' : Loc}, Sub loc loc' → ∀ x t, loc'.lookup x = some t → t ≠ .dead → loc.lookup x = some t
  | (y, u) :: r, ⟨h1, h2⟩, x, t, e, d => by
    by_cases hy : x = y
    · subst hy
      rw [lookup_cons_eq] at e; cases e
      exact h1.resolve_right d
    · rw [lookup_cons_ne hy] at e
      exact Sub.at h2 x t e d
theorem Act.sub {X ow : Addr → Prop} {A : Around} {env : Env} {h : Heap} (W : Act c X ow A n env names loc σ h) (hs : Sub loc loc') : Act c X ow A n env names loc' σ h :=
  { W with fr := ⟨let ⟨m, a, b⟩ := W.fr.ns; ⟨m, a, fun x t e d q => b x t (hs.at x t e d) d q⟩, fun x t e d q => W.fr.cells x t (hs.at x t e d) d q, W.fr.cellAt, W.fr.apart, W.fr.has⟩ }
theorem ex_sub {ss : List Stmt} (hs : Sub loc loc') (h : Ex c n names loc' σ ss P) : Ex c n names loc σ ss P := fun K X ow A env s Q E hX W R => h K X ow A env s Q E hX (W.sub hs) R
theorem ex_mono {ss : List Stmt} {P' : SO → Prop} (h : Ex c n names loc σ ss P) (hp : ∀ o, P o → P' o) : Ex c n names loc σ ss P' := fun K X ow A env s Q E hX W R =>
  h K X ow A env s Q E hX W ⟨fun _ _ _ _ p => R.next _ _ _ _ (hp _ p), fun _ _ _ _ _ p => R.ret _ _ _ _ _ (hp _ p), fun _ _ _ _ _ p => R.exc _ _ _ _ _ (hp _ p)⟩
end
end Mine
end
section
namespace Mine
section
variable {c : Cfg} {n : Nat} {names : List (Str × NameKind)} {loc loc' loc₁ : Loc} {σ σ' σ₁ σ₂ σ₃ : St} {P : SO → Prop} {rest : List Stmt} {X ow : Addr → Prop} {A : Around} {env : Env} {h h' h₀ : Heap}

theorem RelH.turn {Y Y₀ Z N : Addr → Prop} {σ₀ : St} (R : RelH c Y σ h) (R₀ : RelH c Y₀ σ₀ h₀) (hZ : ∀ a, Z a → Y a ∨ N a) (hM : ∀ a, c.Mut a → Z a) (hN : ∀ a, N a → h₀.get? a = none ∧ ∃ o, h.get? a = some o) : RelH c Z σ h where
  base := R.base
  live := fun a q => (hZ a q).elim (R.live a) fun z => (hN a z).2
  muts := hM
  ne := R.ne
  data := R.data
  feed := R.feed
  cells := ⟨fun q => (hZ _ q).elim R.cells.1 fun z => R₀.cells.2.off (hN _ z).1, R.cells.2⟩
  given := ⟨fun q => (hZ _ q).elim R.given.1 fun z => R₀.given.2.off (hN _ z).1, R.given.2⟩
  obj := ⟨fun q => (hZ _ q).elim R.obj.1 fun z => off_none R₀.obj.2 (hN _ z).1, R.obj.2⟩
  dict := ⟨fun q => (hZ _ q).elim R.dict.1 fun z => let ⟨_, _, e, _⟩ := R₀.dict.2; off_none e (hN _ z).1, R.dict.2⟩
  fresh := R.fresh
  epl := R.epl
  stay := fun a q => (hZ a q).elim (R.stay a) fun z => by
    cases e : c.B0.get? a with
    | none => rfl
    | some o => exact (off_none (R₀.base a o e) (hN a z).1).elim

theorem OwnE.more {X' ow' : Addr → Prop} (hs : ∀ a, X' a → X a ∨ h.get? a = none) (hU : ∀ a, Un X' ow' a → Un X ow a ∨ h.get? a = none) (ho : ∀ a, ow a → ow' a) {a d fs} (r : OwnE c X ow h a d fs) : OwnE c X' ow' h a d fs :=
  let ⟨hx, es, n, h1, h2, h3⟩ := r
  ⟨⟨ho _ hx.1, ho _ hx.2.1, fun q => (hs a q).elim hx.2.2.1 (off_none h1), fun q => (hs d q).elim hx.2.2.2.1 (off_none h2), hx.2.2.2.2⟩, es, n, h1, h2, h3.more hU⟩
theorem OwnL.more {X' ow' : Addr → Prop} (hs : ∀ a, X' a → X a ∨ h.get? a = none) (hU : ∀ a, Un X' ow' a → Un X ow a ∨ h.get? a = none) (ho : ∀ a, ow a → ow' a) {m ts} (r : OwnL c X ow h m ts) : OwnL c X' ow' h m ts :=
  let ⟨h0, h1, h2, vs, n, h3, h4⟩ := r
  ⟨ho _ h0, fun q => (hs m q).elim h1 (off_none h3), h2, vs, n, h3, RepL.more hU _ _ h4⟩
theorem VRep.more {X' : Addr → Prop} (hs : ∀ a, X' a → X a ∨ h.get? a = none) {t : T} {v : Value} (r : VRep c X ow h t v) : VRep c X' ow h t v := by
  have hU : ∀ a, Un X' ow a → Un X ow a ∨ h.get? a = none := fun a q => q.elim (fun q => (hs a q).elim (fun z => .inl (.inl z)) .inr) fun q => .inl (.inr q)
  cases t with
  | own ts =>
    obtain ⟨a, vs, k, e, h1, h2, h3, h4⟩ := r
    exact ⟨a, vs, k, e, h1, fun q => (hs a q).elim h2 (off_none h3), h3, RepL.more hU ts vs h4⟩
  | ownO a d C fs =>
    obtain ⟨es, n, e, hx, h1, h2, h3⟩ := r
    exact ⟨es, n, e, ⟨hx.1, hx.2.1, fun q => (hs a q).elim hx.2.2.1 (off_none h1), fun q => (hs d q).elim hx.2.2.2.1 (off_none h2), hx.2.2.2.2⟩, h1, h2, h3.more hU⟩
  | ownG t os ls => exact ⟨Rep.more hU _ _ r.1, fun o q => (r.2.1 o q).more hs hU (fun _ z => z), fun l q => (r.2.2 l q).more hs hU fun _ z => z⟩
  | _ => exact Rep.more hU _ v r
theorem VRep.anti {X' : Addr → Prop} (hs : ∀ a, X' a → X a) {t : T} {v : Value} (r : VRep c X ow h t v) : VRep c X' ow h t v := by
  have hU : ∀ a, Un X' ow a → Un X ow a := fun a q => q.elim (fun q => .inl (hs a q)) .inr
  cases t with
  | own ts =>
    obtain ⟨a, vs, k, e, h1, h2, h3, h4⟩ := r
    exact ⟨a, vs, k, e, h1, fun q => h2 (hs a q), h3, RepL.anti hU ts vs h4⟩
  | ownO a d C fs =>
    obtain ⟨es, n, e, hx, h1, h2, h3⟩ := r
    exact ⟨es, n, e, ⟨hx.1, hx.2.1, fun q => hx.2.2.1 (hs a q), fun q => hx.2.2.2.1 (hs d q), hx.2.2.2.2⟩, h1, h2, h3.anti hU⟩
  | ownG t os ls => exact ⟨Rep.anti hU _ _ r.1, fun o q => (r.2.1 o q).more (fun a z => .inl (hs a z)) (fun a z => .inl (hU a z)) (fun _ z => z), fun l q => (r.2.2 l q).more (fun a z => .inl (hs a z)) (fun a z => .inl (hU a z)) fun _ z => z⟩
  | _ => exact Rep.anti hU _ v r
theorem FrOk.turn {X' : Addr → Prop} (F : FrOk c X ow env loc h) (hv : ∀ t v, VRep c X ow h t v → VRep c X' ow h t v) : FrOk c X' ow env loc h where
  ns := let ⟨m, a, b⟩ := F.ns; ⟨m, a, fun x t e d q => let ⟨v, r, s⟩ := b x t e d q; ⟨v, r, hv _ _ s⟩⟩
  cells := fun x t e d q => let ⟨a, v, r, s, u⟩ := F.cells x t e d q; ⟨a, v, r, s, hv _ _ u⟩
  cellAt := F.cellAt
  apart := F.apart
  has := F.has
/-- more is shut out: what is new -/
theorem Act.grow {N : Addr → Prop} (W : Act c X ow A n env names loc σ h₀) (k : Kp c.Mut h₀ h) (R : RelH c (Un X ow) σ' h) (hX : ∀ a, c.Mut a → X a) (hN : ∀ a, N a → h₀.get? a = none ∧ ∃ o, h.get? a = some o) : Act c (Un X N) ow A n env names loc σ' h where
  ok := W.ok
  frs := let ⟨l, e, q⟩ := W.frs; ⟨l, e, q.kp k W.rel.mut_frame⟩
  kind := W.kind
  names := W.names
  glob := W.glob
  blt := W.blt
  excl := fun a q => .inl (W.excl a q)
  fr := (W.fr.turn fun t v r => r.more fun a q => q.elim .inl fun z => .inr (hN a z).1).kp k (fun a q => .inl (hX a q)) (fun _ _ => W.rel.not_ns) (fun _ _ => W.rel.not_cell)
  rel := R.turn W.rel (fun a q => q.elim (fun q => q.elim (fun q => .inl (.inl q)) .inr) fun q => .inl (.inr q)) (fun a q => .inl (.inl (hX a q))) hN
/-- all but what stands in wr stands still -/
noncomputable def Kx (wr : List Addr) (h h' : Heap) : Prop := ∀ b o, b ∉ wr → h.get? b = some o → h'.get? b = some o
theorem Kx.kp {wr : List Addr} (k : Kx wr h h') : Kp (· ∈ wr) h h' := .of_keeps fun a o hm e => k a o hm e
noncomputable def WrOk (c : Cfg) (X : Addr → Prop) (env : Env) (A : Around) (wr : List Addr) : Prop :=
  ∀ a ∈ wr, X a ∧ ¬ c.Mut a ∧ a ≠ env.locals ∧ (∀ x, (x, a) ∉ env.cells) ∧ ∀ l, A.frames = some l → ∀ e ∈ l, e.frame ≠ some a
theorem FrsOk.off {wr : List Addr} (k : Kx wr h h') : ∀ {l : List Env}, (∀ a ∈ wr, ∀ e ∈ l, e.frame ≠ some a) → FrsOk h l → FrsOk h' l
  | [], _, _ => trivial
  | e :: r, hw, ⟨hk, ⟨L, o, es, j, e1, e2, e3, e4⟩, q⟩ => ⟨hk, ⟨L, o, es, j, e1, k _ _ (fun z => hw L z e List.mem_cons_self e1) e2, e3, e4⟩, FrsOk.off k (fun a z e' he' => hw a z e' (List.mem_cons_of_mem _ he')) q⟩
theorem FrsOk.live : ∀ {l : List Env}, FrsOk h l → ∀ e ∈ l, ∃ L o, e.frame = some L ∧ h.get? L = some o
  | [], _, _, he => by cases he
  | _ :: _, hk, e, he => by
    obtain ⟨_, ⟨L, o, _, _, e1, e2, _⟩, q⟩ := hk
    rcases List.mem_cons.mp he with rfl | he
    · exact ⟨L, o, e1, e2⟩
    · exact FrsOk.live q e he
theorem Act.wrOk {N : Addr → Prop} {wr : List Addr} (W : Act c X ow A n env names loc σ h₀) (hw : ∀ a ∈ wr, N a ∧ h₀.get? a = none) : WrOk c (Un X N) env A wr := fun a q => by
  obtain ⟨hn, h0⟩ := hw a q
  refine ⟨.inr hn, fun z => ?_, fun z => ?_, fun x z => ?_, fun l e f he z => ?_⟩
  · obtain ⟨o, e⟩ := W.rel.live a (W.rel.muts a z); exact off_none e h0
  · obtain ⟨m, ⟨o, _, _, e, _⟩, _⟩ := W.fr.ns; rw [← z] at e; exact off_none e h0
  · obtain ⟨v, o, e, _⟩ := W.fr.cellAt x a z; exact off_none e h0
  · obtain ⟨l', e', q'⟩ := W.frs
    rw [e] at e'; cases e'
    obtain ⟨L, o, e1, e2⟩ := q'.live f he
    rw [z] at e1; cases e1; exact off_none e2 h0
theorem Act.wr {wr : List Addr} (W : Act c X ow A n env names loc σ h) (hw : WrOk c X env A wr) (k : Kx wr h h') (live : ∀ a ∈ wr, ∃ o, h'.get? a = some o) : Act c X ow A n env names loc σ h' where
  ok := W.ok
  frs := let ⟨l, e, q⟩ := W.frs; ⟨l, e, q.off k fun a z f hf => (hw a z).2.2.2.2 l e f hf⟩
  kind := W.kind
  names := W.names
  glob := W.glob
  blt := W.blt
  excl := W.excl
  fr := by
    refine ⟨?_, fun x t e d q => ?_, fun x a q => ?_, W.fr.apart, W.fr.has⟩
    · obtain ⟨m, a, b⟩ := W.fr.ns
      exact ⟨m, ns_kp k.kp (fun z => (hw _ z).2.2.1 rfl) a, fun x t e d q => let ⟨v, r, s⟩ := b x t e d q; ⟨v, r, s.kp k.kp fun a z => (hw a z).1⟩⟩
    · obtain ⟨a, v, r, s, u⟩ := W.fr.cells x t e d q
      exact ⟨a, v, r, cell_kp k.kp (fun z => (hw _ z).2.2.2.1 x (mem_of_lookup r)) s, u.kp k.kp fun a z => (hw a z).1⟩
    · obtain ⟨v, s⟩ := W.fr.cellAt x a q
      exact ⟨v, cell_kp k.kp (fun z => (hw _ z).2.2.2.1 x q) s⟩
  rel := rel_upd W.rel (fun a o q e => k a o q e) (fun a q => ⟨.inl (hw a q).1, (hw a q).2.1⟩) live

noncomputable def Bnd (names : List (Str × NameKind)) (x : Str) : Prop := names.lookup x = some .local ∨ names.lookup x = some .cell
noncomputable def TgtOk (names : List (Str × NameKind)) : PySem.Expr → Prop
  | .Name x _ => Bnd names x
  | .Tuple [.Name x _, .Name y _] _ _ => Bnd names x ∧ Bnd names y
  | _ => False
noncomputable def TgtLoc (names : List (Str × NameKind)) : PySem.Expr → Prop
  | .Name x _ => names.lookup x = some .local
  | .Tuple [.Name x _, .Name y _] _ _ => names.lookup x = some .local ∧ names.lookup y = some .local
  | _ => False
/-- what a turn may change besides: the iterator's own, the frame's own -/
noncomputable def MutT (env : Env) (wr : List Addr) (a : Addr) : Prop := a ∈ wr ∨ a = env.locals ∨ ∃ x, (x, a) ∈ env.cells

/-- an iterator whose turns bind bs -/
structure Src (c : Cfg) (A : Around) (X ow : Addr → Prop) (I : Addr) (wr : List Addr) (target : PySem.Expr) (bs : List Loc) (Sv : Nat → Heap → Prop) : Prop where
  stable : ∀ i h h' M, (∀ a, M a → Un X ow a ∧ a ∉ wr) → Kp M h h' → Sv i h → Sv i h'
  live : ∀ i h, Sv i h → ∀ a ∈ wr, ∃ o, h.get? a = some o
  step : ∀ i b, bs[i]? = some b → ∀ (env : Env) (n : Nat) (names : List (Str × NameKind)) (loc : Loc) (σ : St) (s : Shared) (Q : Shared → Prop) (E1 E2 E3 : Value → Shared → Prop), Sv i s.heap → (∀ a, c.Mut a → X a) → WrOk c X env A wr →
    Act c X ow A n env names loc σ s.heap → TgtOk names target →
    (∀ h' tk, Act c X ow A n env names (b ++ loc) σ h' → Sv (i + 1) h' → Kp (MutT env wr) s.heap h' → (TgtLoc names target → Kp (fun a => a ∈ wr ∨ a = env.locals) s.heap h') → Q { s with heap := h', toks := tk }) →
    wpAny (model c.prog c.w) A (pyNext (.ref I)) (fun r s₁ => ∃ v, r = some v ∧ wpAny (model c.prog c.w) A (letOwnedTupleGo target (.ref I) v) (fun _ s₁' => wpAny (model c.prog c.w) A (assign target env v) (fun _ s₂ => Q s₂) E1 s₁') E2 s₁) E3 s
  done : ∀ (s : Shared) (Q : Option Value → Shared → Prop) (E : Value → Shared → Prop), Sv bs.length s.heap → (∀ h' tk, Kx wr s.heap h' → Q none { s with heap := h', toks := tk }) → wpAny (model c.prog c.w) A (pyNext (.ref I)) Q E s
  self : ∀ i (s : Shared) (Q : Value → Shared → Prop) (E : Value → Shared → Prop), Sv i s.heap → Q (.ref I) s → wpAny (model c.prog c.w) A (pyIter (.ref I)) Q E s

theorem Src.one {I : Addr} {fp wr wr' : List Addr} {k : Nat} {Pv : Nat → Value → Prop} {St₀ : Nat → Heap → Prop} {Rp : Heap → Prop} {x : Str} {p : Pos} {ts : List T} (W : Walks c.prog c.w A I fp wr k Pv St₀) (hlen : ts.length = k)
    (hsub : ∀ b ∈ wr, b ∈ wr') (hwf : ∀ b ∈ wr', b ∈ fp) (hfp : ∀ i h, St₀ i h → ∀ b ∈ fp, (b ∈ wr' ∨ ¬ Un X ow b) ∧ ∃ o, h.get? b = some o ∧ o.cls ≠ .type "frame")
    (hR : ∀ h h' M, (∀ a, M a → Un X ow a) → Kp M h h' → Rp h → Rp h') (hv : ∀ i v h t, Pv i v → Rp h → ts[i]? = some t → Rep c (Un X ow) h t v) :
    Src c A X ow I wr' (.Name x p) (ts.map fun t => [(x, t)]) (fun i h => St₀ i h ∧ Rp h) where
  stable := fun i h h' M hM kp ⟨a, b⟩ => ⟨W.frame i h h' a fun q hq o e => by
    obtain ⟨z, o', e', hc⟩ := hfp i h a q hq
    rw [e] at e'; cases e'
    exact kp.get (fun m => z.elim (hM q m).2 fun w => w (hM q m).1) e hc, hR h h' M (fun a m => (hM a m).1) kp b⟩
  live := fun i h ⟨a, _⟩ q hq => let ⟨_, o, e, _⟩ := hfp i h a q (hwf q hq); ⟨o, e⟩
  step := fun i b hb env n names loc σ s Q E1 E2 E3 ⟨st, rp⟩ hX hw WA ht h => by
    obtain ⟨t, ht', rfl⟩ : ∃ t, ts[i]? = some t ∧ [(x, t)] = b := by simpa using hb
    have hi : i < k := by rw [← hlen]; exact (List.getElem?_eq_some_iff.mp ht').1
    refine W.item i s _ _ hi st fun v h1 tk hP st1 k1 => ⟨v, rfl, ?_⟩
    have k1' : Kx wr' s.heap h1 := fun b o hb e => k1 b o (fun z => hb (hsub b z)) e
    have rp1 : Rp h1 := hR _ _ _ (fun a m => .inl (hw a m).1) k1'.kp rp
    have W1 := WA.wr hw k1' (fun a m => let ⟨_, o, e, _⟩ := hfp _ _ st1 a (hwf a m); ⟨o, e⟩)
    refine wpAny_pure ?_
    refine wpAny_assign_Name (store_var3 (s := { s with heap := h1, toks := tk }) hX W1 (VRep.of (hv i v h1 t hP rp1 ht')) ht fun h2 tk2 W2 k2 kx kl _ => ?_)
    refine h h2 tk2 W2 ⟨W.frame _ _ _ st1 fun q hq o e => ?_, hR _ _ _ (fun a m => .inl (WA.excl a m)) k2 rp1⟩ ((k1'.kp.mono fun a m => .inl m).trans (k2.mono fun a m => .inr m)) fun hl => (k1'.kp.mono fun a m => .inl m).trans ((kl hl).mono fun a m => .inr m)
    obtain ⟨z, o', e', hc⟩ := hfp _ _ st1 q hq
    rw [e] at e'; cases e'
    refine k2.get (fun m => ?_) e hc
    rcases z with z | z
    · rcases m with m | ⟨y, m⟩
      · exact (hw q z).2.2.1 m
      · exact (hw q z).2.2.2.1 y m
    · exact z (.inl (WA.excl q m))
  done := fun s Q E ⟨st, _⟩ h => W.done s Q E (by rw [List.length_map, hlen] at st; exact st) fun h' tk k' => h h' tk fun b o hb e => k' b o (fun z => hb (hsub b z)) e
  self := fun i s Q E ⟨st, _⟩ h => W.self i s Q E st h

theorem Src.two {I : Addr} {fp wr wr' : List Addr} {k : Nat} {Pt : Nat → Array Value → Prop} {St₀ : Nat → Heap → Prop} {Mid : Nat → Addr → Heap → Prop} {Rp : Heap → Prop} {x y : Str} {p px py : Pos} {kk : Nat} {ts us : List T} (W : WalksU c.prog c.w A I fp wr k Pt St₀ Mid) (hh : A.handled = none) (hlen : ts.length = k) (hlen' : us.length = k)
    (hsub : ∀ b ∈ wr, b ∈ wr') (hwf : ∀ b ∈ wr', b ∈ fp) (hfp : ∀ i h, St₀ i h → ∀ b ∈ fp, (b ∈ wr' ∨ ¬ Un X ow b) ∧ ∃ o, h.get? b = some o ∧ o.cls ≠ .type "frame")
    (hR : ∀ h h' M, (∀ a, M a → Un X ow a) → Kp M h h' → Rp h → Rp h') (hv : ∀ i vs h t u, Pt i vs → Rp h → ts[i]? = some t → us[i]? = some u → ∃ v w, vs = #[v, w] ∧ Rep c (Un X ow) h t v ∧ Rep c (Un X ow) h u w) :
    Src c A X ow I wr' (.Tuple [.Name x px, .Name y py] kk p) (List.zipWith (fun t u => [(y, u), (x, t)]) ts us) (fun i h => St₀ i h ∧ Rp h) where
  stable := fun i h h' M hM kp ⟨a, b⟩ => ⟨W.frame i h h' a fun q hq o e => by
    obtain ⟨z, o', e', hc⟩ := hfp i h a q hq
    rw [e] at e'; cases e'
    exact kp.get (fun m => z.elim (hM q m).2 fun w => w (hM q m).1) e hc, hR h h' M (fun a m => (hM a m).1) kp b⟩
  live := fun i h ⟨a, _⟩ q hq => let ⟨_, o, e, _⟩ := hfp i h a q (hwf q hq); ⟨o, e⟩
  step := fun i b hb env n names loc σ s Q E1 E2 E3 ⟨st, rp⟩ hX hw WA ⟨hbx, hby⟩ h => by
    obtain ⟨t, u, ht', hu', rfl⟩ : ∃ t u, ts[i]? = some t ∧ us[i]? = some u ∧ [(y, u), (x, t)] = b := by
      rw [List.getElem?_zipWith] at hb
      cases ht : ts[i]? with
      | none => rw [ht] at hb; cases hb
      | some t =>
        cases hu : us[i]? with
        | none => rw [ht, hu] at hb; cases hb
        | some u => rw [ht, hu] at hb; exact ⟨t, u, rfl, rfl, by simpa using hb⟩
    have hi : i < k := by rw [← hlen]; exact (List.getElem?_eq_some_iff.mp ht').1
    refine W.item i s _ _ hi st fun Ta vals h1 tk hP hT hm k1 => ⟨_, rfl, ?_⟩
    have k1' : Kx wr' s.heap h1 := fun b o hb e => k1 b o (fun z => hb (hsub b z)) e
    refine W.go _ _ _ i Ta _ _ _ hm fun h2 st2 k2 => ?_
    have k2' : Kx wr' h1 h2 := fun b o hb e => k2 b o (fun z => hb (hsub b z)) e
    have k12 : Kx wr' s.heap h2 := fun b o hb e => k2' b o hb (k1' b o hb e)
    have rp2 : Rp h2 := hR _ _ _ (fun a m => .inl (hw a m).1) k12.kp rp
    have hT2 : IsTup h2 Ta vals := let ⟨o, e, r⟩ := hT; ⟨o, k2 _ _ (W.apart _ _ _ hm) e, r⟩
    have W2 := WA.wr hw k12 (fun a m => let ⟨_, o, e, _⟩ := hfp _ _ st2 a (hwf a m); ⟨o, e⟩)
    obtain ⟨v, w, rfl, r1, r2⟩ := hv i vals h2 t u hP rp2 ht' hu'
    refine assign_Tuple_tuple hh hT2 rfl rfl fun h3 he => ?_
    have k3 : ∀ b o, h2.get? b = some o → h3.get? b = some o := fun b o e => he b o (Nat.ne_of_lt (Heap.lt_size e)) e
    have W3 : Act c X ow A n env names loc σ h3 := W2.kp (.of_keeps fun a o _ e => k3 a o e) (rel_keeps W2.rel k3) hX
    have st3 : St₀ (i + 1) h3 := W.frame _ _ _ st2 fun q hq o e => k3 q o e
    have kN : Kp No h2 h3 := .of_keeps fun a o _ e => k3 a o e
    have kL : ∀ {h h' : Heap}, St₀ (i + 1) h → Kp (fun a => a = env.locals ∨ ∃ x, (x, a) ∈ env.cells) h h' → St₀ (i + 1) h' := fun {h h'} st kp => W.frame _ _ _ st fun q hq o e => by
      obtain ⟨z, o', e', hc⟩ := hfp _ _ st q hq
      rw [e] at e'; cases e'
      refine kp.get (fun m => ?_) e hc
      rcases z with z | z
      · rcases m with m | ⟨y, m⟩
        · exact (hw q z).2.2.1 m
        · exact (hw q z).2.2.2.1 y m
      · exact z (.inl (WA.excl q m))
    refine assignInOrder_cons (wpAny_assign_Name (store_var3 (t := t) (s := { s with heap := h3, toks := tk }) hX W3 (VRep.of (Rep.kp kN (fun _ q => q.elim) _ _ r1)) hbx fun h4 tk4 W4 k4 _ kl4 _ => ?_))
    have kx : ∀ a, (a = env.locals ∨ ∃ x, (x, a) ∈ env.cells) → Un X ow a := fun a m => .inl (WA.excl a m)
    refine assignInOrder_cons (wpAny_assign_Name (store_var3 (t := u) (s := { s with heap := h4, toks := tk4 }) hX W4 (VRep.of (Rep.kp k4 kx _ _ (Rep.kp kN (fun _ q => q.elim) _ _ r2))) hby fun h5 tk5 W5 k5 _ kl5 _ => ?_))
    refine assignInOrder_nil (h h5 tk5 W5 ⟨kL (kL st3 k4) k5, hR _ _ _ kx k5 (hR _ _ _ kx k4 (hR _ _ No (fun _ q => q.elim) kN rp2))⟩ ?_ fun hl => ?_)
    · exact (((k12.kp.mono fun a m => .inl m).trans (kN.mono fun a m => m.elim)).trans (k4.mono fun a m => .inr m)).trans (k5.mono fun a m => .inr m)
    · exact (((k12.kp.mono fun a m => .inl m).trans (kN.mono fun a m => m.elim)).trans ((kl4 hl.1).mono fun a m => .inr m)).trans ((kl5 hl.2).mono fun a m => .inr m)
  done := fun s Q E ⟨st, _⟩ h => W.done s Q E (by rw [List.length_zipWith, hlen, hlen', Nat.min_self] at st; exact st) fun h' tk k' => h h' tk fun b o hb e => k' b o (fun z => hb (hsub b z)) e
  self := fun i s Q E ⟨st, _⟩ h => W.self i s Q E st h
end
end Mine
end
section
namespace Mine
section
variable {c : Cfg} {n : Nat} {names : List (Str × NameKind)} {loc loc' loc₁ : Loc} {σ σ' σ₁ σ₂ σ₃ : St} {P : SO → Prop} {rest : List Stmt} {X ow : Addr → Prop} {A : Around} {env : Env} {h h' h₀ : Heap}

theorem fresh_back {Y Y' : Addr → Prop} {h₁ : Heap} (R₀ : RelH c Y σ h₀) (R₁ : RelH c Y' σ' h₁) (k : Kp c.Mut h₀ h₁) {a : Addr} (e : h₁.get? a = none) : h₀.get? a = none := by
  cases q : h₀.get? a with
  | none => rfl
  | some o =>
    by_cases hm : c.Mut a
    · obtain ⟨o', z⟩ := R₁.live a (R₁.muts a hm); exact (off_none z e).elim
    · obtain ⟨sl, z, _⟩ := k a o hm q; exact (off_none z e).elim
theorem size_none (h : Heap) : h.get? h.objs.size = none := by
  cases q : h.get? h.objs.size with
  | none => rfl
  | some o => exact absurd (Heap.lt_size q) (Nat.lt_irrefl _)
theorem ge_none {h : Heap} {a : Addr} (ha : h.objs.size ≤ a) : h.get? a = none := by
  cases q : h.get? a with
  | none => rfl
  | some o => exact absurd (Heap.lt_size q) (Nat.not_lt.mpr ha)

/-- the walk over what iter comes to binds bs, turn by turn -/
noncomputable def IterTo (c : Cfg) (n : Nat) (names : List (Str × NameKind)) (loc : Loc) (σ : St) (iter target : PySem.Expr) (bs : List Loc) (σ' : St) : Prop :=
  CfgOk c → ∀ (X ow : Addr → Prop) (A : Around) (env : Env) (s : Shared) (Q E : Value → Shared → Prop), (∀ a, c.Mut a → X a) → Act c X ow A n env names loc σ s.heap →
    (∀ h' tk I wr (Sv : (Addr → Prop) → Nat → Heap → Prop), RelH c (Un X ow) σ' h' → Kp c.Mut s.heap h' → (∀ a ∈ wr, s.heap.get? a = none ∧ ∃ o, h'.get? a = some o) →
      (∀ N : Addr → Prop, (∀ a ∈ wr, N a) → (∀ a, N a → a ∈ wr ∨ h'.get? a = none) → Src c A (Un X N) ow I wr target bs (Sv N) ∧ Sv N 0 h') → Q (.ref I) { s with heap := h', toks := tk }) →
    wpAny (model c.prog c.w) A (eval iter env) (fun x s₁ => wpAny (model c.prog c.w) A (pyIter x) Q E s₁) E s

theorem ev_as_list {e : PySem.Expr} {l : List Int} (h₁ : EvTo c n names loc σ e (.ints l) σ₁) : EvTo c n names loc σ e (.list (l.map .int)) σ₁ := fun K X ow A env s Q E hX W h =>
  h₁ K X ow A env s Q E hX W fun v h' tk R k r => h v h' tk R k (by
    simp only [Rep] at r ⊢
    obtain ⟨a, rfl, hx, vs, m, e, i⟩ := r
    exact ⟨a, vs, m, rfl, hx, e, ints_repL i⟩)
theorem ev_as_ints {e : PySem.Expr} {ts : List T} {l : List Int} (h₁ : EvTo c n names loc σ e (.list ts) σ₁) (hl : ts = l.map .int) : EvTo c n names loc σ e (.ints l) σ₁ := fun K X ow A env s Q E hX W h =>
  h₁ K X ow A env s Q E hX W fun v h' tk R k r => h v h' tk R k (by
    subst hl
    simp only [Rep] at r ⊢
    obtain ⟨a, vs, m, rfl, hx, e, i⟩ := r
    exact ⟨a, rfl, hx, vs, m, e, repL_ints l vs i⟩)

theorem new_off {h : Heap} {o : Obj} {a : Addr} {N : Addr → Prop} (hN : ∀ a, N a → a = h.objs.size ∨ (h.push o).get? a = none) : N a → h.get? a = none := fun q => by
  rcases hN a q with rfl | e
  · exact size_none h
  · cases z : h.get? a with
    | none => rfl
    | some o' => exact (off_none (Heap.get?_push_of_some _ z) e).elim

theorem iter_list {iter : PySem.Expr} {x : Str} {p : Pos} {ts : List T} (h₁ : EvTo c n names loc σ iter (.list ts) σ₁) : IterTo c n names loc σ iter (.Name x p) (ts.map fun t => [(x, t)]) σ₁ := fun K X ow A env s Q E hX W h =>
  h₁ K X ow A env s _ E hX W fun v h1 tk R k r => by
    simp only [Rep] at r
    obtain ⟨ax, vs, m, rfl, hx, e, i⟩ := r
    have hne : ax ≠ h1.objs.size := Nat.ne_of_lt (Heap.lt_size e)
    refine wpAny_pyIter_list (ints_isList e) ?_
    refine h _ tk h1.objs.size [h1.objs.size] (fun N i h => (h.IsListIter h1.objs.size ax i ∧ h.IsList ax vs.toArray) ∧ RepL c (Un (Un X N) ow) h ts vs) (rel_push R _) (k.trans (Kp.push _)) ?_ ?_
    · intro a ha
      obtain rfl := List.mem_singleton.mp ha
      exact ⟨fresh_back W.rel R k (size_none _), _, Heap.get?_push_size _ rfl⟩
    · intro N hw hN
      have off : ∀ a, N a → h1.get? a = none := fun a => new_off (fun a q => (hN a q).imp List.mem_singleton.mp id)
      have hlen := RepL.length _ _ i
      refine ⟨Src.one (Rp := fun h => RepL c (Un (Un X N) ow) h ts vs) (Walks.list W.ok.1 _ ax hne vs.toArray) (by simp [hlen]) (fun b hb => hb) (fun b hb => by simp at hb; simp [hb]) ?_ ?_ ?_, ⟨⟨_, Heap.get?_push_size _ rfl, rfl, rfl⟩, (ints_isList e).push _⟩, ?_⟩
      · rintro j h ⟨⟨o, ho, hc, _⟩, ⟨o', ho', hc', _⟩⟩ b hb
        rcases List.mem_cons.mp hb with rfl | hb
        · exact ⟨.inl (by simp), o, ho, by rw [hc]; decide⟩
        · obtain rfl := List.mem_singleton.mp hb
          refine ⟨.inr fun z => ?_, o', ho', by rw [hc']; decide⟩
          rcases z with (z | z) | z
          · exact hx (.inl z)
          · exact off_none e (off _ z)
          · exact hx (.inr z)
      · exact fun h h' M hM kp r => RepL.kp kp hM _ _ r
      · intro j v h t hv rp ht
        obtain ⟨v', hv', r'⟩ := RepL.get ts vs j t rp ht
        simp at hv
        rw [hv] at hv'; cases hv'; exact r'
      · refine RepL.kp (Kp.push _) (fun a q => .inl (.inl (hX a q))) _ _ (RepL.more (fun a q => ?_) _ _ i)
        rcases q with (q | q) | q
        · exact .inl (.inl q)
        · exact .inr (off a q)
        · exact .inl (.inr q)
theorem iter_ints {iter : PySem.Expr} {x : Str} {p : Pos} {l : List Int} (h₁ : EvTo c n names loc σ iter (.ints l) σ₁) : IterTo c n names loc σ iter (.Name x p) (l.map fun i => [(x, .int i)]) σ₁ := by
  have := iter_list (x := x) (p := p) (ev_as_list h₁)
  rw [List.map_map] at this; exact this

/-- a call of a built-in or of a type -/
theorem bcall_node {f : Str} {fp p : Pos} {v : Value} {args : List PySem.Expr} {ts : List T} {s : Shared} {Q E : Value → Shared → Prop} {e₀ : PySem.Expr} {er : List PySem.Expr} (K : CfgOk c) (hX : ∀ a, c.Mut a → X a) (W : Act c X ow A n env names loc σ s.heap) (hg : c.mg f = none) (hb : c.mb f = some v) (hk : names.lookup f = some .globalImplicit) (h₁ : EvsTo c n names loc σ args ts σ₁)
    (hv : (∃ id, v = .builtin id) ∨ ∃ id, v = .type id) (ha : args = e₀ :: er) (hs : ∀ env, starEach (e₀ :: er) env = (false, eval e₀ env) :: starEach er env) (hp : ∀ p env, (backTo p (starEach (e₀ :: er) env)).any (·.1) = false) (hd : (f == ("__debug__" : Str)) = false)
    (h : ∀ vs h' tk, RelH c (Un X ow) σ₁ h' → Kp c.Mut s.heap h' → RepL c (Un X ow) h' ts vs → wpAny (model c.prog c.w) A (call v vs) Q E { s with heap := h', toks := tk }) :
    wpAny (model c.prog c.w) A (eval (.Call (.Name f fp) args [] p) env) Q E s := by
  subst ha
  show wpAny _ _ (do callWith p (← eval (.Name f fp) env) [] (backTo p (starEach (e₀ :: er) env)) (backToKw p (keywordEach [] env))) _ _ _
  refine wpAny_bind (builtin_at K W hg hb hk ?_ hd)
  show wpAny _ _ (callWith p v [] (backTo p (starEach (e₀ :: er) env)) []) _ _ _
  have hpl := hp p env
  have key := h₁ K X ow A env p s (fun vs s₁ => wpAny (model c.prog c.w) A (call v ([] ++ vs) []) Q E s₁) E hX W fun vs h' tk R k r => h vs h' tk R k r
  rw [hs] at key hpl ⊢
  rcases hv with ⟨id, rfl⟩ | ⟨id, rfl⟩
  · exact Calls.callWith_builtin hpl (Calls.evalArgs_plain key)
  · exact PySem.callWith_type hpl (Calls.evalArgs_plain key)

noncomputable def rng (a : Int) (k : Nat) : List Int := (List.range k).map fun i : Nat => a + (i : Int)
theorem rng_get {a z : Int} {k i : Nat} (h : (rng a k)[i]? = some z) : z = a + (i : Int) := by
  unfold rng at h
  rw [List.getElem?_map] at h
  obtain ⟨j, hj, rfl⟩ := Option.map_eq_some_iff.mp h
  obtain ⟨h1, h2⟩ := List.getElem?_eq_some_iff.mp hj
  rw [List.getElem_range] at h2
  rw [h2]
theorem ane {a b : Nat} (h : a ≠ b) : @Ne Addr a b := h
theorem rng_len {a : Int} {k : Nat} : (rng a k).length = k := by simp [rng]
/-- the walk over a range as it stands -/
theorem range_at {x : Str} {p : Pos} {s : Shared} {Q E : Value → Shared → Prop} {a : Int} {k : Nat} {r : Addr} {t u v : Tok} {h₀ : Heap} {σ₀ : St} (W : Act c X ow A n env names loc σ₀ h₀) (R : RelH c (Un X ow) σ s.heap) (kp : Kp c.Mut h₀ s.heap) (hr : IsRange s.heap r a (a + k) 1 t u v) (ha : -(2 ^ 61) ≤ a) (ha' : a < 2 ^ 61) (hk : (k : Int) < 2 ^ 61)
    (h : ∀ h' tk I wr (Sv : (Addr → Prop) → Nat → Heap → Prop), RelH c (Un X ow) σ h' → Kp c.Mut h₀ h' → (∀ a ∈ wr, h₀.get? a = none ∧ ∃ o, h'.get? a = some o) →
      (∀ N : Addr → Prop, (∀ a ∈ wr, N a) → (∀ a, N a → a ∈ wr ∨ h'.get? a = none) → Src c A (Un X N) ow I wr (.Name x p) ((rng a k).map fun i => [(x, .int i)]) (Sv N) ∧ Sv N 0 h') → Q (.ref I) { s with heap := h', toks := tk }) :
    wpAny (model c.prog c.w) A (pyIter (.ref r)) Q E s := by
  refine wpAny_pyIter_range hr (small_one (by (first | lia | omega)) (by (first | lia | omega)) (by (first | lia | omega)) (by (first | lia | omega))) ?_
  refine h _ s.toks s.heap.objs.size [s.heap.objs.size] (fun N i h => IsRangeIter h s.heap.objs.size (a + (i : Nat) * 1) ((k : Int) - (i : Nat)) 1 ∧ True) (rel_push R _) (kp.trans (Kp.push _)) ?_ ?_
  · intro b hb
    obtain rfl := List.mem_singleton.mp hb
    exact ⟨fresh_back W.rel R kp (size_none _), _, Heap.get?_push_size _ rfl⟩
  · intro N hw hN
    refine ⟨?_, ?_, trivial⟩
    · have := Src.one (c := c) (A := A) (X := Un X N) (ow := ow) (x := x) (p := p) (Rp := fun _ => True) (ts := (rng a k).map .int) (Walks.range W.ok.1 s.heap.objs.size a 1 k) (by simp [rng]) (fun b hb => hb) (fun b hb => hb) (fun i h st b hb => ⟨.inl hb, by obtain rfl := List.mem_singleton.mp hb; exact ⟨_, st, show Value.type "range_iterator" ≠ .type "frame" by decide⟩⟩) (fun _ _ _ _ _ _ => trivial)
        (fun i v h t hv _ ht => by
          obtain ⟨tk, rfl⟩ := hv
          rw [List.getElem?_map] at ht
          obtain ⟨z, hz, rfl⟩ := Option.map_eq_some_iff.mp ht
          have := rng_get hz
          subst this
          simp only [Rep]
          exact ⟨tk, by rw [Int.mul_one]⟩)
      rw [List.map_map] at this
      exact this
    · have e : Builtin.Range.rangeSize a (a + k) 1 = k := by rw [rangeSize_one]; split <;> (first | lia | omega)
      have : IsRangeIter (s.heap.push { cls := .type "range_iterator", data := .fields #[rawInt a, rawInt (Builtin.Range.rangeSize a (a + k) 1), rawInt 1] }) s.heap.objs.size a k 1 := by
        rw [e]; exact Heap.get?_push_size _ rfl
      simpa using this

theorem iter_range1 {rp p xp : Pos} {e : PySem.Expr} {x : Str} {k : Int} (hg : c.mg "range" = none) (hb : c.mb "range" = some (.type "range")) (hk : names.lookup ("range" : Str) = some .globalImplicit) (h₁ : EvTo c n names loc σ e (.int k) σ₁) (h0 : 0 ≤ k) (hz : k < 2 ^ 61)
    (hs : ∀ env, starEach [e] env = (false, eval e env) :: starEach [] env := by intro _; rfl) (hp : ∀ p env, (backTo p (starEach [e] env)).any (·.1) = false := by intro _ _; rfl) :
    IterTo c n names loc σ (.Call (.Name "range" rp) [e] [] p) (.Name x xp) ((rng 0 k.toNat).map fun i => [(x, .int i)]) σ₁ := fun K X ow A env s Q E hX W h =>
  bcall_node K hX W hg hb hk (evs_cons h₁ evs_nil hs) (.inr ⟨_, rfl⟩) rfl hs hp (by decide) fun vs h1 tk R kp r => by
    obtain ⟨v, rfl, r1⟩ := repL1 r
    simp only [Rep] at r1; obtain ⟨t, rfl⟩ := r1
    refine call_range_1 ?_
    have e : k = 0 + (k.toNat : Int) := by (first | lia | omega)
    refine range_at (a := 0) (k := k.toNat) (t := tk) (u := t) (v := tk + 1) (h₀ := s.heap) W (rel_push R _) (kp.trans (Kp.push _)) ?_ (by decide) (by decide) (by (first | lia | omega)) fun h' tk' I wr Sv R' k' w' S' => h h' tk' I wr Sv R' k' w' S'
    rw [← e]; exact IsRange.new ..
/-- enumerate(l) -/
theorem iter_enum {rp p xp yp tp : Pos} {kk : Nat} {e : PySem.Expr} {x y : Str} {l : List Int} (hg : c.mg "enumerate" = none) (hb : c.mb "enumerate" = some (.type "enumerate")) (hk : names.lookup ("enumerate" : Str) = some .globalImplicit) (h₁ : EvTo c n names loc σ e (.ints l) σ₁)
    (hs : ∀ env, starEach [e] env = (false, eval e env) :: starEach [] env := by intro _; rfl) (hp : ∀ p env, (backTo p (starEach [e] env)).any (·.1) = false := by intro _ _; rfl) :
    IterTo c n names loc σ (.Call (.Name "enumerate" rp) [e] [] p) (.Tuple [.Name x xp, .Name y yp] kk tp) (List.zipWith (fun t u => [(y, u), (x, t)]) ((rng 0 l.length).map .int) (l.map .int)) σ₁ := fun K X ow A env s Q E hX W h =>
  bcall_node K hX W hg hb hk (evs_cons h₁ evs_nil hs) (.inr ⟨_, rfl⟩) rfl hs hp (by decide) fun vs h1 tk R kp r => by
    obtain ⟨v, rfl, r1⟩ := repL1 r
    simp only [Rep] at r1; obtain ⟨a, rfl, hx, ws, m, e1, i1⟩ := r1
    have hla : a < h1.objs.size := Heap.lt_size e1
    have hlen : ws.length = l.length := ints_len i1
    refine call_enumerate_1 (n := m) (items := ws.toArray) e1 fun h2 he hit hsz hkeep => ?_
    refine wpAny_pyIter_enum he ?_
    have up : ∀ a, h2.get? a = none → h1.get? a = none := fun a e => by
      cases q : h1.get? a with
      | none => rfl
      | some o => exact (off_none (hkeep a o q) e).elim
    have R2 := rel_keeps R hkeep
    refine h h2 tk (h1.objs.size + 1) [h1.objs.size + 1, h1.objs.size] (fun N i h => (((∃ old, IsEnum h (h1.objs.size + 1) h1.objs.size i old) ∧ h.IsListIter h1.objs.size a i ∧ h.IsList a ws.toArray)) ∧ True) R2 (kp.trans (.of_keeps fun a o _ e => hkeep a o e)) ?_ ?_
    · intro b hb
      have hb' : b = h1.objs.size + 1 ∨ b = h1.objs.size := by simpa using hb
      refine ⟨fresh_back W.rel R kp (ge_none (by rcases hb' with rfl | rfl <;> (first | lia | omega))), ?_⟩
      rcases hb' with rfl | rfl
      · exact ⟨_, he⟩
      · exact let ⟨o, z, _⟩ := hit; ⟨o, z⟩
    · intro N hw hN
      refine ⟨?_, ⟨⟨_, he⟩, hit, ⟨_, hkeep _ _ e1, rfl, _, rfl⟩⟩, trivial⟩
      refine Src.two (wr := [h1.objs.size + 1, h1.objs.size]) (Rp := fun _ => True) (WalksT.enumerate W.ok.1 (h1.objs.size + 1) h1.objs.size a (ane (Nat.succ_ne_self _)) (ane (Nat.ne_of_lt (Nat.lt_succ_of_lt hla))) (ane (Nat.ne_of_lt hla)) ws.toArray).toU W.ok.1 (by simp [rng, hlen]) (by simp [hlen]) (fun b hb => hb) (fun b hb => by simp at hb; rcases hb with rfl | rfl <;> simp) ?_ (fun _ _ _ _ _ _ => trivial) ?_
      · rintro i h ⟨⟨old, z1⟩, ⟨o, z2, c2, _⟩, ⟨o', z3, c3, _⟩⟩ b hb
        simp at hb
        rcases hb with rfl | rfl | rfl
        · exact ⟨.inl (by simp), _, z1, show Value.type "enumerate" ≠ .type "frame" by decide⟩
        · exact ⟨.inl (by simp), _, z2, by rw [c2]; decide⟩
        · refine ⟨.inr fun z => ?_, _, z3, by rw [c3]; decide⟩
          rcases z with (z | z) | z
          · exact hx (.inl z)
          · rcases hN _ z with q | q
            · have hla' : @LT.lt Nat _ b h1.objs.size := hla
              have q : @Eq Nat b (h1.objs.size + 1) ∨ @Eq Nat b h1.objs.size := by simpa using q
              (first | lia | omega)
            · exact off_none e1 (up _ q)
          · exact hx (.inr z)
      · rintro i vals h t u ⟨tk', v, hv, rfl⟩ _ ht hu
        rw [List.getElem?_map] at ht hu
        obtain ⟨z', hz', rfl⟩ := Option.map_eq_some_iff.mp ht
        have := rng_get hz'
        rw [Int.zero_add] at this
        subst this
        obtain ⟨z, hz, rfl⟩ := Option.map_eq_some_iff.mp hu
        simp only [List.getElem?_toArray] at hv
        obtain ⟨t', hx'⟩ := i1.get i z hz
        rw [hv] at hx'; cases hx'
        exact ⟨_, _, rfl, by simp only [Rep]; exact ⟨tk', rfl⟩, by simp only [Rep]; exact ⟨t', rfl⟩⟩
/-- zip(l, m) -/
theorem iter_zip {rp p xp yp tp : Pos} {kk : Nat} {e f : PySem.Expr} {x y : Str} {l m : List Int} (hg : c.mg "zip" = none) (hb : c.mb "zip" = some (.type "zip")) (hk : names.lookup ("zip" : Str) = some .globalImplicit) (h₁ : EvTo c n names loc σ e (.ints l) σ₁) (h₂ : EvTo c n names loc σ₁ f (.ints m) σ₂)
    (hs : ∀ env, starEach [e, f] env = (false, eval e env) :: starEach [f] env := by intro _; rfl) (hs' : ∀ env, starEach [f] env = (false, eval f env) :: starEach [] env := by intro _; rfl) (hp : ∀ p env, (backTo p (starEach [e, f] env)).any (·.1) = false := by intro _ _; rfl) :
    IterTo c n names loc σ (.Call (.Name "zip" rp) [e, f] [] p) (.Tuple [.Name x xp, .Name y yp] kk tp) (List.zipWith (fun t u => [(y, u), (x, t)]) ((l.take (min l.length m.length)).map .int) ((m.take (min l.length m.length)).map .int)) σ₂ := fun K X ow A env s Q E hX W h =>
  bcall_node K hX W hg hb hk (evs_cons h₁ (evs_cons h₂ evs_nil hs') hs) (.inr ⟨_, rfl⟩) rfl hs hp (by decide) fun vs h1 tk R kp r => by
    obtain ⟨v, w, rfl, r1, r2⟩ := repL2 r
    simp only [Rep] at r1 r2
    obtain ⟨a, rfl, hx, ws, ma, e1, i1⟩ := r1
    obtain ⟨b, rfl, hy, us, mb, e2, i2⟩ := r2
    have hla : a < h1.objs.size := Heap.lt_size e1
    have hlb : b < h1.objs.size := Heap.lt_size e2
    have hlen : ws.length = l.length := ints_len i1
    have hlen' : us.length = m.length := ints_len i2
    refine call_zip_2 (ints_isList e1) (ints_isList e2) fun h2 hz hTI hTO hi1 hi2 hsz hkeep => ?_
    refine wpAny_pyIter_zip hz ?_
    have up : ∀ a, h2.get? a = none → h1.get? a = none := fun a e => by
      cases q : h1.get? a with
      | none => rfl
      | some o => exact (off_none (hkeep a o q) e).elim
    have R2 := rel_keeps R hkeep
    refine h h2 tk (h1.objs.size + 4) [h1.objs.size + 4, h1.objs.size + 2, h1.objs.size + 3, h1.objs.size, h1.objs.size + 1] (fun N i h => ((IsZip h (h1.objs.size + 4) (h1.objs.size + 2) (h1.objs.size + 3) .none ∧ IsPair h (h1.objs.size + 2) (.ref h1.objs.size) (.ref (h1.objs.size + 1)) ∧ (∃ a b, IsPair h (h1.objs.size + 3) a b) ∧ h.IsListIter h1.objs.size a i ∧ h.IsListIter (h1.objs.size + 1) b i ∧ h.IsList a ws.toArray ∧ h.IsList b us.toArray)) ∧ True) R2 (kp.trans (.of_keeps fun a o _ e => hkeep a o e)) ?_ ?_
    · intro d hd
      have hd' : d = h1.objs.size + 4 ∨ d = h1.objs.size + 2 ∨ d = h1.objs.size + 3 ∨ d = h1.objs.size ∨ d = h1.objs.size + 1 := by simpa using hd
      refine ⟨fresh_back W.rel R kp (ge_none (by rcases hd' with rfl | rfl | rfl | rfl | rfl <;> (first | lia | omega))), ?_⟩
      rcases hd' with rfl | rfl | rfl | rfl | rfl
      · exact ⟨_, hz⟩
      · exact ⟨_, hTI⟩
      · exact ⟨_, hTO⟩
      · exact let ⟨o, z, _⟩ := hi1; ⟨o, z⟩
      · exact let ⟨o, z, _⟩ := hi2; ⟨o, z⟩
    · intro N hw hN
      refine ⟨?_, ⟨hz, hTI, ⟨_, _, hTO⟩, hi1, hi2, ⟨_, hkeep _ _ e1, rfl, _, rfl⟩, ⟨_, hkeep _ _ e2, rfl, _, rfl⟩⟩, trivial⟩
      have hla' : @LT.lt Nat _ a h1.objs.size := hla
      have hlb' : @LT.lt Nat _ b h1.objs.size := hlb
      have D : ZipApart (h1.objs.size + 4) (h1.objs.size + 2) (h1.objs.size + 3) h1.objs.size (h1.objs.size + 1) a b := by constructor <;> exact ane (by (first | lia | omega))
      refine Src.two (wr := [h1.objs.size + 4, h1.objs.size + 3, h1.objs.size, h1.objs.size + 1]) (Rp := fun _ => True) (WalksT.zip2 W.ok.1 (h1.objs.size + 4) (h1.objs.size + 2) (h1.objs.size + 3) h1.objs.size (h1.objs.size + 1) a b D ws.toArray us.toArray).toU W.ok.1 (by simp [hlen, hlen']) (by simp [hlen, hlen']) (fun b hb => by simp only [List.mem_cons, List.not_mem_nil, or_false] at hb ⊢; rcases hb with rfl | rfl | rfl | rfl <;> simp) (fun b hb => by simp only [List.mem_cons, List.not_mem_nil, or_false] at hb ⊢; rcases hb with rfl | rfl | rfl | rfl | rfl <;> simp) ?_ (fun _ _ _ _ _ _ => trivial) ?_
      · rintro i h ⟨z1, z2, ⟨_, _, z3⟩, ⟨o4, z4, c4, _⟩, ⟨o5, z5, c5, _⟩, ⟨o6, z6, c6, _⟩, ⟨o7, z7, c7, _⟩⟩ d hd
        simp only [List.mem_cons, List.not_mem_nil, or_false] at hd
        have old : ∀ d o, h1.get? d = some o → ¬ Un X ow d → ¬ Un (Un X N) ow d := fun d o e hx z => by
          rcases z with (z | z) | z
          · exact hx (.inl z)
          · rcases hN _ z with q | q
            · have hd : @LT.lt Nat _ d h1.objs.size := Heap.lt_size e
              have q : @Eq Nat d (h1.objs.size + 4) ∨ @Eq Nat d (h1.objs.size + 2) ∨ @Eq Nat d (h1.objs.size + 3) ∨ @Eq Nat d h1.objs.size ∨ @Eq Nat d (h1.objs.size + 1) := by simpa using q
              (first | lia | omega)
            · exact off_none e (up _ q)
          · exact hx (.inr z)
        rcases hd with rfl | rfl | rfl | rfl | rfl | rfl | rfl
        · exact ⟨.inl (by simp), _, z1, show Value.type "zip" ≠ .type "frame" by decide⟩
        · exact ⟨.inl (by simp), _, z2, show Value.type "tuple" ≠ .type "frame" by decide⟩
        · exact ⟨.inl (by simp), _, z3, show Value.type "tuple" ≠ .type "frame" by decide⟩
        · exact ⟨.inl (by simp), _, z4, by rw [c4]; decide⟩
        · exact ⟨.inl (by simp), _, z5, by rw [c5]; decide⟩
        · exact ⟨.inr (old _ _ e1 hx), _, z6, by rw [c6]; decide⟩
        · exact ⟨.inr (old _ _ e2 hy), _, z7, by rw [c7]; decide⟩
      · rintro i vals h t u ⟨v, w, hv, hw', rfl⟩ _ ht hu
        simp only [List.getElem?_toArray] at hv hw'
        rw [List.getElem?_map, List.getElem?_take] at ht hu
        split at ht
        · rename_i hlt
          rw [if_pos hlt] at hu
          obtain ⟨z, hz, rfl⟩ := Option.map_eq_some_iff.mp ht
          obtain ⟨z', hz', rfl⟩ := Option.map_eq_some_iff.mp hu
          obtain ⟨t', hx'⟩ := i1.get i z hz
          obtain ⟨t'', hx''⟩ := i2.get i z' hz'
          rw [hv] at hx'; cases hx'
          rw [hw'] at hx''; cases hx''
          exact ⟨_, _, rfl, by simp only [Rep]; exact ⟨t', rfl⟩, by simp only [Rep]; exact ⟨t'', rfl⟩⟩
        · cases ht

/-- a list of pairs -/
theorem iter_pairs {xp yp tp : Pos} {kk : Nat} {iter : PySem.Expr} {x y : Str} {ps : List (T × T)} (h₁ : EvTo c n names loc σ iter (.list (ps.map fun q => .tup [q.1, q.2])) σ₁) :
    IterTo c n names loc σ iter (.Tuple [.Name x xp, .Name y yp] kk tp) (List.zipWith (fun t u => [(y, u), (x, t)]) (ps.map (·.1)) (ps.map (·.2))) σ₁ := fun K X ow A env s Q E hX W h =>
  h₁ K X ow A env s _ E hX W fun v h1 tk R k r => by
    simp only [Rep] at r
    obtain ⟨ax, vs, m, rfl, hx, e, i⟩ := r
    have hne : ax ≠ h1.objs.size := Nat.ne_of_lt (Heap.lt_size e)
    have hlen : vs.length = ps.length := by simpa using RepL.length _ _ i
    have item : ∀ j : Nat, ∃ z : Addr × Value × Value, ∀ q : T × T, ps[j]? = some q → vs[j]? = some (Value.ref z.1) ∧ ¬ Un X ow z.1 ∧ h1.get? z.1 = some { cls := .type "tuple", data := .seq [z.2.1, z.2.2].toArray } ∧ Rep c (Un X ow) h1 q.1 z.2.1 ∧ Rep c (Un X ow) h1 q.2 z.2.2 := fun j => by
      cases hq : ps[j]? with
      | none => exact ⟨⟨0, .none, .none⟩, fun q e => by cases e⟩
      | some q =>
        obtain ⟨v, hv, rv⟩ := RepL.get _ _ j (.tup [q.1, q.2]) i (by rw [List.getElem?_map, hq]; rfl)
        simp only [Rep] at rv
        obtain ⟨ta, us, rfl, hta, eta, ru⟩ := rv
        obtain ⟨v1, v2, rfl, r1, r2⟩ := repL2 ru
        exact ⟨⟨ta, v1, v2⟩, fun q' e' => by cases e'; exact ⟨hv, hta, eta, r1, r2⟩⟩
    obtain ⟨f, hf⟩ := Classical.axiomOfChoice item
    have hf' : ∀ j : Nat, j < vs.length → ∃ q : T × T, ps[j]? = some q := fun j hj => ⟨_, List.getElem?_eq_getElem (by (first | lia | omega))⟩
    refine wpAny_pyIter_list (ints_isList e) ?_
    have hsz : vs.toArray.size = vs.length := by simp
    refine h _ tk h1.objs.size [h1.objs.size] (fun N i h => ((h.IsListIter h1.objs.size ax i ∧ h.IsList ax vs.toArray ∧ ∀ k, k < vs.toArray.size → h.IsTuple (f k).1 #[(f k).2.1, (f k).2.2])) ∧ (∀ (j : Nat) (q : T × T), ps[j]? = some q → Rep c (Un (Un X N) ow) h q.1 (f j).2.1 ∧ Rep c (Un (Un X N) ow) h q.2 (f j).2.2)) (rel_push R _) (k.trans (Kp.push _)) ?_ ?_
    · intro a ha
      obtain rfl := List.mem_singleton.mp ha
      exact ⟨fresh_back W.rel R k (size_none _), _, Heap.get?_push_size _ rfl⟩
    · intro N hw hN
      have off : ∀ a, N a → h1.get? a = none := fun a => new_off (fun a q => (hN a q).imp List.mem_singleton.mp id)
      have old : ∀ d o, h1.get? d = some o → ¬ Un X ow d → ¬ Un (Un X N) ow d := fun d o e hx z => by
        rcases z with (z | z) | z
        · exact hx (.inl z)
        · exact off_none e (off _ z)
        · exact hx (.inr z)
      refine ⟨Src.two (wr := [h1.objs.size]) (Rp := fun h => ∀ (j : Nat) (q : T × T), ps[j]? = some q → Rep c (Un (Un X N) ow) h q.1 (f j).2.1 ∧ Rep c (Un (Un X N) ow) h q.2 (f j).2.2)
        (WalksU.listOfTuples W.ok.1 h1.objs.size ax hne vs.toArray (fun j => (f j).1) (fun j => #[(f j).2.1, (f j).2.2]) (fun j hj => ?_) (fun j hj => ?_)) W.ok.1 (by simp [hlen]) (by simp [hlen]) (fun b hb => hb) (fun b hb => by simp at hb; simp [hb]) ?_ ?_ ?_, ⟨⟨_, Heap.get?_push_size _ rfl, rfl, rfl⟩, (ints_isList e).push _, fun j hj => ?_⟩, fun j q hq => ?_⟩
      · obtain ⟨q, hq⟩ := hf' j (by rw [← hsz]; exact hj)
        simpa using (hf j q hq).1
      · obtain ⟨q, hq⟩ := hf' j (by rw [← hsz]; exact hj)
        exact Nat.ne_of_lt (Heap.lt_size (hf j q hq).2.2.1)
      · rintro j h ⟨⟨o, ho, hc, _⟩, ⟨o', ho', hc', _⟩, ht⟩ b hb
        rcases List.mem_cons.mp hb with rfl | hb
        · exact ⟨.inl (by simp), o, ho, by rw [hc]; decide⟩
        · rcases List.mem_cons.mp hb with rfl | hb
          · exact ⟨.inr (old _ _ e hx), o', ho', by rw [hc']; decide⟩
          · obtain ⟨k', hk', rfl⟩ := List.mem_map.mp hb
            have hk' := List.mem_range.mp hk'
            obtain ⟨o'', e'', c'', _⟩ := ht k' hk'
            obtain ⟨q, hq⟩ := hf' k' (by rw [← hsz]; exact hk')
            exact ⟨.inr (old _ _ (hf k' q hq).2.2.1 (hf k' q hq).2.1), o'', e'', by rw [c'']; decide⟩
      · exact fun h h' M hM kp r j q hq => ⟨Rep.kp kp hM _ _ (r j q hq).1, Rep.kp kp hM _ _ (r j q hq).2⟩
      · rintro j vals h t u rfl rp ht hu
        rw [List.getElem?_map] at ht hu
        obtain ⟨q, hq, rfl⟩ := Option.map_eq_some_iff.mp ht
        rw [hq] at hu; cases hu
        exact ⟨_, _, rfl, rp j q hq⟩
      · obtain ⟨q, hq⟩ := hf' j (by rw [← hsz]; exact hj)
        exact ⟨_, Heap.get?_push_of_some _ (hf j q hq).2.2.1, rfl, 0, rfl⟩
      · obtain ⟨_, _, _, r1, r2⟩ := hf j q hq
        have hm : ∀ a, Un (Un X N) ow a → Un X ow a ∨ h1.get? a = none := fun a q => by
          rcases q with (q | q) | q
          · exact .inl (.inl q)
          · exact .inr (off a q)
          · exact .inl (.inr q)
        have hu : ∀ a, c.Mut a → Un (Un X N) ow a := fun a q => .inl (.inl (hX a q))
        exact ⟨Rep.kp (Kp.push _) hu _ _ (Rep.more hm _ _ r1), Rep.kp (Kp.push _) hu _ _ (Rep.more hm _ _ r2)⟩
end
end Mine
end
section
namespace Mine
section
variable {c : Cfg} {n : Nat} {names : List (Str × NameKind)} {loc loc' loc₁ : Loc} {σ σ' σ₁ σ₂ σ₃ : St} {P : SO → Prop} {rest : List Stmt} {X ow : Addr → Prop} {A : Around} {env : Env} {h h' h₀ : Heap}

theorem RelH.off {Y Z : Addr → Prop} {wr : List Addr} (R : RelH c Y σ h) (k : Kx wr h h') (hw : ∀ a ∈ wr, Y a ∧ ¬ c.Mut a) (hZ : ∀ a, Z a → Y a ∧ a ∉ wr) (hM : ∀ a, c.Mut a → Z a) (hep : ∀ a ∈ wr, ¬ c.ep a) : RelH c Z σ h' where
  epl := fun a q => let ⟨o, e⟩ := R.epl a q; ⟨o, k a o (fun z => hep a z q) e⟩
  base := fun a o e => k a o (fun z => by rw [R.stay a (hw a z).1] at e; cases e) (R.base a o e)
  live := fun a q => let ⟨o, e⟩ := R.live a (hZ a q).1; ⟨o, k a o (hZ a q).2 e⟩
  muts := hM
  ne := R.ne
  data := let ⟨vs, n, e, i⟩ := R.data; ⟨vs, n, k _ _ (fun z => (hw _ z).2 (.inl rfl)) e, i⟩
  feed := let ⟨t, n, e⟩ := R.feed; ⟨t, n, k _ _ (fun z => (hw _ z).2 (.inr rfl)) e⟩
  cells := ⟨fun q => R.cells.1 (hZ _ q).1, let ⟨vs, n, e, i⟩ := R.cells.2; ⟨vs, n, k _ _ (fun z => R.cells.1 (hw _ z).1) e, i⟩⟩
  given := ⟨fun q => R.given.1 (hZ _ q).1, let ⟨vs, n, e, i⟩ := R.given.2; ⟨vs, n, k _ _ (fun z => R.given.1 (hw _ z).1) e, i⟩⟩
  obj := ⟨fun q => R.obj.1 (hZ _ q).1, k _ _ (fun z => R.obj.1 (hw _ z).1) R.obj.2⟩
  dict := ⟨fun q => R.dict.1 (hZ _ q).1, let ⟨es, n, e, r⟩ := R.dict.2; ⟨es, n, k _ _ (fun z => R.dict.1 (hw _ z).1) e, r⟩⟩
  fresh := R.fresh
  stay := fun a q => R.stay a (hZ a q).1
/-- the iterator's own have changed; they are no more shut out -/
theorem Act.offTo {Y Z : Addr → Prop} {wr : List Addr} (W : Act c Y ow A n env names loc σ h) (hZ : ∀ a, Z a → Y a) (hX : ∀ a, c.Mut a → Z a) (ex : ∀ a, (a = env.locals ∨ ∃ x, (x, a) ∈ env.cells) → Z a) (hw : WrOk c Y env A wr) (hd : ∀ a, Un Z ow a → a ∉ wr) (hep : ∀ a ∈ wr, ¬ c.ep a) (k : Kx wr h h') : Act c Z ow A n env names loc σ h' where
  ok := W.ok
  frs := let ⟨l, e, q⟩ := W.frs; ⟨l, e, q.off k fun a z f hf => (hw a z).2.2.2.2 l e f hf⟩
  kind := W.kind
  names := W.names
  glob := W.glob
  blt := W.blt
  excl := ex
  fr := by
    refine FrOk.turn (X := Y) ⟨?_, fun x t e d q => ?_, fun x a q => ?_, W.fr.apart, W.fr.has⟩ fun t v r => r.anti hZ
    · obtain ⟨m, a, b⟩ := W.fr.ns
      exact ⟨m, ns_kp k.kp (fun z => (hw _ z).2.2.1 rfl) a, fun x t e d q => let ⟨v, r, s⟩ := b x t e d q; ⟨v, r, s.kp k.kp fun a z => (hw a z).1⟩⟩
    · obtain ⟨a, v, r, s, u⟩ := W.fr.cells x t e d q
      exact ⟨a, v, r, cell_kp k.kp (fun z => (hw _ z).2.2.2.1 x (mem_of_lookup r)) s, u.kp k.kp fun a z => (hw a z).1⟩
    · obtain ⟨v, s⟩ := W.fr.cellAt x a q
      exact ⟨v, cell_kp k.kp (fun z => (hw _ z).2.2.2.1 x q) s⟩
  rel := W.rel.off k (fun a z => ⟨.inl (hw a z).1, (hw a z).2.1⟩) (fun a q => ⟨q.elim (fun q => .inl (hZ a q)) .inr, hd a q⟩) (fun a q => .inl (hX a q)) hep
theorem Act.off {N : Addr → Prop} {wr : List Addr} (W : Act c (Un X N) ow A n env names loc σ h) (hX : ∀ a, c.Mut a → X a) (ex : ∀ a, (a = env.locals ∨ ∃ x, (x, a) ∈ env.cells) → X a) (hw : WrOk c (Un X N) env A wr) (hd : ∀ a, Un X ow a → a ∉ wr) (hep : ∀ a ∈ wr, ¬ c.ep a) (k : Kx wr h h') : Act c X ow A n env names loc σ h' :=
  W.offTo (fun a q => .inl q) hX ex hw hd hep k
theorem FrsOk.kpo {M : Addr → Prop} (k : Kp M h h') : ∀ {l : List Env}, (∀ a, M a → ∀ e ∈ l, e.frame ≠ some a) → FrsOk h l → FrsOk h' l
  | [], _, _ => trivial
  | e :: r, hm, ⟨hk, ⟨L, o, es, j, e1, e2, e3, e4⟩, q⟩ => by
    obtain ⟨sl, z, _⟩ := k L o (fun y => hm L y e List.mem_cons_self e1) e2
    exact ⟨hk, ⟨L, _, es, j, e1, z, e3, e4⟩, FrsOk.kpo k (fun a y e' he' => hm a y e' (List.mem_cons_of_mem _ he')) q⟩
theorem FrsOk.cls : ∀ {l : List Env}, FrsOk h l → ∀ e ∈ l, ∃ L o, e.frame = some L ∧ h.get? L = some o ∧ o.cls = .type "frame"
  | [], _, _, he => by cases he
  | _ :: _, hk, e, he => by
    obtain ⟨_, ⟨L, o, _, _, e1, e2, e3, _⟩, q⟩ := hk
    rcases List.mem_cons.mp he with rfl | he
    · exact ⟨L, o, e1, e2, e3⟩
    · exact FrsOk.cls q e he
/-- D, Fd, and new ones that the frame does not hold, have changed -/
theorem Act.kpN {wr : List Addr} (W : Act c X ow A n env names loc σ h) (hw : WrOk c X env A wr) (k : Kp (fun a => c.Mut a ∨ a ∈ wr) h h') (R : RelH c (Un X ow) σ' h') (hX : ∀ a, c.Mut a → X a) : Act c X ow A n env names loc σ' h' where
  ok := W.ok
  frs := let ⟨l, e, q⟩ := W.frs; ⟨l, e, q.kpo k fun a z f hf => z.elim (fun z u => by
    obtain ⟨L, o, e1, e2, e3⟩ := q.cls f hf
    rw [u] at e1; cases e1
    rw [W.rel.mut_cls a z o e2] at e3; exact absurd e3 (by decide)) fun z => (hw a z).2.2.2.2 l e f hf⟩
  kind := W.kind
  names := W.names
  glob := W.glob
  blt := W.blt
  excl := W.excl
  fr := by
    have hM : ∀ a, (c.Mut a ∨ a ∈ wr) → X a := fun a z => z.elim (hX a) fun z => (hw a z).1
    refine ⟨?_, fun x t e d q => ?_, fun x a q => ?_, W.fr.apart, W.fr.has⟩
    · obtain ⟨m, a, b⟩ := W.fr.ns
      exact ⟨m, ns_kp k (fun z => z.elim (W.rel.not_ns a) fun z => (hw _ z).2.2.1 rfl) a, fun x t e d q => let ⟨v, r, s⟩ := b x t e d q; ⟨v, r, s.kp k hM⟩⟩
    · obtain ⟨a, v, r, s, u⟩ := W.fr.cells x t e d q
      exact ⟨a, v, r, cell_kp k (fun z => z.elim (W.rel.not_cell s) fun z => (hw _ z).2.2.2.1 x (mem_of_lookup r)) s, u.kp k hM⟩
    · obtain ⟨v, s⟩ := W.fr.cellAt x a q
      exact ⟨v, cell_kp k (fun z => z.elim (W.rel.not_cell s) fun z => (hw _ z).2.2.2.1 x q) s⟩
  rel := R

theorem Src.go {I : Addr} {wr : List Addr} {target : PySem.Expr} {bs : List Loc} {Sv : Nat → Heap → Prop} (S : Src c A X ow I wr target bs Sv) {i : Nat} {b : Loc} (hb : bs[i]? = some b) {s : Shared} {R : Option Value → Shared → Prop} {Qa : Unit → Shared → Prop} {E1 E2 E3 : Value → Shared → Prop}
    (hR : ∀ v s₁, R (some v) s₁ = wpAny (model c.prog c.w) A (letOwnedTupleGo target (.ref I) v) (fun _ s₁' => wpAny (model c.prog c.w) A (assign target env v) Qa E1 s₁') E2 s₁)
    (st : Sv i s.heap) (hX : ∀ a, c.Mut a → X a) (hw : WrOk c X env A wr) (W : Act c X ow A n env names loc σ s.heap) (ht : TgtOk names target)
    (h : ∀ h' tk, Act c X ow A n env names (b ++ loc) σ h' → Sv (i + 1) h' → Kp (MutT env wr) s.heap h' → (TgtLoc names target → Kp (fun a => a ∈ wr ∨ a = env.locals) s.heap h') → Qa () { s with heap := h', toks := tk }) :
    wpAny (model c.prog c.w) A (pyNext (.ref I)) R E3 s := by
  refine wpAny_mono (S.step i b hb env n names loc σ s (Qa ()) E1 E2 E3 st hX hw W ht h) (fun r s₁ hr => ?_) fun _ _ e => e
  obtain ⟨v, rfl, hr⟩ := hr
  rw [hR]; exact hr
/-- what a turn of a loop leaves -/
noncomputable def Turn (P : SO → Prop) (J : Nat → Loc → St → Prop) (i : Nat) : SO → Prop
  | .next loc σ => ∃ loc', Sub loc loc' ∧ J (i + 1) loc' σ
  | .ret t σ => P (.ret t σ)
  | .exc _ _ => False

theorem ex_for {target iter : PySem.Expr} {body : List Stmt} {pos : Pos} {bs : List Loc} (h₁ : IterTo c n names loc σ iter target bs σ₁) (ht : TgtOk names target) (J : Nat → Loc → St → Prop) (h0 : J 0 loc σ₁)
    (hb : ∀ i b loc σ, bs[i]? = some b → J i loc σ → Ex c n names (b ++ loc) σ body (Turn P J i))
    (he : ∀ loc σ, J bs.length loc σ → Ex c n names loc σ rest P) (hs : ∀ env x, foldedSetIterable iter env x = pure x := by intro _ _; rfl) :
    Ex c n names loc σ (.For target iter body [] pos :: rest) P := fun K X ow A env s Q E hX W PR => by
  refine wpAny_execs_cons (wpAny_For (h₁ K X ow A env s _ E hX W fun h' tk I wr Sv R k hw hS => ?_) (hs env))
  obtain ⟨S, st0⟩ := hS (· ∈ wr) (fun a q => q) (fun a q => .inl q)
  have hXN : ∀ a, c.Mut a → Un X (· ∈ wr) a := fun a q => .inl (hX a q)
  have W0 : Act c (Un X (· ∈ wr)) ow A n env names loc σ₁ h' := W.grow k R hX fun a q => hw a q
  have WR : WrOk c (Un X (· ∈ wr)) env A wr := W.wrOk fun a q => ⟨q, (hw a q).1⟩
  have hdis : ∀ a, Un X ow a → a ∉ wr := fun a q z => let ⟨o, e⟩ := W.rel.live a q; off_none e (hw a z).1
  have hMF : ∀ a, MutF c env ow a → Un (Un X (· ∈ wr)) ow a ∧ a ∉ wr := fun a q => by
    have : Un X ow a := by
      rcases q with q | q | q | q
      · exact .inl (hX a q)
      · exact .inl (W.excl a (.inl q))
      · exact .inl (W.excl a (.inr q))
      · exact .inr q
    exact ⟨this.elim (fun z => .inl (.inl z)) .inr, hdis a this⟩
  have fr : ∀ {h h'' : Heap}, Kp (MutF c env ow) s.heap h → Kp (MutT env wr) h h'' → Kp (MutF c env ow) s.heap h'' := fun {h h''} k k' =>
    Kp.fresh (M' := fun a => MutF c env ow a ∨ a ∈ wr) ((k.mono fun a q => .inl q).trans (k'.mono fun a q => by
      rcases q with q | q | q
      · exact .inr q
      · exact .inl (.inr (.inl q))
      · exact .inl (.inr (.inr (.inl q))))) fun a q => q.imp id fun z => (hw a z).1
  have live : ∀ {h : Heap} {loc σ}, Act c (Un X (· ∈ wr)) ow A n env names loc σ h → Kp (MutF c env ow) s.heap h → ∀ a o, s.heap.get? a = some o → ∃ o', h.get? a = some o' := fun W' k' => W'.liveF (fun a q => .inr q) k'
  refine codeAny_forLoop_any (fun m s' => ∃ i loc σ h tk, s' = { s with heap := h, toks := tk } ∧ i ≤ bs.length ∧ m = bs.length + 1 - i ∧ Act c (Un X (· ∈ wr)) ow A n env names loc σ h ∧ Sv (· ∈ wr) i h ∧ J i loc σ ∧ Kp (MutF c env ow) s.heap h) ?_ (bs.length + 1)
    ⟨0, loc, σ₁, h', tk, rfl, Nat.zero_le _, rfl, W0, st0, h0, kpF k⟩
  rintro m s' ⟨i, loc, σ, h, tk, rfl, hi, rfl, Wi, sti, Ji, ki⟩
  by_cases hlt : i < bs.length
  · refine S.go (List.getElem?_eq_getElem hlt) (fun v s₁ => rfl) sti hXN WR Wi ht fun h1 tk1 W1 st1 k1 _ => ?_
    · refine hb i bs[i] loc σ (List.getElem?_eq_getElem hlt) Ji K (Un X (· ∈ wr)) ow A env _ _ _ hXN W1 ⟨?_, ?_, ?_⟩
      · rintro loc' σ' h2 tk2 ⟨loc'', hsub, hJ⟩ W2 k2
        exact ⟨bs.length + 1 - (i + 1), by (first | lia | omega), i + 1, loc'', σ', h2, tk2, rfl, hlt, rfl, W2.sub hsub, S.stable _ _ _ _ hMF k2 st1, hJ, (fr ki k1).trans k2⟩
      · intro t σ' v h2 tk2 p R2 k2 r
        exact PR.ret t σ' v h2 tk2 p (R2.anti (fun a q => .inl q) hX) ((fr ki k1).trans k2) (Rep.anti (fun a q => .inl q) _ _ r)
      · rintro w σ' e h2 tk2 p
        exact p.elim
  · obtain rfl : i = bs.length := Nat.le_antisymm hi (Nat.not_lt.mp hlt)
    refine S.done _ _ _ sti fun h1 tk1 k1 => ?_
    refine wpAny_execs_nil ?_
    have W1 : Act c X ow A n env names loc σ h1 := Wi.off hX W.excl WR hdis (fun a z q => let ⟨o, e⟩ := W.rel.epl a q; off_none e (hw a z).1) k1
    have kf : Kp (MutF c env ow) s.heap h1 := fr ki (k1.kp.mono fun a q => .inl q)
    exact he loc σ Ji K X ow A env _ Q E hX W1 (PR.from kf (W1.liveF (fun a q => .inr q) kf))

/-! comprehensions -/
theorem codeAny_compLoop_gen {prog : Program} {w : World} {R : Result → Shared → Prop} {s : Shared} {elt target iter : PySem.Expr} {ifs : List PySem.Expr} {scope : Scope} {pos : Pos} {it acc : Value} {env : Env} (I : Nat → Shared → Prop)
    (turn : ∀ n s, I n s → wpAny (model prog w) A (pyNext it) (fun r s₁ => match r with
      | none => R (.ok .next) s₁
      | some v => wpAny (model prog w) A (letOwnedTupleGo target it v) (fun _ s₁' => wpAny (model prog w) A (assign target env v) (fun _ s₂ =>
          wpAny (model prog w) A (forIn ifs true fun c r => if r = true then do let ok ← isTrue c env (eval c env); pure (ForInStep.yield ok) else pure (ForInStep.yield r)) (fun ok s₃ =>
            if ok = true then wpAny (model prog w) A (eval elt env) (fun x s₄ =>
              wpAny (model prog w) A (call (.builtin "list.append") [acc, x]) (fun _ s₅ => ∃ m, m < n ∧ I m s₅) (notedBy (model prog w) A env fun e s' => R (.error e) s') s₄) (notedBy (model prog w) A env fun e s' => R (.error e) s') s₃
            else ∃ m, m < n ∧ I m s₃) (notedBy (model prog w) A env fun e s' => R (.error e) s') s₂) (notedBy (model prog w) A env fun e s' => R (.error e) s') s₁') (notedBy (model prog w) A env fun e s' => R (.error e) s') s₁) (notedBy (model prog w) A env fun e s' => R (.error e) s') s)
    (n : Nat) (h : I n s) : codeAny (model prog w) A (.compLoop (.ListComp elt [⟨target, iter, ifs, 0⟩] scope pos) 0 it acc env) R s := by
  refine codeAny_loop rfl I (fun n s hI => ?_) n h
  show wpAny _ A ((compTurn (.ListComp elt [⟨target, iter, ifs, 0⟩] scope pos) 0 it acc env).onRaise (fun x => do noteFrame x env; theTreesLotGoes x)) _ _ s
  refine wpAny_noted ?_
  rw [compTurn_list]
  refine wpAny_bind (wpAny_standAt (wpAny_bind (wpAny_mono (turn n s hI) (fun r s₁ h₁ => ?_) fun _ _ h' => h')))
  cases r with
  | none => exact wpAny_pure h₁
  | some v =>
    refine wpAny_bind (wpAny_mono h₁ (fun _ s₁' h₁' => ?_) fun _ _ h' => h')
    refine wpAny_bind (wpAny_mono h₁' (fun _ s₂ h₂ => wpAny_bind (wpAny_mono h₂ (fun ok s₃ h₃ => ?_) fun _ _ h' => h')) fun _ _ h' => h')
    cases ok with
    | false => exact wpAny_pure ⟨rfl, h₃⟩
    | true =>
      exact wpAny_bind (wpAny_bind (wpAny_mono h₃ (fun x s₄ h₄ => wpAny_bind (wpAny_mono h₄ (fun _ s₅ h₅ => wpAny_pure (wpAny_pure ⟨rfl, h₅⟩)) fun _ _ h' => h')) fun _ _ h' => h'))

/-- the tests of a comprehension: none or one -/
noncomputable def IfsTo (c : Cfg) (n : Nat) (names : List (Str × NameKind)) (loc : Loc) (σ : St) (ifs : List PySem.Expr) (b : Bool) : Prop :=
  (ifs = [] ∧ b = true) ∨ ∃ e, ifs = [e] ∧ TsTo c n names loc σ e b σ
inductive ElsTo (c : Cfg) (n : Nat) (names : List (Str × NameKind)) (cap : Loc) (ifs : List PySem.Expr) (elt : PySem.Expr) : List Loc → St → List T → St → Prop
  | nil {a : St} : ElsTo c n names cap ifs elt [] a [] a
  | keep {b : Loc} {bs : List Loc} {a a₁ a₂ : St} {t : T} {us : List T} (h₁ : IfsTo c n names (b ++ cap) a ifs true) (h₂ : EvTo c n names (b ++ cap) a elt t a₁) (h₃ : ElsTo c n names cap ifs elt bs a₁ us a₂) : ElsTo c n names cap ifs elt (b :: bs) a (t :: us) a₂
  | drop {b : Loc} {bs : List Loc} {a a₂ : St} {us : List T} (h₁ : IfsTo c n names (b ++ cap) a ifs false) (h₃ : ElsTo c n names cap ifs elt bs a us a₂) : ElsTo c n names cap ifs elt (b :: bs) a us a₂
theorem ElsTo.len {cap ifs elt} {bs : List Loc} {us : List T} : ElsTo c n names cap ifs elt bs σ us σ' → us.length ≤ bs.length := fun h => by
  induction h with
  | nil => simp
  | keep _ _ _ ih => simpa using ih
  | drop _ _ ih => simp; (first | lia | omega)

/-- the tests, walked -/
theorem ifs_at {ifs : List PySem.Expr} {b : Bool} (h₁ : IfsTo c n names loc σ ifs b) (K : CfgOk c) {s : Shared} {Q : Bool → Shared → Prop} {E : Value → Shared → Prop} (hX : ∀ a, c.Mut a → X a) (W : Act c X ow A n env names loc σ s.heap)
    (h : ∀ h' tk, RelH c (Un X ow) σ h' → Kp c.Mut s.heap h' → Q b { s with heap := h', toks := tk }) :
    wpAny (model c.prog c.w) A (forIn ifs true fun c r => if r = true then do let ok ← isTrue c env (eval c env); pure (ForInStep.yield ok) else pure (ForInStep.yield r)) Q E s := by
  rcases h₁ with ⟨rfl, rfl⟩ | ⟨e, rfl, h₁⟩
  · exact wpAny_tests_nil (h s.heap s.toks W.rel (Kp.refl _ _))
  · exact wpAny_tests_one (h₁ K X ow A env s Q E hX W h)

noncomputable def relN (names ns : List (Str × NameKind)) : List (Str × NameKind) := ns.map fun (n, k) => if (k == .free && names.lookup n == some .cell) then (n, .cell) else (n, k)
structure CompOk (names cnames : List (Str × NameKind)) (scope : Scope) (loc cap : Loc) (target : PySem.Expr) : Prop where
  kind : scope.kind = .function
  cell : ∀ x ∈ scope.names, x.2 ≠ .cell
  nm : ∀ x ∈ scope.names, x.2 = .local → scope.names.lookup x.1 = some .local
  cn : cnames = relN names scope.names
  tgt : TgtLoc cnames target
  free : ∀ x ∈ scope.names, x.2 = .free → names.lookup x.1 = some .cell
  nodup : (scope.names.map (·.1)).Nodup
  cap : ∀ p ∈ cap, loc.lookup p.1 = some p.2 ∧ names.lookup p.1 = some .cell ∧ cnames.lookup p.1 = some .cell

theorem TgtLoc.ok {target : PySem.Expr} (h : TgtLoc names target) : TgtOk names target := by
  cases target with
  | Name x p => exact .inl h
  | Tuple l c p =>
    cases l with
    | nil => exact False.elim h
    | cons a l =>
      cases a with
      | Name x p =>
        cases l with
        | nil => exact False.elim h
        | cons b l =>
          cases b with
          | Name y q =>
            cases l with
            | nil => exact ⟨.inl h.1, .inl h.2⟩
            | cons _ _ => exact False.elim h
          | _ => exact False.elim h
      | _ => exact False.elim h
  | _ => exact False.elim h

theorem closure_go {env : Env} : ∀ (ns : List (Str × NameKind)) (acc : List (Str × Addr)), (∀ x ∈ ns, x.2 = .free → ∃ a, env.cells.lookup x.1 = some a) →
    ∃ cl, (∀ p ∈ cl, p ∈ acc ∨ (env.cells.lookup p.1 = some p.2 ∧ (p.1, .free) ∈ ns)) ∧ (∀ p ∈ acc, p ∈ cl) ∧ (∀ x ∈ ns, x.2 = .free → ∃ a, (x.1, a) ∈ cl) ∧ ((acc.map (·.1)).Nodup → (ns.map (·.1)).Nodup → (∀ p ∈ acc, p.1 ∉ ns.map (·.1)) → (cl.map (·.1)).Nodup) ∧
      (forIn ns acc fun (x : Str × NameKind) cs => (if x.2 == .free then do let a ← cellOf env x.1; pure (ForInStep.yield ((x.1, a) :: cs)) else pure (ForInStep.yield cs) : Sem _)) = pure cl
  | [], acc, _ => ⟨acc, fun p q => .inl q, fun p q => q, by simp, fun h _ _ => h, by simp⟩
  | (x, k) :: ns, acc, h => by
    by_cases hk : k = .free
    · subst hk
      obtain ⟨a, ha⟩ := h (x, .free) (by simp) rfl
      obtain ⟨cl, h1, h2, h3, h4, h5⟩ := closure_go ns ((x, a) :: acc) (fun y q => h y (List.mem_cons_of_mem _ q))
      refine ⟨cl, fun p q => ?_, fun p q => h2 p (List.mem_cons_of_mem _ q), fun y q f => ?_, fun ha' hn hd => h4 ?_ ?_ ?_, ?_⟩
      · rcases h1 p q with z | ⟨z, z'⟩
        · rcases List.mem_cons.mp z with rfl | z
          · exact .inr ⟨ha, by simp⟩
          · exact .inl z
        · exact .inr ⟨z, List.mem_cons_of_mem _ z'⟩
      · rcases List.mem_cons.mp q with rfl | q
        · exact ⟨a, h2 _ (by simp)⟩
        · exact h3 y q f
      · simp only [List.map_cons, List.nodup_cons]
        refine ⟨fun z => ?_, ha'⟩
        obtain ⟨p, hp, e⟩ := List.mem_map.mp z
        exact hd p hp (by rw [e]; simp)
      · simp only [List.map_cons, List.nodup_cons] at hn; exact hn.2
      · simp only [List.map_cons, List.nodup_cons] at hn
        intro p q
        rcases List.mem_cons.mp q with rfl | q
        · exact hn.1
        · exact fun z => hd p q (by simp only [List.map_cons]; exact List.mem_cons_of_mem _ z)
      · rw [List.forIn_cons]
        have : cellOf env x = pure a := by unfold cellOf; rw [ha]
        simp only [this, beq_self_eq_true, if_true, pure_bind]
        exact h5
    · obtain ⟨cl, h1, h2, h3, h4, h5⟩ := closure_go ns acc (fun y q => h y (List.mem_cons_of_mem _ q))
      refine ⟨cl, fun p q => (h1 p q).imp id fun ⟨z, z'⟩ => ⟨z, List.mem_cons_of_mem _ z'⟩, h2, fun y q f => ?_, fun ha' hn hd => h4 ha' ?_ ?_, ?_⟩
      · rcases List.mem_cons.mp q with rfl | q
        · exact absurd f hk
        · exact h3 y q f
      · simp only [List.map_cons, List.nodup_cons] at hn; exact hn.2
      · exact fun p q z => hd p q (by simp only [List.map_cons]; exact List.mem_cons_of_mem _ z)
      · rw [List.forIn_cons]
        have : (k == NameKind.free) = false := by simpa using hk
        simp only [this, Bool.false_eq_true, if_false, pure_bind]
        exact h5
theorem closure_ok {scope : Scope} (hf : ∀ x ∈ scope.names, x.2 = .free → ∃ a, env.cells.lookup x.1 = some a) (hd : (scope.names.map (·.1)).Nodup) :
    ∃ cl, (∀ p ∈ cl, env.cells.lookup p.1 = some p.2 ∧ (p.1, .free) ∈ scope.names) ∧ (∀ x ∈ scope.names, x.2 = .free → ∃ a, (x.1, a) ∈ cl) ∧ (cl.map (·.1)).Nodup ∧ closureFor scope env = pure cl := by
  obtain ⟨cl, h1, _, h3, h4, h5⟩ := closure_go (env := env) scope.names [] hf
  refine ⟨cl, fun p q => (h1 p q).resolve_left (by simp), h3, h4 (by simp) hd (by simp), ?_⟩
  unfold closureFor
  rw [← h5]
  simp

theorem lookup_mem_ex {cl : List (Str × Addr)} {x : Str} {a : Addr} (h : (x, a) ∈ cl) : ∃ b, cl.lookup x = some b := by
  induction cl with
  | nil => simp at h
  | cons p r ih =>
    obtain ⟨y, d⟩ := p
    rw [List.lookup_cons]
    cases hb : x == y with
    | true => exact ⟨d, rfl⟩
    | false =>
      rcases List.mem_cons.mp h with e | e
      · cases e; simp at hb
      · exact ih e

/-- the comprehension's own frame -/
theorem comp_act {cnames : List (Str × NameKind)} {scope : Scope} {cap : Loc} {target : PySem.Expr} {cl : List (Str × Addr)} {C : Addr} {N : Addr → Prop} {m : Str → Option Value} (W : Act c (Un X N) ow A n env names loc σ h) (WX : ∀ a, (a = env.locals ∨ ∃ x, (x, a) ∈ env.cells) → X a)
    (O : CompOk names cnames scope loc cap target) (h1 : ∀ p ∈ cl, env.cells.lookup p.1 = some p.2 ∧ (p.1, .free) ∈ scope.names) (h2 : ∀ x ∈ scope.names, x.2 = .free → ∃ a, (x.1, a) ∈ cl) (h3 : (cl.map (·.1)).Nodup)
    (hC : N C) (hm : h.Ns C m) : Act c (Un X N) ow A n (compEnvC scope cl C env) cnames cap σ h := by
  have hko : ∀ y, env.kindOf y = names.lookup y := fun y => by show env.scope.names.lookup y = _; rw [W.names]
  have hcn : (relabel scope env).names = cnames := by
    rw [O.cn]
    show scope.names.map _ = scope.names.map _
    refine List.map_congr_left fun p _ => ?_
    obtain ⟨x, k⟩ := p
    show (if (k == .free && env.scope.kind == .function && env.kindOf x == some .cell) = true then _ else _) = _
    rw [hko, W.kind]
    simp
  have hk : ∀ y, Env.kindOf (compEnvC scope cl C env) y = cnames.lookup y := fun y => by show (relabel scope env).names.lookup y = _; rw [hcn]
  have has : ∀ x, cnames.lookup x = some .cell → ∃ a, cl.lookup x = some a ∧ env.cells.lookup x = some a := fun x hx => by
    have := mem_of_lookup hx
    rw [O.cn] at this
    obtain ⟨⟨y, k⟩, hy, e⟩ := List.mem_map.mp this
    have hf : k = .free ∧ y = x := by
      dsimp only at e
      split at e
      · rename_i hc
        cases e
        simp at hc
        exact ⟨hc.1, rfl⟩
      · cases e
        exact absurd rfl (O.cell _ hy)
    obtain ⟨rfl, rfl⟩ := hf
    obtain ⟨a, ha⟩ := h2 _ hy rfl
    obtain ⟨b, hb⟩ := lookup_mem_ex ha
    exact ⟨b, hb, (h1 _ (mem_of_lookup hb)).1⟩
  have hin : ∀ x a, (x, a) ∈ cl → (x, a) ∈ env.cells := fun x a q => mem_of_lookup (h1 _ q).1
  refine ⟨W.ok, W.frs, O.kind, hcn, W.glob, W.blt, fun a q => ?_, ⟨⟨m, hm, fun x t e d q => ?_⟩, fun x t e d q => ?_, fun x a q => W.fr.cellAt x a (hin x a q), ?_, fun x q => ?_⟩, W.rel⟩
  · rcases q with rfl | ⟨x, q⟩
    · exact .inr hC
    · exact .inl (WX a (.inr ⟨x, hin x a q⟩))
  · rw [hk, (O.cap _ (mem_of_lookup e)).2.2] at q; cases q
  · obtain ⟨e1, e2, e3⟩ := O.cap _ (mem_of_lookup e)
    obtain ⟨a, v, r, s, u⟩ := W.fr.cells x t e1 d (.inl (by rw [hko]; exact e2))
    obtain ⟨b, z1, z2⟩ := has x e3
    rw [r] at z2; cases z2
    exact ⟨a, v, z1, s, u⟩
  · have := List.pairwise_map.mp h3
    refine this.imp_of_mem fun {p q} hp hq hne e => hne ?_
    exact name_of_addr W.fr.apart (hin p.1 p.2 hp) (by rw [e]; exact hin q.1 q.2 hq)
  · rw [hk] at q
    obtain ⟨a, z, _⟩ := has x q
    exact ⟨a, z⟩

/-- what a comprehension leaves: a new list D, all else as its turns leave it; C is the comprehension's own -/
theorem comp_core {elt target iter : PySem.Expr} {ifs : List PySem.Expr} {scope : Scope} {pos pos₂ : Pos} {cnames : List (Str × NameKind)} {cap : Loc} {bs : List Loc} {us : List T} {s : Shared} {E : Value → Shared → Prop} {use : Option (Value → Sem Unit)} {Q : Value → Shared → Prop}
    (h₁ : IterTo c n names loc σ iter target bs σ₁) (O : CompOk names cnames scope loc cap target) (hel : ElsTo c n cnames cap ifs elt bs σ₁ us σ₂) (hsub : ∀ b ∈ bs, Sub (b ++ cap) cap) (hsz : bs.length ≤ sizeLine)
    (hs : ∀ x, foldedSetIterable iter env x = pure x) (K : CfgOk c) (hX : ∀ a, c.Mut a → X a) (W : Act c X ow A n env names loc σ s.heap)
    (hQ : ∀ C D m h' tk, s.heap.get? C = none → (∀ o, s.heap.get? D ≠ some o) → C ≠ D → h'.Ns C m → Act c (Un X (· = C)) ow A n env names loc σ₂ h' → Kp c.Mut s.heap h' → Rep c (Un (Un X (· = C)) ow) h' (.list us) (.ref D) →
      compPost (model c.prog c.w) A E use Q (.ref D) C (.ok .next) { s with heap := h', toks := tk }) :
    wpAny (model c.prog c.w) A (comprehension (.ListComp elt [⟨target, iter, ifs, 0⟩] scope pos) scope env pos₂ (newList []) false (eval iter env) use) Q E s := by
  have hko : ∀ y, env.kindOf y = names.lookup y := fun y => by show env.scope.names.lookup y = _; rw [W.names]
  obtain ⟨cl, c1, c2, c3, c4⟩ := closure_ok (env := env) (scope := scope) (fun x hx hf => W.fr.has x.1 (by rw [hko]; exact O.free x hx hf)) O.nodup
  refine wpAny_comprehension_free (cl := cl) rfl hs c4 O.kind O.nm (h₁ K X ow A env s _ E hX W fun h₂ tk I wr Sv R k hw hS => ?_)
  refine wpAny_newObj_type (wpAny_newFunctionEnv O.cell (by intro y hy; simp at hy) (fun h₃ hns₃ hsb₃ => ?_) O.kind)
  dsimp only at hns₃ hsb₃ ⊢
  generalize hH2 : h₂.push { cls := .type "list", dict := none, data := .seq ([] : List Value).toArray } = H2 at hns₃ hsb₃ ⊢
  have hC : H2.objs.size = h₂.objs.size + 1 := by rw [← hH2, Heap.size_push]
  generalize hCe : H2.objs.size = C at hns₃ hsb₃ hC ⊢
  generalize hDe : h₂.objs.size = D at hC ⊢
  have hDC : D ≠ C := by rw [hC]; exact ane (Nat.ne_of_lt (Nat.lt_succ_self _))
  have nD : h₂.get? D = none := ge_none (Nat.le_of_eq hDe)
  have nC : h₂.get? C = none := ge_none (by rw [hC, hDe]; exact Nat.le_succ _)
  have old : ∀ b o, h₂.get? b = some o → h₃.get? b = some o := fun b o e => hsb₃.extBut b o (fun z => off_none (z ▸ e) nC) (Heap.get?_push_of_some _ (hH2 ▸ Heap.get?_push_of_some _ e))
  have hacc : h₃.PlainList D #[] := ⟨_, hsb₃.extBut _ _ hDC (Heap.get?_push_of_some _ (hH2 ▸ hDe ▸ Heap.get?_push_size _ rfl))⟩
  have oC : ∃ o, h₃.get? C = some o := let ⟨o, _, _, e, _⟩ := hns₃; ⟨o, e⟩
  have oD : ∃ o, h₃.get? D = some o := let ⟨_, e⟩ := hacc; ⟨_, e⟩
  let N : Addr → Prop := fun a => a ∈ C :: D :: wr
  obtain ⟨S, st₂⟩ := hS N (fun a q => List.mem_cons_of_mem _ (List.mem_cons_of_mem _ q)) (fun a q => by
    rcases List.mem_cons.mp q with rfl | q
    · exact .inr nC
    · rcases List.mem_cons.mp q with rfl | q
      · exact .inr nD
      · exact .inl q)
  have bC : s.heap.get? C = none := fresh_back W.rel R k nC
  have bD : s.heap.get? D = none := fresh_back W.rel R k nD
  have hN : ∀ a, N a → s.heap.get? a = none := fun a q => by
    rcases List.mem_cons.mp q with rfl | q
    · exact bC
    · rcases List.mem_cons.mp q with rfl | q
      · exact bD
      · exact (hw a q).1
  have k₃ : Kp c.Mut s.heap h₃ := k.trans (.of_keeps fun a o _ e => old a o e)
  have R₃ : RelH c (Un X ow) σ₁ h₃ := rel_keeps R old
  have W₃ : Act c (Un X N) ow A n env names loc σ₁ h₃ := W.grow k₃ R₃ hX fun a q => ⟨hN a q, by
    rcases List.mem_cons.mp q with rfl | q
    · exact oC
    · rcases List.mem_cons.mp q with rfl | q
      · exact oD
      · obtain ⟨o, e⟩ := (hw a q).2; exact ⟨o, old a o e⟩⟩
  have WC₃ : Act c (Un X N) ow A n (compEnvC scope cl C env) cnames cap σ₁ h₃ := comp_act W₃ W.excl O c1 c2 c3 List.mem_cons_self hns₃
  have hXN : ∀ a, c.Mut a → Un X N a := fun a q => .inl (hX a q)
  have Cw : C ∉ wr := fun q => let ⟨o, e⟩ := (hw C q).2; off_none e nC
  have Dw : D ∉ wr := fun q => let ⟨o, e⟩ := (hw D q).2; off_none e nD
  have WR₀ : WrOk c (Un X N) env A (C :: D :: wr) := W.wrOk fun a q => ⟨q, hN a q⟩
  have WR : WrOk c (Un X N) (compEnvC scope cl C env) A wr := fun a q => by
    obtain ⟨z1, z2, z3, z4, z5⟩ := WR₀ a (List.mem_cons_of_mem _ (List.mem_cons_of_mem _ q))
    exact ⟨z1, z2, fun z => by subst z; exact Cw q, fun x z => z4 x (mem_of_lookup (c1 _ z).1), z5⟩
  have st₃ : Sv N 0 h₃ := S.stable _ _ _ No (fun _ q => q.elim) (.of_keeps fun a o _ e => old a o e) st₂
  have hdis : ∀ a, Un X ow a → a ∉ C :: D :: wr := fun a q z => let ⟨o, e⟩ := W.rel.live a q; off_none e (hN a z)
  have loop : ∀ s₃ : Shared, s₃ = { s with heap := h₃, toks := tk + ([] : List (Str × Value)).length } →
      codeAny (model c.prog c.w) A (.compLoop (.ListComp elt [⟨target, iter, ifs, 0⟩] scope pos) 0 (.ref I) (.ref D) (compEnvC scope cl C env)) (compPost (model c.prog c.w) A E use Q (.ref D) C) s₃ := by
    rintro s₃ rfl
    refine codeAny_compLoop_gen (fun m s' => ∃ i σ h tk vs us₁ us₂ mC, s' = { s with heap := h, toks := tk } ∧ i ≤ bs.length ∧ m = bs.length + 1 - i ∧ us = us₁ ++ us₂ ∧ us₁.length ≤ i ∧ ElsTo c n cnames cap ifs elt (bs.drop i) σ us₂ σ₂ ∧ h.Ns C mC ∧
        Act c (Un X N) ow A n env names loc σ h ∧ Sv N i h ∧ h.PlainList D vs.toArray ∧ RepL c (Un (Un X N) ow) h us₁ vs ∧ Kp (fun a => c.Mut a ∨ N a) s.heap h) ?_ (bs.length + 1)
      ⟨0, σ₁, h₃, _, [], [], us, _, rfl, Nat.zero_le _, rfl, rfl, Nat.zero_le _, by simpa using hel, hns₃, W₃, st₃, hacc, by simp only [RepL], k₃.mono fun a q => .inl q⟩
    rintro m s' ⟨i, σ, h, tk, vs, us₁, us₂, mC, rfl, hi, rfl, rfl, hul, hel, hnC, Wi, sti, hD, hvs, ki⟩
    have WCi : Act c (Un X N) ow A n (compEnvC scope cl C env) cnames cap σ h := comp_act Wi W.excl O c1 c2 c3 List.mem_cons_self hnC
    have mD : N D := List.mem_cons_of_mem _ List.mem_cons_self
    have mC' : N C := List.mem_cons_self
    have mW : ∀ a, a ∈ wr → N a := fun a z => List.mem_cons_of_mem _ (List.mem_cons_of_mem _ z)
    have DNm : ¬ c.Mut D := (WR₀ D (by simp)).2.1
    have CNm : ¬ c.Mut C := (WR₀ C (by simp)).2.1
    have fin : ∀ {h1 h2 : Heap} {σ' : St}, Kp (fun a => a ∈ wr ∨ a = C) h h1 → Kp c.Mut h1 h2 → Sv N (i + 1) h1 → (∃ m, h1.Ns C m) → RelH c (Un (Un X N) ow) σ' h2 →
        (∃ m, h2.Ns C m) ∧ Act c (Un X N) ow A n env names loc σ' h2 ∧ Sv N (i + 1) h2 ∧ h2.PlainList D vs.toArray ∧ RepL c (Un (Un X N) ow) h2 us₁ vs ∧ Kp (fun a => c.Mut a ∨ N a) s.heap h2 ∧ Kp (fun a => c.Mut a ∨ N a) h h2 := fun {h1 h2 σ'} k1 k2 st ⟨m, hm⟩ R2 => by
      have k12 : Kp (fun a => c.Mut a ∨ N a) h h2 := (k1.mono fun a z => .inr (z.elim (fun z => List.mem_cons_of_mem _ (List.mem_cons_of_mem _ z)) fun z => by rw [z]; exact List.mem_cons_self)).trans (k2.mono fun a z => .inl z)
      refine ⟨⟨m, ns_kp k2 CNm hm⟩, Wi.kpN WR₀ k12 R2 hXN, S.stable _ _ _ _ (fun a z => ⟨.inl (hXN a z), fun q => (WR a q).2.1 z⟩) k2 st, ?_, RepL.kp k12 (fun a z => z.elim (fun z => .inl (hXN a z)) fun z => .inl (.inr z)) _ _ hvs, ki.trans k12, k12⟩
      obtain ⟨j, e⟩ := hD
      exact ⟨j, k2.get DNm (k1.get (fun z => z.elim Dw hDC) e list_cls) list_cls⟩
    by_cases hlt : i < bs.length
    · have hbi : bs[i]? = some bs[i] := List.getElem?_eq_getElem hlt
      refine S.go hbi (fun v s₁ => rfl) sti hXN WR WCi O.tgt.ok fun h1 tk1 W1 st1 k1 kl => ?_
      have kl := kl O.tgt
      rw [List.drop_eq_getElem_cons hlt] at hel
      cases hel with
      | keep e1 e2 e3 =>
        rename_i a₁ t us'
        refine ifs_at e1 K hXN W1 fun h2 tk2 R2 k2 => ?_
        rw [if_pos rfl]
        refine e2 K (Un X N) ow A _ _ _ _ hXN (W1.kp k2 R2 hXN) fun y h3 tk3 R3 k3 r3 => ?_
        obtain ⟨⟨mC', hn3⟩, W3, st3, pl3, rl3, ks3, kh3⟩ := fin kl (k2.trans k3) st1 (let ⟨m, a, _⟩ := W1.fr.ns; ⟨m, a⟩) R3
        have hys : vs.toArray.size ≤ sizeLine := by
          have e1 := RepL.length _ _ hvs
          rw [List.size_toArray, e1]; (first | lia | omega)
        refine wpAny_list_append_plain (hsz := hys) pl3 fun h4 hl4 hs4 => ?_
        have k4 : Kp (· = D) h3 h4 := .of_keeps fun a o hm e => hs4.extBut a o hm e
        have R4 : RelH c (Un (Un X N) ow) _ h4 := rel_upd R3 (M := (· = D)) (fun a o hm e => hs4.extBut a o hm e) (fun a z => by rw [z]; exact ⟨.inl (.inr mD), DNm⟩) (fun a z => by subst z; obtain ⟨j, e⟩ := hl4; exact ⟨_, e⟩)
        have uD : ∀ a, a = D → Un (Un X N) ow a := fun a z => by rw [z]; exact .inl (.inr mD)
        refine ⟨bs.length + 1 - (i + 1), by (first | lia | omega), i + 1, _, h4, tk3, vs ++ [y], us₁ ++ [t], us', mC', rfl, hlt, rfl, by simp, by simp; (first | lia | omega), e3, hn3.sameBut hs4 (Ne.symm hDC), W3.kpN WR₀ (k4.mono fun a z => .inr (by rw [z]; exact mD)) R4 hXN, S.stable _ _ _ (· = D) (fun a z => ⟨uD a z, by rw [z]; exact Dw⟩) k4 st3, by simpa using hl4, ?_, ks3.trans (k4.mono fun a z => .inr (by rw [z]; exact mD))⟩
        exact RepL.append _ _ _ _ (RepL.kp k4 uD _ _ rl3) (by simp only [RepL]; exact ⟨y, [], rfl, Rep.kp k4 uD _ _ r3, rfl⟩)
      | drop e1 e3 =>
        refine ifs_at e1 K hXN W1 fun h2 tk2 R2 k2 => ?_
        rw [if_neg (by simp)]
        obtain ⟨⟨mC', hn3⟩, W3, st3, pl3, rl3, ks3, kh3⟩ := fin kl k2 st1 (let ⟨m, a, _⟩ := W1.fr.ns; ⟨m, a⟩) R2
        exact ⟨bs.length + 1 - (i + 1), by (first | lia | omega), i + 1, _, h2, tk2, vs, us₁, us₂, mC', rfl, hlt, rfl, rfl, by (first | lia | omega), e3, hn3, W3, st3, pl3, rl3, ks3⟩
    · obtain rfl : i = bs.length := Nat.le_antisymm hi (Nat.not_lt.mp hlt)
      rw [List.drop_length] at hel
      cases hel
      refine S.done _ _ _ sti fun h1 tk1 k1 => ?_
      have hU : ∀ a, Un (Un X (· = C)) ow a → Un (Un X N) ow a := fun a z => z.elim (fun z => z.elim (fun z => .inl (.inl z)) fun z => by rw [z]; exact .inl (.inr mC')) .inr
      have dis : ∀ a, Un (Un X (· = C)) ow a → a ∉ wr := fun a z q => by
        rcases z with (z | z) | z
        · exact hdis a (.inl z) (mW a q)
        · rw [z] at q; exact Cw q
        · exact hdis a (.inr z) (mW a q)
      have kN : ∀ a, a ∈ wr → Un (Un X N) ow a := fun a z => .inl (.inr (mW a z))
      refine hQ C D mC h1 tk1 bC (fun o e => off_none e bD) (Ne.symm hDC) (ns_kp k1.kp Cw hnC) (Wi.offTo (fun a z => z.elim .inl fun z => by rw [z]; exact .inr mC') (fun a z => .inl (hX a z)) (fun a z => .inl (W.excl a z)) (fun a z => WR₀ a (mW a z)) dis (fun a z q => let ⟨o, e⟩ := W.rel.epl a q; off_none e (hw a z).1) k1) ?_ ?_
      · exact Kp.fresh (M' := fun a => c.Mut a ∨ N a) (ki.trans (k1.kp.mono fun a z => .inr (mW a z))) fun a z => z.imp id (hN a)
      · obtain ⟨j, e⟩ := hD
        simp only [Rep, List.append_nil]
        refine ⟨D, vs, j, rfl, ?_, k1.kp.get Dw e list_cls, RepL.anti hU _ _ (RepL.kp k1.kp kN _ _ hvs)⟩
        rintro ((z | z) | z)
        · exact hdis D (.inl z) mD
        · exact hDC z
        · exact hdis D (.inr z) mD
  exact codeAny_compStart_list (loop _ rfl) (S.self 0 _ _ _ st₃ (loop _ rfl))

/-- a comprehension's list -/
theorem ev_comp {elt target iter : PySem.Expr} {ifs : List PySem.Expr} {scope : Scope} {pos : Pos} {cnames : List (Str × NameKind)} {cap : Loc} {bs : List Loc} {us : List T}
    (h₁ : IterTo c n names loc σ iter target bs σ₁) (O : CompOk names cnames scope loc cap target) (hel : ElsTo c n cnames cap ifs elt bs σ₁ us σ₂) (hsub : ∀ b ∈ bs, Sub (b ++ cap) cap) (hsz : bs.length ≤ sizeLine)
    (hs : ∀ env x, foldedSetIterable iter env x = pure x := by intro _ _; rfl) : EvTo c n names loc σ (.ListComp elt [⟨target, iter, ifs, 0⟩] scope pos) (.list us) σ₂ := fun K X ow A env s Q E hX W h => by
  rw [eval_ListComp]
  refine comp_core (use := none) h₁ O hel hsub hsz (hs env) K hX W fun C D m h' tk nC nD hCD hm W' k r => ⟨m, hm, fun h'' hs'' => ?_⟩
  have kC : Kx [C] h' h'' := fun b o hb e => hs''.extBut b o (fun z => hb (by simp [z])) e
  have hd : ∀ a, Un X ow a → a ∉ [C] := fun a z q => by
    obtain rfl := List.mem_singleton.mp q
    obtain ⟨o, e⟩ := W.rel.live a z
    exact off_none e nC
  have Cm : ¬ c.Mut C := fun z => hd C (.inl (hX C z)) (by simp)
  have R'' : RelH c (Un X ow) σ₂ h'' := W'.rel.off kC (fun a z => by obtain rfl := List.mem_singleton.mp z; exact ⟨.inl (.inr rfl), Cm⟩) (fun a z => ⟨z.elim (fun z => .inl (.inl z)) .inr, hd a z⟩) (fun a z => .inl (hX a z)) (fun a z q => by obtain rfl := List.mem_singleton.mp z; obtain ⟨o, e⟩ := W.rel.epl _ q; exact off_none e nC)
  refine h _ h'' tk R'' (Kp.fresh (M' := fun a => c.Mut a ∨ a ∈ [C]) ((k.mono fun a z => .inl z).trans (kC.kp.mono fun a z => .inr z)) fun a z => z.imp id fun z => by obtain rfl := List.mem_singleton.mp z; exact nC) ?_
  exact Rep.anti (fun a z => z.elim (fun z => .inl (.inl z)) .inr) _ _ (Rep.kp kC.kp (fun a z => by obtain rfl := List.mem_singleton.mp z; exact .inl (.inr rfl)) _ _ r)

/-- y = [ ... ]: stored before the comprehension's own is let go -/
theorem st_comp {y : Str} {yp p : Pos} {elt target iter : PySem.Expr} {ifs : List PySem.Expr} {scope : Scope} {pos : Pos} {cnames : List (Str × NameKind)} {cap : Loc} {bs : List Loc} {us : List T}
    (h₁ : IterTo c n names loc σ iter target bs σ₁) (O : CompOk names cnames scope loc cap target) (hel : ElsTo c n cnames cap ifs elt bs σ₁ us σ₂) (hsub : ∀ b ∈ bs, Sub (b ++ cap) cap) (hsz : bs.length ≤ sizeLine)
    (hy : names.lookup y = some .local) (hsw : ∀ env : Env, env.scope.kind = .function → env.scope.names = names → swapsWith (.ListComp elt [⟨target, iter, ifs, 0⟩] scope pos) (some (.Name y yp)) p.line env = pure true)
    (hs : ∀ env x, foldedSetIterable iter env x = pure x := by intro _ _; rfl) : St1 c n names loc σ (.Assign [.Name y yp] (.ListComp elt [⟨target, iter, ifs, 0⟩] scope pos) p) ((y, .list us) :: loc) σ₂ := fun K X ow A env s Q E hX W h => by
  rw [exec_Assign_Name_used _ _ _ _ (hsw env W.kind W.names)]
  refine wpAny_bind (wpAny_standAt (wpAny_bind ?_))
  show wpAny _ A (do let _ ← comprehension (.ListComp elt [⟨target, iter, ifs, 0⟩] scope pos) scope env _ (newList []) false (eval iter env) (some (assign (.Name y yp) env))) _ _ s
  refine wpAny_bind (wpAny_mono (comp_core (use := some (assign (.Name y yp) env)) (Q := fun _ s' => Q .next s') h₁ O hel hsub hsz (hs env) K hX W fun C D m h' tk nC nD hCD hm W' k r => ?_) (fun _ s' hq => wpAny_pure (wpAny_pure hq)) fun _ _ e => e)
  have hXC : ∀ a, c.Mut a → Un X (· = C) a := fun a z => .inl (hX a z)
  refine wpAny_assign_Name (store_var3 (s := { s with heap := h', toks := tk }) hXC W' (VRep.of r) (.inl hy) fun h2 tk2 W2 k2 _ kl _ => ?_)
  have hd : ∀ a, Un X ow a → a ∉ [C] := fun a z q => by
    obtain rfl := List.mem_singleton.mp q
    obtain ⟨o, e⟩ := W.rel.live a z
    exact off_none e nC
  have hLC : C ≠ env.locals := fun z => hd _ (.inl (W.excl _ (.inl z))) (by simp)
  refine ⟨m, ns_kp (kl hy) hLC hm, fun h3 hs3 => ?_⟩
  have kC : Kx [C] h2 h3 := fun b o hb e => hs3.extBut b o (fun z => hb (by simp [z])) e
  have WR : WrOk c (Un X (· = C)) env A [C] := W.wrOk fun a z => by obtain rfl := List.mem_singleton.mp z; exact ⟨rfl, nC⟩
  refine h h3 tk2 (W2.offTo (fun a z => .inl z) hX W.excl WR hd (fun a z q => by obtain rfl := List.mem_singleton.mp z; obtain ⟨o, e⟩ := W.rel.epl _ q; exact off_none e nC) kC) ?_
  refine Kp.fresh (M' := fun a => MutF c env ow a ∨ a ∈ [C]) ?_ fun a z => z.imp id fun z => by obtain rfl := List.mem_singleton.mp z; exact nC
  exact (((kpF k).trans (kpL k2)).mono fun a z => .inl z).trans (kC.kp.mono fun a z => .inr z)
end
end Mine
end
section
namespace Mine
section
variable {c : Cfg} {n : Nat} {names : List (Str × NameKind)} {loc loc' loc₁ : Loc} {σ σ' σ₁ σ₂ σ₃ : St} {P : SO → Prop} {rest : List Stmt} {X ow : Addr → Prop} {A : Around} {env : Env} {h h' h₀ : Heap} {s : Shared} {E : Value → Shared → Prop}

theorem FrsOk.fun : ∀ {l : List Env}, FrsOk h l → h.FunFrames { objs := #[] } l
  | [], _ => trivial
  | _ :: _, ⟨hk, ⟨L, o, es, j, e1, e2, _, e4⟩, r⟩ => ⟨by rw [hk]; decide, ⟨L, o, e1, rfl, e2, fun vs q => by rw [e4] at q; cases q⟩, FrsOk.fun r⟩
theorem FrsOk.slots {h' : Heap} (k : ∀ b o, h.get? b = some o → (∀ vs, o.data ≠ .fields vs) → ∃ sl, h'.get? b = some { o with slots := sl }) : ∀ {l : List Env}, FrsOk h l → FrsOk h' l
  | [], _ => trivial
  | _ :: _, ⟨hk, ⟨L, o, es, j, e1, e2, e3, e4⟩, r⟩ => by
    obtain ⟨sl, z⟩ := k L o e2 (fun vs q => by rw [e4] at q; cases q)
    exact ⟨hk, ⟨L, _, es, j, e1, z, e3, e4⟩, FrsOk.slots k r⟩

theorem dict_mapFields (o : Obj) (f : Array Value → Array Value) : (o.mapFields f).dict = o.dict := by
  obtain ⟨cl, d, dt, sl⟩ := o
  cases dt <;> rfl

/-- what a traceback's new entry leaves -/
noncomputable def Noted (l : List Env) (e : Addr) (oe : Obj) (vs : Array Value) (h h' : Heap) : Prop :=
  ∃ T oT ts oe', h'.get? e = some oe' ∧ oe'.cls = oe.cls ∧ oe'.dict = oe.dict ∧ oe'.data = .fields (vs.setIfInBounds 1 (.ref T)) ∧ T ≠ e ∧ h.get? T = none ∧ h'.get? T = some oT ∧ oT.cls = .type "traceback" ∧ oT.data = .fields ts ∧ ts[3]? = some .none ∧
    (∀ b o, b ≠ e → b ∉ l.filterMap (·.frame) → h.get? b = some o → h'.get? b = some o) ∧ (∀ b o, b ≠ e → h.get? b = some o → ∃ sl, h'.get? b = some { o with slots := sl })

theorem noted_at {M : Model} {outer : List Env} {L e : Addr} {oe : Obj} {vs : Array Value} {head : Value} {hadNext : Bool} {Q : Unit → Shared → Prop} (hfr : A.frames = some (env :: outer)) (hl : FrsOk s.heap (env :: outer)) (hf : env.frame = some L)
    (he : s.heap.get? e = some oe) (hd : oe.data = .fields vs) (hsz : 1 < vs.size) (h : ∀ h', Noted (env :: outer) e oe vs s.heap h' → Q () { s with heap := h' }) :
    wpAny M A (do let a ← frameOf env; let pl ← entryPlaceOf L hadNext; let b ← EntryCells.newEntry head a .none (rawInt L) .none pl; setField (.ref e) 1 b) (fun _ s' => wpAny M A (setFlight (.ref e) none) Q E s') E s := by
  have hene : e ∉ (env :: outer).filterMap (·.frame) := fun hm => by
    obtain ⟨_, o, ho, hnf⟩ := hl.fun.mem hm
    rw [he] at ho; injection ho with ho; subst ho; exact hnf vs hd
  refine wpAny_bind (wpAny_frameOf_fun hfr hl.fun hf fun h₁ hs₁ => ?_)
  refine wpAny_bind (wpAny_entryPlaceOf fun pl hpl => ?_)
  unfold EntryCells.newEntry newFields
  refine wpAny_bind (wpAny_newObj_type ?_ (hpl.sizeOk5 _ _ _ _ _))
  have he₁ : h₁.get? e = some oe := (hs₁.2.1 e hene).trans he
  have he₂ := Heap.get?_push_of_some (h := h₁) { cls := .type "traceback", dict := none, data := .fields ([head, .ref L, .none, rawInt L, .none] ++ (if pl.isEmpty then List.replicate 6 Value.none else pl)).toArray } he₁
  refine wpAny_setField he₂ hd hsz ?_
  have hTe : h₁.objs.size ≠ e := Nat.ne_of_gt (Heap.lt_size he₁)
  have hd₃ := Obj.data_mapFields hd (·.setIfInBounds 1 (Value.ref h₁.objs.size))
  have he₃ := Heap.get?_update_self (Obj.mapFields (·.setIfInBounds 1 (Value.ref h₁.objs.size))) he₂ (Obj.isFreed_of_fields hd₃)
  have hT₃ := (Heap.get?_update_other (h₁.push { cls := .type "traceback", dict := none, data := .fields ([head, .ref L, .none, rawInt L, .none] ++ (if pl.isEmpty then List.replicate 6 Value.none else pl)).toArray })
    (Obj.mapFields (·.setIfInBounds 1 (Value.ref h₁.objs.size))) (Ne.symm hTe)).trans (Heap.get?_push_size h₁ rfl)
  unfold setFlight
  refine wpAny_bind (wpAny_field he₃ hd₃ (x := .ref h₁.objs.size) (by simp [hsz]) ?_)
  rw [if_pos (show (Value.ref h₁.objs.size != Value.none) = true from by simp)]
  refine wpAny_setField hT₃ rfl (by simp only [List.size_toArray, List.length_append, List.length_cons, List.length_nil] <;> (first | lia | omega)) (h _ ?_)
  have keep : ∀ b o, b ≠ e → h₁.get? b = some o →
      (((h₁.push { cls := .type "traceback", dict := none, data := .fields ([head, .ref L, .none, rawInt L, .none] ++ (if pl.isEmpty then List.replicate 6 Value.none else pl)).toArray }).update e (Obj.mapFields (·.setIfInBounds 1 (Value.ref h₁.objs.size)))).update h₁.objs.size
        (Obj.mapFields (·.setIfInBounds 3 ((none : Option Addr).elim Value.none fun f => rawInt f)))).get? b = some o := fun b o hbe hb => by
    have hbT : h₁.objs.size ≠ b := Nat.ne_of_gt (Heap.lt_size hb)
    rw [Heap.get?_update_other _ _ hbT, Heap.get?_update_other _ _ (Ne.symm hbe)]
    exact Heap.get?_push_of_some _ hb
  refine ⟨h₁.objs.size, _, _, _, ?_, Obj.cls_mapFields _ _, dict_mapFields _ _, hd₃, hTe, ge_none (Nat.le_of_eq hs₁.1.symm), Heap.get?_update_self _ hT₃ (Obj.isFreed_of_fields (Obj.data_mapFields rfl _)), rfl, Obj.data_mapFields rfl _, by first | (simp; done) | (rcases hpl with rfl | ⟨_, _, _, _, _, _, _, rfl⟩ <;> simp),
    fun b o hb hn e => keep b o hb ((hs₁.2.1 b hn).trans e), fun b o hb e => ?_⟩
  · rw [Heap.get?_update_other _ _ hTe]; exact he₃
  · obtain ⟨sl, z⟩ := hs₁.2.2 b o e
    exact ⟨sl, keep b _ hb z⟩

/-- e, its traceback and the frames' slots have changed: nothing that the relation speaks of -/
theorem rel_left {σ₀ : St} {O : Addr → Prop} {F : List Addr} (R₀ : RelH c X σ₀ h₀) (R : RelH c X σ h) (hO : ∀ a, O a → h₀.get? a = none ∧ ∃ o, h'.get? a = some o) (hF : ∀ a ∈ F, c.B0.get? a = none ∧ ∃ o, h.get? a = some o ∧ o.cls = .type "frame")
    (k1 : ∀ b o, ¬ O b → b ∉ F → h.get? b = some o → h'.get? b = some o) (k2 : ∀ b o, ¬ O b → h.get? b = some o → ∃ sl, h'.get? b = some { o with slots := sl }) :
    RelH c X σ h' ∧ Kp (fun a => h₀.get? a = none) h h' ∧ ∀ a o, h.get? a = some o → ∃ o', h'.get? a = some o' := by
  have live : ∀ a o, h.get? a = some o → ∃ o', h'.get? a = some o' := fun a o e => by
    by_cases q : O a
    · exact (hO a q).2
    · obtain ⟨sl, z⟩ := k2 a o q e; exact ⟨_, z⟩
  have same : ∀ a o, (∃ o, h₀.get? a = some o) → o.cls ≠ .type "frame" → h.get? a = some o → h'.get? a = some o := fun a o ⟨o₀, e₀⟩ hc e =>
    k1 a o (fun q => off_none e₀ (hO a q).1) (fun q => by obtain ⟨_, o', e', c'⟩ := hF a q; rw [e] at e'; cases e'; exact hc c') e
  refine ⟨?_, fun a o hn e => ?_, live⟩
  · refine ⟨fun a o e => ?_, fun a q => let ⟨o, e⟩ := R.live a q; live a o e, R.muts, R.ne, ?_, ?_, ⟨R.cells.1, ?_⟩, ⟨R.given.1, ?_⟩, ⟨R.obj.1, ?_⟩, ⟨R.dict.1, ?_⟩, R.fresh, R.stay, fun a q => let ⟨o, e⟩ := R.epl a q; live a o e⟩
    · exact k1 a o (fun q => off_none (R₀.base a o e) (hO a q).1) (fun q => off_none e (hF a q).1) (R.base a o e)
    · obtain ⟨vs, m, e, i⟩ := R.data
      obtain ⟨_, _, e₀, _⟩ := R₀.data
      exact ⟨vs, m, same _ _ ⟨_, e₀⟩ list_cls e, i⟩
    · obtain ⟨t, m, e⟩ := R.feed
      obtain ⟨_, _, e₀⟩ := R₀.feed
      exact ⟨t, m, same _ _ ⟨_, e₀⟩ list_cls e⟩
    · obtain ⟨vs, m, e, i⟩ := R.cells.2
      obtain ⟨_, _, e₀, _⟩ := R₀.cells.2
      exact ⟨vs, m, same _ _ ⟨_, e₀⟩ list_cls e, i⟩
    · obtain ⟨vs, m, e, i⟩ := R.given.2
      obtain ⟨_, _, e₀, _⟩ := R₀.given.2
      exact ⟨vs, m, same _ _ ⟨_, e₀⟩ list_cls e, i⟩
    · exact same _ _ ⟨_, R₀.obj.2⟩ inst_cls R.obj.2
    · obtain ⟨es, m, e, r⟩ := R.dict.2
      obtain ⟨_, _, e₀, _⟩ := R₀.dict.2
      exact ⟨es, m, same _ _ ⟨_, e₀⟩ dict_cls e, r⟩
  · have ho : ¬ O a := fun q => hn (hO a q).1
    by_cases hc : o.cls = .type "frame"
    · obtain ⟨sl, z⟩ := k2 a o ho e
      exact ⟨sl, z, fun q => absurd hc q⟩
    · refine ⟨o.slots, k1 a o ho (fun q => ?_) e, fun _ => rfl⟩
      obtain ⟨_, o', e', c'⟩ := hF a q; rw [e] at e'; cases e'; exact hc c'

theorem leave2_at {L e : Addr} {l : List Env} {w : Str} {σ₀ : St} {Q : Unit → Shared → Prop} (hfr : A.frames = some (env :: l)) (hf : env.frame = some L) (hB : ∀ f ∈ env :: l, ∀ L, f.frame = some L → c.B0.get? L = none)
    (R₀ : RelH c X σ₀ h₀) (R : RelH c X σ s.heap) (lv : ∀ a o, h₀.get? a = some o → ∃ o', s.heap.get? a = some o') (F : Fly c (env :: l) e w s.heap) (nx : NewX h₀ s.heap e)
    (h : ∀ h', RelH c X σ h' → Kp (fun a => h₀.get? a = none) s.heap h' → (∀ a o, s.heap.get? a = some o → ∃ o', h'.get? a = some o') → Fly c l e w h' → NewX h₀ h' e → Q () { s with heap := h' }) : wpAny (model c.prog c.w) A (noteFrame (.ref e) env) (fun _ s' => wpAny (model c.prog c.w) A (setFlight (.ref e) none) Q E s') E s := by
  obtain ⟨oe, d, vs, es, k, t, he, hcls, hdict, hdata, hd, hw, hB0, hl, htb⟩ := F
  have hF : ∀ a ∈ (env :: l).filterMap (·.frame), c.B0.get? a = none ∧ ∃ o, s.heap.get? a = some o ∧ o.cls = .type "frame" := fun a q => by
    obtain ⟨f, hf1, hf2⟩ := List.mem_filterMap.mp q
    obtain ⟨L', o, e1, e2, e3⟩ := hl.cls f hf1
    rw [e1] at hf2; cases hf2
    exact ⟨hB f hf1 _ e1, o, e2, e3⟩
  -- the common end: e and O have changed
  have fin : ∀ (h₁ : Heap) (O : Addr → Prop), (∀ b, O b → b ≠ e ∧ h₀.get? b = none ∧ (∃ o vs, s.heap.get? b = some o ∧ o.data = .fields vs)) → (∀ b o, O b → ∃ o', h₁.get? b = some o') → h₁.get? e = some oe → (∀ b, ¬ O b → h₁.get? b = s.heap.get? b) → 1 < vs.size →
      ∀ h', Noted (env :: l) e oe vs h₁ h' → Q () { s with heap := h' } := fun h₁ O hO hOl he₁ hsame hsz h' ⟨T, oT, ts, oe', n1, n2, n3, n4, n5, n6, n7, n8, n9, n10, n11, n12⟩ => by
    have back : ∀ a, h₁.get? a = none → s.heap.get? a = none := fun a z => by
      by_cases q : O a
      · obtain ⟨o', z'⟩ := hOl a oe q; exact (off_none z' z).elim
      · rw [← hsame a q]; exact z
    have nT : h₀.get? T = none := by
      cases q : h₀.get? T with
      | none => rfl
      | some o => obtain ⟨o', z⟩ := lv T o q; exact (off_none z (back T n6)).elim
    have lv' : ∀ b o, h₁.get? b = some o → ∃ o', h'.get? b = some o' := fun b o z => by
      by_cases q : b = e
      · exact ⟨_, by rw [q]; exact n1⟩
      · obtain ⟨sl, y⟩ := n12 b o q z; exact ⟨_, y⟩
    obtain ⟨R', k', live'⟩ := rel_left (h' := h') (O := fun a => a = e ∨ O a) (F := (env :: l).filterMap (·.frame)) R₀ R (fun a q => by
        rcases q with rfl | q
        · exact ⟨nx.1, _, n1⟩
        · obtain ⟨o', z⟩ := hOl a oe q; exact ⟨(hO a q).2.1, lv' _ _ z⟩) hF
      (fun b o q q' z => n11 b o (fun y => q (.inl y)) q' (by rw [hsame b fun y => q (.inr y)]; exact z))
      (fun b o q z => n12 b o (fun y => q (.inl y)) (by rw [hsame b fun y => q (.inr y)]; exact z))
    have nofld : ∀ b o, s.heap.get? b = some o → (∀ vs, o.data ≠ .fields vs) → b ≠ e ∧ ¬ O b := fun b o z hn => by
      refine ⟨fun y => ?_, fun y => ?_⟩
      · rw [y, he] at z; cases z; exact hn _ hdata
      · obtain ⟨_, _, o', vs', z', hd'⟩ := hO b y
        rw [z] at z'; cases z'; exact hn _ hd'
    refine h h' R' k' live' ⟨oe', d, _, es, k, t, n1, n2.trans hcls, n3.trans hdict, n4, ?_, hw, hB0, hl.2.2.slots fun b o z hn => ?_, .inr ⟨T, oT, ts, by simp [hsz], n5, n7, n8, n9, n10⟩⟩ ⟨nx.1, fun oe'' vs'' T' e1 e2 e3 => ?_⟩
    · obtain ⟨q1, q2⟩ := nofld d _ hd (fun vs' y => by cases y)
      refine n11 d _ q1 (fun y => ?_) (by rw [hsame d q2]; exact hd)
      obtain ⟨_, o', e', c'⟩ := hF d y
      rw [hd] at e'; cases e'; exact dict_cls c'
    · obtain ⟨q1, q2⟩ := nofld b o z hn
      exact n12 b o q1 (by rw [hsame b q2]; exact z)
    · rw [n1] at e1; cases e1
      rw [n4] at e2; cases e2
      simp [hsz] at e3
      rw [← e3]; exact nT
  unfold noteFrame
  simp only [hf]
  rcases htb with h1 | ⟨T, oT, ts, h1, hTe, hT, hTc, hdT, h3⟩
  · refine wpAny_bind (wpAny_field he hdata h1 ?_)
    rw [if_neg (by decide)]
    have hsz := (Array.getElem?_eq_some_iff.mp h1).1
    exact noted_at hfr hl hf he hdata hsz fun h' hn => fin s.heap (fun _ => False) (fun _ q => q.elim) (fun _ _ q => q.elim) he (fun _ _ => rfl) hsz h' hn
  · refine wpAny_bind (wpAny_field he hdata h1 ?_)
    rw [if_pos (show (Value.ref T != Value.none) = true from by simp)]
    refine wpAny_bind (wpAny_field hT hdT h3 ?_)
    rw [if_neg (show ¬ ((Value.none == rawInt L) = true) from by simp [rawInt])]
    refine wpAny_bind (wpAny_setField hT hdT (Array.getElem?_eq_some_iff.mp h3).1 ?_)
    have hsz := (Array.getElem?_eq_some_iff.mp h1).1
    have other : ∀ b, b ≠ T → (s.heap.update T (Obj.mapFields (·.setIfInBounds 3 Value.none))).get? b = s.heap.get? b := fun b hb => Heap.get?_update_other _ _ (Ne.symm hb)
    have self := Heap.get?_update_self (Obj.mapFields (·.setIfInBounds 3 Value.none)) hT (Obj.isFreed_of_fields (Obj.data_mapFields hdT _))
    refine noted_at hfr (hl.slots fun b o z hn => ⟨o.slots, ?_⟩) hf ((other e (Ne.symm hTe)).trans he) hdata hsz fun h' hn =>
      fin _ (· = T) (fun b q => by rw [q]; exact ⟨hTe, nx.2 oe vs T he hdata h1, oT, ts, hT, hdT⟩) (fun b o q => by rw [q]; exact ⟨_, self⟩) ((other e (Ne.symm hTe)).trans he) other hsz h' hn
    refine (other b fun q => ?_).trans z
    rw [q, hT] at z; cases z; exact hn _ hdT

theorem leave_at {L e : Addr} {l : List Env} {w : Str} {σ₀ : St} {Q : Unit → Shared → Prop} (hfr : A.frames = some (env :: l)) (hf : env.frame = some L) (hB : ∀ f ∈ env :: l, ∀ L, f.frame = some L → c.B0.get? L = none)
    (R₀ : RelH c X σ₀ h₀) (R : RelH c X σ s.heap) (lv : ∀ a o, h₀.get? a = some o → ∃ o', s.heap.get? a = some o') (F : Fly c (env :: l) e w s.heap) (nx : NewX h₀ s.heap e)
    (h : ∀ h', RelH c X σ h' → Kp (fun a => h₀.get? a = none) s.heap h' → (∀ a o, s.heap.get? a = some o → ∃ o', h'.get? a = some o') → Fly c l e w h' → NewX h₀ h' e → Q () { s with heap := h' }) : wpAny (model c.prog c.w) A (leaving env (.ref e)) Q E s := by
  unfold leaving
  exact wpAny_bind (leave2_at hfr hf hB R₀ R lv F nx h)
end
end Mine
end
section
namespace Mine
section
variable {c : Cfg} {n : Nat} {names : List (Str × NameKind)} {loc loc' loc₁ : Loc} {σ σ' σ₁ σ₂ σ₃ : St} {rest : List Stmt} {X ow : Addr → Prop} {A : Around} {env : Env} {h h' h₀ : Heap} {s : Shared} {E : Value → Shared → Prop}

noncomputable def soP (P : Out → Prop) : SO → Prop
  | .next _ σ => P (.ret .none σ)
  | .ret t σ => P (.ret t σ)
  | .exc w σ => P (.exc w σ)

/-- a def of the text, as it stands at the beginning -/
noncomputable def FnAt (c : Cfg) (a : Addr) (params : List Str) (names : List (Str × NameKind)) (body : List Stmt) : Prop :=
  ∃ o fd, c.B0.get? a = some o ∧ o.data = .func fd ∧ fd.body = .stmts body ∧ fd.closure = [] ∧ fd.scope.kind = .function ∧ fd.scope.names = names ∧ fd.scope.isCoroutine = false ∧ fd.scope.isGenerator = false ∧
    fd.globals = mainGlobals ∧ fd.builtins = builtinsNs ∧ c.B0.CodeRec fd.code fd.qualname ∧ ∀ vals : List Value, vals.length = params.length → bindArgs fd ⟨vals, []⟩ = pure (params.zip vals)
theorem FnAt.isFn {a : Addr} {params : List Str} {body : List Stmt} (h : FnAt c a params names body) : IsFn c a := let ⟨o, fd, h1, h2, _⟩ := h; ⟨o, fd, h1, h2⟩

theorem bind_params (f : Str × Value → PUnit → Sem (ForInStep PUnit)) (hf : ∀ n v u, f (n, v) u = (do storeName env n v; pure (.yield ⟨⟩))) (hX : ∀ a, c.Mut a → X a) :
    ∀ (ps : List Str) (ts : List T) (vs : List Value) (loc : Loc) (s : Shared) (Q : PUnit → Shared → Prop), Act c X ow A n env names loc σ s.heap → RepL c (Un X ow) s.heap ts vs → ts.length = ps.length → (∀ p ∈ ps, Bnd names p) →
      (∀ h' tk, Act c X ow A n env names ((ps.zip ts).reverse ++ loc) σ h' → Kp (fun a => a = env.locals ∨ ∃ x, (x, a) ∈ env.cells) s.heap h' → (∀ l, FrsOk s.heap l → FrsOk h' l) → Q ⟨⟩ { s with heap := h', toks := tk }) →
      wpAny (model c.prog c.w) A (forIn (ps.zip vs) ⟨⟩ f) Q E s
  | [], [], vs, loc, s, Q, W, r, _, _, h => by
    simp only [RepL] at r; subst r
    show wpAny _ _ (forIn ([] : List (Str × Value)) _ _) _ _ _
    rw [List.forIn_nil]
    exact wpAny_pure (h s.heap s.toks W (Kp.refl _ _) fun _ f => f)
  | [], _ :: _, _, _, _, _, _, _, e, _, _ => by simp at e
  | _ :: _, [], _, _, _, _, _, _, e, _, _ => by simp at e
  | p :: ps, t :: ts, vs, loc, s, Q, W, r, e, hk, h => by
    simp only [RepL] at r
    obtain ⟨v, r', rfl, r1, r2⟩ := r
    rw [List.zip_cons_cons, List.forIn_cons, hf]
    refine wpAny_bind (wpAny_bind (store_var3 hX W (VRep.of r1) (hk p (by simp)) fun h1 tk1 W1 k1 _ _ fr1 => wpAny_pure ?_))
    refine bind_params f hf hX ps ts r' ((p, t) :: loc) { s with heap := h1, toks := tk1 } Q W1 (RepL.kp k1 (fun a q => .inl (W.excl a q)) _ _ r2) (by simpa using e) (fun q hq => hk q (by simp [hq])) fun h2 tk2 W2 k2 fr2 => ?_
    refine h h2 tk2 (by simpa using W2) (k1.trans k2) fun l f => fr2 l (fr1 l f)

theorem cells_has : ∀ (ns : List (Str × NameKind)) (k : Nat) (acc : List (Str × Addr)) (x : Str), ((x, NameKind.cell) ∈ ns ∨ ∃ a, (x, a) ∈ acc) → ∃ a, (x, a) ∈ cellsFrom k ns acc
  | [], k, acc, x, h => by
    rcases h with h | h
    · simp at h
    · exact h
  | (y, kd) :: ns, k, acc, x, h => by
    unfold cellsFrom
    split
    · refine cells_has ns _ _ x ?_
      rcases h with h | ⟨a, h⟩
      · rcases List.mem_cons.mp h with e | h
        · cases e; exact .inr ⟨k, by simp⟩
        · exact .inl h
      · exact .inr ⟨a, by simp [h]⟩
    · rename_i hk
      refine cells_has ns _ _ x ?_
      rcases h with h | h
      · rcases List.mem_cons.mp h with e | h
        · cases e; simp at hk
        · exact .inl h
      · exact .inr h

/-- as Ex, where the frame is the topmost -/
noncomputable def ExT (c : Cfg) (n : Nat) (names : List (Str × NameKind)) (loc : Loc) (σ : St) (ss : List Stmt) (P : SO → Prop) : Prop :=
  CfgOk c → ∀ (X ow : Addr → Prop) (A : Around) (env : Env) (s : Shared) (Q : Flow → Shared → Prop) (E : Value → Shared → Prop), (∀ a, c.Mut a → X a) → Act c X ow A n env names loc σ s.heap → (∃ l, A.frames = some (env :: l) ∧ FrsOk s.heap (env :: l)) → env.frame = some env.locals →
    Post c n names X ow A env s.heap s P Q E → wpAny (model c.prog c.w) A (execs ss env) Q E s
/-- the call of a def -/
theorem callp_t {a : Addr} {params : List Str} {body : List Stmt} {ts : List T} {P : Out → Prop} (hf : FnAt c a params names body) (hlen : ts.length = params.length) (hk : ∀ p ∈ params, Bnd names p)
    (hb : ExT c n names (params.zip ts).reverse σ body (soP P)) : CallP c (n + 1) (.ref a) ts σ P := fun K X A l s vs Q E hX ok hl hfr R r hret hexc => by
  obtain ⟨o, fd, ho, hd, hbody, hclo, hkind, hnames, hco, hgen, hglob, hblt, hcd, hbind⟩ := hf
  have hvl : vs.length = params.length := (RepL.length _ _ r).trans hlen
  refine wpAny_call (codeAny_call_function (by have := ok.2.1; (first | lia | omega)) (R.base _ _ ho) hd hco hgen hbody (hcd.keeps R.base) ?_)
  rw [hbind vs hvl, hclo, hglob, hblt]
  refine wpAny_pure ?_
  simp only [newFunctionEnv, Option.isSome_none, Bool.false_eq_true, if_false]
  refine wpAny_bind (wpAny_alloc ?_)
  refine wpAny_bind (wpAny_layCells _ (fun name kind cells => by cases hkc : kind == NameKind.cell <;> simp [hkc]) _ _ _ _ ?_)
  have hsz : ({ s with heap := s.heap.push { cls := .type "frame", data := .dict #[] } } : Shared).heap.objs.size = s.heap.objs.size + 1 := Heap.size_push ..
  rw [hsz]
  generalize hLe : s.heap.objs.size = L
  have okc := cellsFrom_ok fd.scope.names (s.heap.push { cls := .type "frame", data := .dict #[] }) (s.heap.objs.size + 1) [] ⟨fun _ _ hm => (nomatch hm), List.Pairwise.nil⟩ (by rw [Heap.size_push]; exact Nat.le_refl _)
  rw [Heap.size_push, hLe] at okc
  generalize hcl : cellsFrom (L + 1) fd.scope.names [] = cl at okc ⊢
  generalize hh1 : pushCells ({ s with heap := s.heap.push { cls := .type "frame", data := .dict #[] } } : Shared).heap fd.scope.names = h1
  have hh1' : pushCells (s.heap.push { cls := .type "frame", data := .dict #[] }) fd.scope.names = h1 := hh1
  rw [hh1'] at okc
  have up : ∀ b o, (s.heap.push { cls := .type "frame", data := .dict #[] }).get? b = some o → h1.get? b = some o := fun b o e => by rw [← hh1']; exact pushCells_keeps _ _ b o e
  have keep : ∀ b o, s.heap.get? b = some o → h1.get? b = some o := fun b o e => up b o (Heap.get?_push_of_some _ e)
  have oL : h1.get? L = some { cls := .type "frame", data := .dict #[] } := up _ _ (by rw [← hLe]; exact Heap.get?_push_size _ rfl)
  have hL0 : s.heap.get? L = none := ge_none (Nat.le_of_eq hLe)
  let env : Env := { scope := fd.scope, locals := L, globals := mainGlobals, cells := cl, qual := fd.qualname ++ ".<locals>.", func := some a, code := fd.code, frame := some L, builtins := builtinsNs }
  let N : Addr → Prop := fun b => b = L ∨ ∃ x, (x, b) ∈ cl
  have hN : ∀ b, N b → s.heap.get? b = none ∧ ∃ o, h1.get? b = some o := fun b q => by
    rcases q with rfl | ⟨x, q⟩
    · exact ⟨hL0, _, oL⟩
    · obtain ⟨⟨o', e', _⟩, hlo⟩ := okc.empty x b q
      exact ⟨ge_none (by rw [hLe]; exact Nat.le_of_succ_le hlo), o', e'⟩
  have hB : ∀ b, s.heap.get? b = none → c.B0.get? b = none := fun b q => by
    cases z : c.B0.get? b with
    | none => rfl
    | some o' => exact (off_none (R.base b o' z) q).elim
  have hXN : ∀ b, c.Mut b → Un X N b := fun b q => .inl (hX b q)
  have R1 : RelH c (Un X N) σ h1 := (rel_keeps R keep).turn R (fun b q => q) hXN hN
  have R1' : RelH c (Un (Un X N) No) σ h1 := by rw [Un.no]; exact R1
  have W1 : Act c (Un X N) No A.in1 n env names [] σ h1 :=
    { ok := ⟨ok.1, by have := ok.2.1; simp only [Around.in1_depth]; (first | lia | omega), by have := ok.2.2.1; simp only [Around.in1_units]; (first | lia | omega), ok.2.2.2⟩
      frs := ⟨l, hl, hfr.keeps (M := fun _ => False) (fun b o _ e => keep b o e) fun _ _ q => q.elim⟩
      kind := hkind
      names := hnames
      glob := rfl
      blt := rfl
      excl := fun b q => .inr q
      fr := ⟨⟨fun _ => none, ⟨_, #[], 0, oL, rfl, fun _ he => by simp at he, fun _ => rfl⟩, fun x t e => by simp at e⟩, fun x t e => by simp at e, fun x b q => ⟨none, (okc.empty x b q).1⟩, okc.apart, fun x q => by
        have q : fd.scope.names.lookup x = some .cell := q
        obtain ⟨b, hb⟩ := cells_has fd.scope.names (L + 1) [] x (.inl (mem_of_lookup q))
        rw [hcl] at hb
        exact lookup_mem_ex hb⟩
      rel := R1' }
  have r1 : RepL c (Un (Un X N) No) h1 ts vs := by
    rw [Un.no]
    exact RepL.kp (M := No) (.of_keeps fun b o _ e => keep b o e) (fun _ q => q.elim) _ _ (RepL.more (fun b q => q.imp id fun z => (hN b z).1) _ _ r)
  refine wpAny_bind (bind_params (env := env) _ (fun _ _ _ => rfl) hXN params ts vs [] ⟨h1, s.gens, s.drawn, s.toks, s.os⟩ _ W1 r1 hlen hk fun h2 tk2 W2 k2 fr2 => wpAny_pure ?_)
  have R2 : RelH c (Un X N) σ h2 := W2.rel.un hXN
  refine ⟨(K.nolimit).keeps R2.base, codeAny_func ?_⟩
  have frame2 : FrsOk h2 (env :: l) := fr2 (env :: l) ⟨hkind, ⟨L, _, #[], 0, rfl, oL, rfl, rfl⟩, hfr.keeps (M := fun _ => False) (fun b o _ e => keep b o e) fun _ _ q => q.elim⟩
  have hfrB : ∀ f ∈ env :: l, ∀ L', f.frame = some L' → c.B0.get? L' = none := fun f hf' L' e => by
    rcases List.mem_cons.mp hf' with rfl | hf'
    · cases e; exact hB _ hL0
    · exact ok.2.2.2 l hl f hf' L' e
  have hfrs : (A.deeper env).frames = some (env :: l) := Around.frames_deeper hl
  have W3 : Act c (Un X N) No (A.deeper env) n env names (params.zip ts).reverse σ h2 :=
    { W2 with
      ok := ⟨ok.1, by have := ok.2.1; show A.depth + 1 + n < _; (first | lia | omega), by have := ok.2.2.1; show A.units + 3 + 8 * n + 8 < _; (first | lia | omega), fun l' e => by rw [hfrs] at e; cases e; exact hfrB⟩
      frs := ⟨env :: l, hfrs, frame2⟩
      fr := by have := W2.fr; simpa using this }
  have kA : Kp (fun b => s.heap.get? b = none) s.heap h2 := (Kp.of_keeps fun b o _ e => keep b o e).trans (k2.mono fun b q => (hN b q).1)
  have lvA : ∀ b o, s.heap.get? b = some o → ∃ o', h2.get? b = some o' := fun b o e => by
    obtain ⟨sl, z, _⟩ := kA b o (fun q => off_none e q) e; exact ⟨_, z⟩
  have kM : ∀ {h' : Heap}, Kp (MutF c env No) h2 h' → Kp c.Mut s.heap h' := fun {h'} k' =>
    Kp.fresh (M' := fun b => c.Mut b ∨ s.heap.get? b = none) ((kA.mono fun b q => .inr q).trans (k'.mono fun b q => by
      rcases q with q | q | q | q
      · exact .inl q
      · exact .inr (hN b (.inl q)).1
      · exact .inr (hN b (.inr q)).1
      · exact q.elim)) fun b q => q
  refine hb K (Un X N) No (A.deeper env) env _ _ _ hXN W3 ⟨l, hfrs, frame2⟩ rfl ⟨?_, ?_, ?_⟩
  · intro loc' σ' h' tk' p W' k'
    exact hret .none σ' .none h' tk' p ((W'.rel.un hXN).anti (fun b q => .inl q) hX) (kM k') (by simp only [Rep])
  · intro t σ' v h' tk' p R' k' rv
    exact hret t σ' v h' tk' p (R'.anti (fun b q => .inl q) hX) (kM k') (Rep.anti (fun b q => .inl q) _ _ rv)
  · intro w σ' e h' tk' p R' k' F nx
    have kMe := kM k'
    have R'X := R'.anti (fun b q => .inl q) hX
    have lv : ∀ b o, s.heap.get? b = some o → ∃ o', h'.get? b = some o' := fun b o e => by
      by_cases q : c.Mut b
      · exact R'.live b (hXN b q)
      · obtain ⟨sl, z, _⟩ := kMe b o q e; exact ⟨_, z⟩
    have nx' : NewX s.heap h' e := by
      have old : ∀ b, h2.get? b = none → s.heap.get? b = none := fun b z => by
        cases q : s.heap.get? b with
        | none => rfl
        | some o => obtain ⟨o', y⟩ := lvA b o q; exact (off_none y z).elim
      exact ⟨old _ nx.1, fun oe vs T e1 e2 e3 => old _ (nx.2 oe vs T e1 e2 e3)⟩
    refine leave_at (X := X) (h₀ := s.heap) hfrs rfl hfrB R R'X lv (F _ hfrs) nx' fun h'' R'' k'' lv'' F'' nx'' => ?_
    exact hexc w σ' e h'' tk' p R'' (Kp.fresh (M' := fun b => c.Mut b ∨ s.heap.get? b = none) ((kMe.mono fun b q => .inl q).trans (k''.mono fun b q => .inr q)) fun b q => q) F'' nx''
theorem callp {a : Addr} {params : List Str} {body : List Stmt} {ts : List T} {P : Out → Prop} (hf : FnAt c a params names body) (hlen : ts.length = params.length) (hk : ∀ p ∈ params, Bnd names p)
    (hb : Ex c n names (params.zip ts).reverse σ body (soP P)) : CallP c (n + 1) (.ref a) ts σ P := callp_t hf hlen hk fun K X ow A env s Q E hX W _ _ PR => hb K X ow A env s Q E hX W PR
end
end Mine
end
section
namespace Mine
section
variable {c : Cfg} {n : Nat} {names : List (Str × NameKind)} {loc loc' loc₁ : Loc} {σ σ' σ₁ σ₂ σ₃ : St} {P : SO → Prop} {rest : List Stmt} {X ow : Addr → Prop} {A : Around} {env : Env} {h h' h₀ : Heap} {s : Shared} {E : Value → Shared → Prop}

/-- x = f(args), where f may raise -/
theorem ex_assign_call {x f : Str} {xp fp p q : Pos} {a : Addr} {args : List PySem.Expr} {ts : List T} {P₁ : Out → Prop} {e₀ : PySem.Expr} {er : List PySem.Expr} (hg : c.mg f = some (.ref a)) (hf : IsFn c a) (hk : names.lookup f = some .globalImplicit) (h₁ : EvsTo c n names loc σ args ts σ₁)
    (h₂ : CallP c n (.ref a) ts σ₁ P₁) (hx : Bnd names x) (hr : ∀ t σ', P₁ (.ret t σ') → Ex c n names ((x, t) :: loc) σ' rest P) (he : ∀ w σ', P₁ (.exc w σ') → P (.exc w σ'))
    (ha : args = e₀ :: er := by rfl) (hs : ∀ env, starEach (e₀ :: er) env = (false, eval e₀ env) :: starEach er env := by intro _; rfl) (hd : (f == ("__debug__" : Str)) = false := by decide)
    (hsw : ∀ env, swapsWith (.Call (.Name f fp) args [] p) (some (.Name x xp)) q.line env = pure false := by intro _; rfl) : Ex c n names loc σ (.Assign [.Name x xp] (.Call (.Name f fp) args [] p) q :: rest) P := fun K X ow A env s Q E hX W PR =>
  wpAny_execs_cons (wpAny_Assign_Name (call_node ha K hX W hg hf hk h₁ (fun vs h' tk R k r => by
    have W' := W.kp k R hX
    obtain ⟨l, hl, hfr⟩ := W'.frs
    refine h₂ K (Un X ow) A l _ vs _ E (unX hX) W.ok hl hfr R r (fun t σ' v h'' tk' p R' k' r' => ?_) (fun w σ' e h'' tk' p R' k' F nx => ?_)
    · refine store_var (E := E) (s := { s with heap := h'', toks := tk' }) (Q := fun _ s' => wpAny (model c.prog c.w) A (execs rest env) Q E s') hX (W.kp (k.trans k') R' hX) (VRep.of r') hx fun h3 tk3 W3 k3 _ => ?_
      have kf : Kp (MutF c env ow) s.heap h3 := (kpF (k.trans k')).trans (kpL k3)
      exact hr t σ' p K X ow A env _ Q E hX W3 (PR.from kf (W3.liveF (fun a q => .inr q) kf))
    · have old : ∀ b, h'.get? b = none → s.heap.get? b = none := fun b z => fresh_back W.rel R k z
      exact PR.exc w σ' e h'' tk' (he w σ' p) (R'.un hX) (kpF (k.trans k')) (fun l' e' => by rw [hl] at e'; cases e'; exact F) ⟨old _ nx.1, fun oe vs T e1 e2 e3 => old _ (nx.2 oe vs T e1 e2 e3)⟩) hd (hs env)) (hsw env))
/-- f(args), where f may raise; its value dropped -/
theorem ex_expr_call {f : Str} {fp p q : Pos} {a : Addr} {args : List PySem.Expr} {ts : List T} {P₁ : Out → Prop} {e₀ : PySem.Expr} {er : List PySem.Expr} (hg : c.mg f = some (.ref a)) (hf : IsFn c a) (hk : names.lookup f = some .globalImplicit) (h₁ : EvsTo c n names loc σ args ts σ₁)
    (h₂ : CallP c n (.ref a) ts σ₁ P₁) (hr : ∀ t σ', P₁ (.ret t σ') → Ex c n names loc σ' rest P) (he : ∀ w σ', P₁ (.exc w σ') → P (.exc w σ'))
    (ha : args = e₀ :: er := by rfl) (hs : ∀ env, starEach (e₀ :: er) env = (false, eval e₀ env) :: starEach er env := by intro _; rfl) (hd : (f == ("__debug__" : Str)) = false := by decide)
    (hsw : ∀ env, swapsWith (.Call (.Name f fp) args [] p) none q.line env = pure false := by intro _; rfl) : Ex c n names loc σ (.Expr (.Call (.Name f fp) args [] p) q :: rest) P := fun K X ow A env s Q E hX W PR =>
  wpAny_execs_cons (wpAny_Expr_any (call_node ha K hX W hg hf hk h₁ (fun vs h' tk R k r => by
    have W' := W.kp k R hX
    obtain ⟨l, hl, hfr⟩ := W'.frs
    refine h₂ K (Un X ow) A l _ vs _ E (unX hX) W.ok hl hfr R r (fun t σ' v h'' tk' p R' k' r' => ?_) (fun w σ' e h'' tk' p R' k' F nx => ?_)
    · have W3 := W.kp (k.trans k') R' hX
      have kf : Kp (MutF c env ow) s.heap h'' := kpF (k.trans k')
      exact hr t σ' p K X ow A env _ Q E hX W3 (PR.from kf (W3.liveF (fun a q => .inr q) kf))
    · have old : ∀ b, h'.get? b = none → s.heap.get? b = none := fun b z => fresh_back W.rel R k z
      exact PR.exc w σ' e h'' tk' (he w σ' p) (R'.un hX) (kpF (k.trans k')) (fun l' e' => by rw [hl] at e'; cases e'; exact F) ⟨old _ nx.1, fun oe vs T e1 e2 e3 => old _ (nx.2 oe vs T e1 e2 e3)⟩) hd (hs env)) (by show (env.scope.kind == .module && _) = false; rw [W.kind]; rfl) (hsw env))
/-- while -/
theorem ex_while {test : PySem.Expr} {body : List Stmt} {pos : Pos} (J : Nat → Loc → St → Prop) {m : Nat} (h0 : J m loc σ)
    (ht : ∀ m loc σ, J m loc σ → ∃ b, TsTo c n names loc σ test b σ ∧
      (b = true → Ex c n names loc σ body (fun o => match o with | .next loc' σ' => ∃ m' loc'', m' < m ∧ Sub loc' loc'' ∧ J m' loc'' σ' | .ret t σ => P (.ret t σ) | .exc _ _ => False)) ∧ (b = false → Ex c n names loc σ rest P)) :
    Ex c n names loc σ (.While test body [] pos :: rest) P := fun K X ow A env s Q E hX W PR => by
  refine wpAny_execs_cons (wpAny_While ?_)
  refine codeAny_loop' rfl (fun m s' => ∃ loc σ h tk, s' = { s with heap := h, toks := tk } ∧ Act c X ow A n env names loc σ h ∧ J m loc σ ∧ Kp (MutF c env ow) s.heap h) ?_ m ⟨loc, σ, s.heap, s.toks, rfl, W, h0, Kp.refl _ _⟩
  rintro m s' ⟨loc, σ, h, tk, rfl, Wi, Ji, ki⟩
  show wpAny _ A ((whileTurn test body [] env).onRaise (fun x => do noteFrame x env; theTreesLotGoes x)) _ _ _
  refine wpAny_noted ?_
  unfold whileTurn
  obtain ⟨b, hb, hT, hF⟩ := ht m loc σ Ji
  refine wpAny_bind (hb K X ow A env _ _ _ hX Wi fun h1 tk1 R1 k1 => ?_)
  have W1 := Wi.kp k1 R1 hX
  cases b with
  | true =>
    rw [if_pos rfl]
    refine wpAny_bind (hT rfl K X ow A env _ _ _ hX W1 ⟨?_, ?_, ?_⟩)
    · rintro loc' σ' h2 tk2 ⟨m', loc'', hm, hsub, hJ⟩ W2 k2
      exact wpAny_pure (.inl ⟨rfl, m', hm, loc'', σ', h2, tk2, rfl, W2.sub hsub, hJ, (ki.trans (kpF k1)).trans k2⟩)
    · intro t σ' v h2 tk2 p R2 k2 r
      exact wpAny_pure (PR.ret t σ' v h2 tk2 p R2 ((ki.trans (kpF k1)).trans k2) r)
    · rintro w σ' e h2 tk2 p
      exact p.elim
  | false =>
    rw [if_neg (by simp)]
    have kf : Kp (MutF c env ow) s.heap h1 := ki.trans (kpF k1)
    refine wpAny_bind (wpAny_execs_nil (wpAny_pure ?_))
    exact hF rfl K X ow A env _ Q E hX W1 (PR.from kf (W1.liveF (fun a q => .inr q) kf))

/-- two names, two values, the last name's store last -/
theorem store_two {x y : Str} {t u : T} {v w : Value} {Q : Unit → Shared → Prop} {f g : Value → Sem Unit} (hf : ∀ v (s : Shared) (Q : Unit → Shared → Prop), wpAny (model c.prog c.w) A (storeName env x v) Q E s → wpAny (model c.prog c.w) A (f v) Q E s) (hg : ∀ v (s : Shared) (Q : Unit → Shared → Prop), wpAny (model c.prog c.w) A (storeName env y v) Q E s → wpAny (model c.prog c.w) A (g v) Q E s)
    (hX : ∀ a, c.Mut a → X a) (W : Act c X ow A n env names loc σ s.heap) (r1 : Rep c (Un X ow) s.heap t v) (r2 : Rep c (Un X ow) s.heap u w) (hx : Bnd names x) (hy : Bnd names y)
    (h : ∀ h' tk, Act c X ow A n env names ((y, u) :: (x, t) :: loc) σ h' → Kp (MutF c env ow) s.heap h' → Q () { s with heap := h', toks := tk }) :
    wpAny (model c.prog c.w) A (assignInOrder [f, g] [v, w]) Q E s := by
  refine assignInOrder_cons (hf _ _ _ (store_var hX W (VRep.of r1) hx fun h1 tk1 W1 k1 _ => ?_))
  refine assignInOrder_cons (hg _ _ _ (store_var (s := { s with heap := h1, toks := tk1 }) hX W1 (VRep.of (Rep.kp k1 (fun a q => .inl (W.excl a q)) _ _ r2)) hy fun h2 tk2 W2 k2 _ => ?_))
  exact assignInOrder_nil (h h2 tk2 W2 ((kpL k1).trans (kpL k2)))

/-- x, y = e, where e comes to a pair -/
theorem st_unpack {x y : Str} {xp yp tp p : Pos} {kk : Nat} {e : PySem.Expr} {t u : T} (h₁ : EvTo c n names loc σ e (.tup [t, u]) σ₁) (hx : Bnd names x) (hy : Bnd names y)
    (hs : ∀ env, swapsWithSole [.Tuple [.Name x xp, .Name y yp] kk tp] e p.line env = pure false := by intro _; rfl) (hw : ∀ env : Env, env.scope.kind = .function → env.scope.names = names → swappedStores [.Tuple [.Name x xp, .Name y yp] kk tp] e env = pure none := by intro _ _ _; rfl) :
    St1 c n names loc σ (.Assign [.Tuple [.Name x xp, .Name y yp] kk tp] e p) ((y, u) :: (x, t) :: loc) σ₁ := fun K X ow A env s Q E hX W h =>
  Assign_Tuple (h₁ K X ow A env s _ E hX W fun v h1 tk R k r => by
    simp only [Rep] at r
    obtain ⟨a, vs, rfl, hxa, e1, r⟩ := r
    obtain ⟨v1, v2, rfl, r1, r2⟩ := repL2 r
    refine assign_Tuple_tuple W.ok.1 ⟨_, e1, rfl, _, rfl⟩ rfl rfl fun h2 he => ?_
    have k2 : ∀ b o, h1.get? b = some o → h2.get? b = some o := fun b o e => he b o (Nat.ne_of_lt (Heap.lt_size e)) e
    have R2 := rel_keeps R k2
    have kN : Kp No h1 h2 := .of_keeps fun a o _ e => k2 a o e
    have k12 : Kp c.Mut s.heap h2 := k.trans (kN.mono fun _ q => q.elim)
    have W2 := W.kp k12 R2 hX
    exact store_two (s := { s with heap := h2, toks := tk }) (fun v s Q h => wpAny_assign_Name h) (fun v s Q h => wpAny_assign_Name h) hX W2 (Rep.kp kN (fun _ q => q.elim) _ _ r1) (Rep.kp kN (fun _ q => q.elim) _ _ r2) hx hy fun h3 tk3 W3 k3 => h h3 tk3 W3 ((kpF k12).trans k3)) (hs env) (hw env W.kind W.names)
/-- x, y = (e, f), the stores swapped -/
theorem st_tup2s {x y : Str} {xp yp tp p q : Pos} {kk kk' : Nat} {e f : PySem.Expr} {t u : T} (h₁ : EvTo c n names loc σ (.Tuple [e, f] kk' q) (.tup [t, u]) σ₁) (hx : Bnd names x) (hy : Bnd names y)
    (hw : ∀ env : Env, env.scope.kind = .function → env.scope.names = names → swappedStores [.Tuple [.Name x xp, .Name y yp] kk tp] (.Tuple [e, f] kk' q) env = pure (some [x, y])) (hs : ∀ env, swapsWithSole [.Tuple [.Name x xp, .Name y yp] kk tp] (.Tuple [e, f] kk' q) p.line env = pure false := by intro _; rfl) :
    St1 c n names loc σ (.Assign [.Tuple [.Name x xp, .Name y yp] kk tp] (.Tuple [e, f] kk' q) p) ((x, t) :: (y, u) :: loc) σ₁ := fun K X ow A env s Q E hX W h =>
  Assign_Tuple_swapped (names := [x, y]) (h₁ K X ow A env s _ E hX W fun v h1 tk R k r => by
    simp only [Rep] at r
    obtain ⟨a, vs, rfl, hxa, e1, r⟩ := r
    obtain ⟨v1, v2, rfl, r1, r2⟩ := repL2 r
    refine unpackItems_tuple (items := #[v1, v2]) W.ok.1 ⟨_, e1, rfl, _, rfl⟩ fun h2 he => ?_
    have k2 : ∀ b o, h1.get? b = some o → h2.get? b = some o := fun b o e => he b o (Nat.ne_of_lt (Heap.lt_size e)) e
    have R2 := rel_keeps R k2
    have kN : Kp No h1 h2 := .of_keeps fun a o _ e => k2 a o e
    have k12 : Kp c.Mut s.heap h2 := k.trans (kN.mono fun _ q => q.elim)
    have W2 := W.kp k12 R2 hX
    exact store_two (s := { s with heap := h2, toks := tk }) (fun v s Q h => bindName_ h) (fun v s Q h => bindName_ h) hX W2 (Rep.kp kN (fun _ q => q.elim) _ _ r2) (Rep.kp kN (fun _ q => q.elim) _ _ r1) hy hx fun h3 tk3 W3 k3 => h h3 tk3 W3 ((kpF k12).trans k3)) (hs env) (hw env W.kind W.names)
end
end Mine
end
section
namespace Mine
section
variable {c : Cfg} {n : Nat} {names : List (Str × NameKind)} {loc loc' loc₁ : Loc} {σ σ' σ₁ σ₂ σ₃ : St} {P : SO → Prop} {rest : List Stmt} {X ow : Addr → Prop} {A : Around} {env : Env} {h h' h₀ : Heap} {s : Shared} {E : Value → Shared → Prop}

theorem mapSeq_set (items : Array Value) (k n : Nat) (v : Value) : Obj.mapSeq (·.setIfInBounds k v) (W.listOf items n) = W.listOf (items.setIfInBounds k v) n := by
  simp [Obj.mapSeq, W.listOf]
theorem IntsAre.set : ∀ {vs : List Value} {l : List Int}, IntsAre vs l → ∀ (k : Nat) (x : Int) (t : Tok), IntsAre (vs.set k (.int x t)) (l.set k x)
  | _, _, .nil, k, x, t => by simp; exact .nil
  | _, _, .cons y u r, 0, x, t => .cons x t r
  | _, _, .cons y u r, k + 1, x, t => .cons y u (IntsAre.set r k x t)
theorem not_mut_of (R : RelH c X σ h) {a : Addr} (ha : ¬ X a) : ¬ c.Mut a := fun q => ha (R.muts a q)

/-- the data have changed -/
theorem rel_data {l : List Int} (R : RelH c X σ h) (k : ∀ b, b ≠ c.D → h'.get? b = h.get? b) (new : IntsAt h' c.D l) : RelH c X { σ with data := l } h' := by
  have up : ∀ b o, b ≠ c.D → h.get? b = some o → h'.get? b = some o := fun b o hb e => (k b hb).trans e
  have liv : ∀ b o, h.get? b = some o → ∃ o', h'.get? b = some o' := fun b o e => by
    by_cases q : b = c.D
    · obtain ⟨_, _, e', _⟩ := new; exact ⟨_, by rw [q]; exact e'⟩
    · exact ⟨_, up b o q e⟩
  exact
  { base := fun a o e => up a o (fun q => by rw [q, R.fresh _ (.inl rfl)] at e; cases e) (R.base a o e)
    live := fun a q => let ⟨o, e⟩ := R.live a q; liv a o e
    muts := R.muts
    ne := R.ne
    data := new
    feed := let ⟨t, m, e⟩ := R.feed; ⟨t, m, up _ _ (Ne.symm R.ne) e⟩
    cells := ⟨R.cells.1, let ⟨vs, m, e, i⟩ := R.cells.2; ⟨vs, m, up _ _ (fun q => R.cells.1 (q ▸ R.muts _ (.inl rfl))) e, i⟩⟩
    given := ⟨R.given.1, let ⟨vs, m, e, i⟩ := R.given.2; ⟨vs, m, up _ _ (fun q => R.given.1 (q ▸ R.muts _ (.inl rfl))) e, i⟩⟩
    obj := ⟨R.obj.1, up _ _ (fun q => R.obj.1 (q ▸ R.muts _ (.inl rfl))) R.obj.2⟩
    dict := ⟨R.dict.1, let ⟨es, m, e, r⟩ := R.dict.2; ⟨es, m, up _ _ (fun q => R.dict.1 (q ▸ R.muts _ (.inl rfl))) e, r⟩⟩
    fresh := R.fresh
    stay := R.stay
    epl := fun a q => let ⟨o, e⟩ := R.epl a q; liv a o e }
theorem rel_feed {j : Int} {t : Tok} {m : Nat} (R : RelH c X σ h) (k : ∀ b, b ≠ c.Fd → h'.get? b = h.get? b) (new : h'.get? c.Fd = some (listOf #[.ref c.cl, .int j t] m)) : RelH c X { σ with turn := j } h' := by
  have up : ∀ b o, b ≠ c.Fd → h.get? b = some o → h'.get? b = some o := fun b o hb e => (k b hb).trans e
  have liv : ∀ b o, h.get? b = some o → ∃ o', h'.get? b = some o' := fun b o e => by
    by_cases q : b = c.Fd
    · exact ⟨_, by rw [q]; exact new⟩
    · exact ⟨_, up b o q e⟩
  exact
  { base := fun a o e => up a o (fun q => by rw [q, R.fresh _ (.inr rfl)] at e; cases e) (R.base a o e)
    live := fun a q => let ⟨o, e⟩ := R.live a q; liv a o e
    muts := R.muts
    ne := R.ne
    data := let ⟨vs, m, e, i⟩ := R.data; ⟨vs, m, up _ _ R.ne e, i⟩
    feed := ⟨t, m, new⟩
    cells := ⟨R.cells.1, let ⟨vs, m, e, i⟩ := R.cells.2; ⟨vs, m, up _ _ (fun q => R.cells.1 (q ▸ R.muts _ (.inr rfl))) e, i⟩⟩
    given := ⟨R.given.1, let ⟨vs, m, e, i⟩ := R.given.2; ⟨vs, m, up _ _ (fun q => R.given.1 (q ▸ R.muts _ (.inr rfl))) e, i⟩⟩
    obj := ⟨R.obj.1, up _ _ (fun q => R.obj.1 (q ▸ R.muts _ (.inr rfl))) R.obj.2⟩
    dict := ⟨R.dict.1, let ⟨es, m, e, r⟩ := R.dict.2; ⟨es, m, up _ _ (fun q => R.dict.1 (q ▸ R.muts _ (.inr rfl))) e, r⟩⟩
    fresh := R.fresh
    stay := R.stay
    epl := fun a q => let ⟨o, e⟩ := R.epl a q; liv a o e }

/-- disk.data[k] = x -/
theorem st_dset {o i value : PySem.Expr} {p p' : Pos} {x k : Int} (h₁ : EvTo c n names loc σ value (.int x) σ₁) (h₂ : EvTo c n names loc σ₁ o .data σ₂) (h₃ : EvTo c n names loc σ₂ i (.int k) σ₃) (h0 : 0 ≤ k) (hk : k < σ₃.data.length) (hz : σ₃.data.length < 2 ^ 62)
    (hs : ∀ env, swapsWith value (some (.Subscript o i p')) p.line env = pure false := by intro _; rfl) : St1 c n names loc σ (.Assign [.Subscript o i p'] value p) loc { σ₃ with data := σ₃.data.set k.toNat x } := fun K X ow A env s Q E hX W h =>
  wpAny_Assign_Subscript (h₁ K X ow A env s _ E hX W fun v h1 tk1 R1 k1 r1 => h₂ K X ow A env _ _ E hX (W.kp k1 R1 hX) fun v2 h2 tk2 R2 k2 r2 => h₃ K X ow A env _ _ E hX ((W.kp k1 R1 hX).kp k2 R2 hX) fun v3 h3 tk3 R3 k3 r3 => by
    simp only [Rep] at r1 r2 r3
    obtain ⟨t1, rfl⟩ := r1; subst r2; obtain ⟨t3, rfl⟩ := r3
    obtain ⟨vs, m, e, iv⟩ := R3.data
    have hl := ints_len iv
    refine ki_setAt e h0 (by (first | lia | omega)) (by rw [List.size_toArray, hl]; exact hk) ?_
    have e' := Heap.get?_update_self (Obj.mapSeq (·.setIfInBounds k.toNat (Value.int x t1))) e (by rw [mapSeq_set]; rfl)
    rw [mapSeq_set] at e'
    have R' := rel_data (l := σ₃.data.set k.toNat x) R3 (fun b hb => Heap.get?_update_other _ _ (Ne.symm hb)) ⟨vs.set k.toNat (.int x t1), m, by rw [e']; simp, IntsAre.set iv _ _ _⟩
    have kk : Kp c.Mut s.heap _ := ((k1.trans k2).trans k3).trans (.of_keeps (M := c.Mut) fun a o' hm e => (Heap.get?_update_other h3 (Obj.mapSeq (·.setIfInBounds k.toNat (Value.int x t1))) (fun q => hm (.inl q.symm))).trans e)
    exact h _ _ (W.kp kk R' hX) (kpF kk)) (hs env)
/-- feed[1] = j -/
theorem st_fset {o i value : PySem.Expr} {p p' : Pos} {j : Int} (h₁ : EvTo c n names loc σ value (.int j) σ₁) (h₂ : EvTo c n names loc σ₁ o .feed σ₂) (h₃ : EvTo c n names loc σ₂ i (.int 1) σ₃)
    (hs : ∀ env, swapsWith value (some (.Subscript o i p')) p.line env = pure false := by intro _; rfl) : St1 c n names loc σ (.Assign [.Subscript o i p'] value p) loc { σ₃ with turn := j } := fun K X ow A env s Q E hX W h =>
  wpAny_Assign_Subscript (h₁ K X ow A env s _ E hX W fun v h1 tk1 R1 k1 r1 => h₂ K X ow A env _ _ E hX (W.kp k1 R1 hX) fun v2 h2 tk2 R2 k2 r2 => h₃ K X ow A env _ _ E hX ((W.kp k1 R1 hX).kp k2 R2 hX) fun v3 h3 tk3 R3 k3 r3 => by
    simp only [Rep] at r1 r2 r3
    obtain ⟨t1, rfl⟩ := r1; subst r2; obtain ⟨t3, rfl⟩ := r3
    obtain ⟨t, m, e⟩ := R3.feed
    refine ki_setAt e (by decide) (by decide) (by simp) ?_
    have e' := Heap.get?_update_self (Obj.mapSeq (·.setIfInBounds (1 : Int).toNat (Value.int j t1))) e (by rw [mapSeq_set]; rfl)
    rw [mapSeq_set] at e'
    have R' := rel_feed (j := j) (t := t1) (m := m) R3 (fun b hb => Heap.get?_update_other _ _ (Ne.symm hb)) (by rw [e']; rfl)
    have kk : Kp c.Mut s.heap _ := ((k1.trans k2).trans k3).trans (.of_keeps (M := c.Mut) fun a o' hm e => (Heap.get?_update_other h3 (Obj.mapSeq (·.setIfInBounds (1 : Int).toNat (Value.int j t1))) (fun q => hm (.inr q.symm))).trans e)
    exact h _ _ (W.kp kk R' hX) (kpF kk)) (hs env)

/-- a list's items, drawn -/
theorem draw_list {it t : Addr} {items : Array Value} (hne : t ≠ it) : ∀ (n i : Nat) (s : Shared) (Q : List Value → Shared → Prop), s.heap.IsListIter it t i → s.heap.IsList t items → i + n ≤ items.size →
    (∀ h', h'.IsListIter it t (i + n) → Heap.SameBut it s.heap h' → Q ((items.toList.drop i).take n) { s with heap := h' }) → wpAny (model c.prog c.w) A (draw (.ref it) n) Q E s
  | 0, i, s, Q, hit, _, _, hQ => by
    show wpAny _ _ (pure []) Q E s
    exact wpAny_pure (by simpa using hQ s.heap hit (Heap.SameBut.refl ..))
  | n + 1, i, s, Q, hit, ht, hle, hQ => by
    have hlt : i < items.size := by (first | lia | omega)
    show wpAny _ _ (pyNext (.ref it) >>= _) Q E s
    refine wpAny_bind (wpAny_pyNext_list_item hit ht (x := items[i]) (by simp [hlt]) fun h₁ hit₁ hs₁ => ?_)
    refine wpAny_bind (wpAny_holding (draw_list hne n (i + 1) _ _ hit₁ (ht.extBut hs₁.extBut hne) (by (first | lia | omega)) fun h₂ hit₂ hs₂ => wpAny_pure ?_))
    have hd : items.toList.drop i = items[i] :: items.toList.drop (i + 1) := by simp [List.drop_eq_getElem_cons, hlt]
    have := hQ h₂ (by rw [show i + (n + 1) = i + 1 + n by (first | lia | omega)]; exact hit₂) (hs₁.trans hs₂)
    rw [hd, List.take_succ_cons] at this
    exact this
theorem unpackItems_list {t : Addr} {items : Array Value} {Q : List Value → Shared → Prop} (hh : A.handled = none) (ht : s.heap.IsList t items)
    (hQ : ∀ h', Heap.ExtBut s.heap.objs.size s.heap h' → Q items.toList { s with heap := h' }) : wpAny (model c.prog c.w) A (unpackItems (.ref t) items.size none) Q E s := by
  have hlt : t ≠ s.heap.objs.size := by obtain ⟨o, ho, _⟩ := ht; exact Nat.ne_of_lt (Heap.lt_size ho)
  unfold unpackItems
  refine wpAny_bind ?_
  unfold notIterableAtAll
  refine wpAny_bind (wpAny_specialOf ht.typeIs slot_list_iter.lookup ?_)
  refine wpAny_pure ?_
  simp only [Bool.false_eq_true, if_false]
  refine wpAny_bind (wpAny_holding (wpAny_pyIter_list ht ?_))
  refine wpAny_bind (wpAny_holding (draw_list hlt items.size 0 _ _ ⟨_, Heap.get?_push_size _ rfl, rfl, rfl⟩ (ht.push _) (by (first | lia | omega)) fun h₁ hit₁ hs₁ => ?_))
  have hall : List.take items.size (List.drop 0 items.toList) = items.toList := by
    rw [List.drop_zero]; exact List.take_of_length_le (by simp)
  rw [hall]
  rw [if_neg (by simp)]
  have ht₁ : h₁.IsList t items := (ht.push _).extBut hs₁.extBut hlt
  refine wpAny_bind (wpAny_holding (wpAny_pyNext_list_end hh hit₁ ht₁ (by simp) fun h₂ he₂ => ?_))
  simp only [Option.isSome_none, Bool.false_eq_true, if_false]
  exact wpAny_pure (hQ h₂ fun b o hb e => he₂ b o hb (hs₁.extBut b o hb (Heap.get?_push_of_some _ e)))

/-- x, y = feed -/
theorem st_feed {x y : Str} {xp yp tp p : Pos} {kk : Nat} {e : PySem.Expr} (h₁ : EvTo c n names loc σ e .feed σ₁) (hx : Bnd names x) (hy : Bnd names y)
    (hs : ∀ env, swapsWithSole [.Tuple [.Name x xp, .Name y yp] kk tp] e p.line env = pure false := by intro _; rfl) (hw : ∀ env : Env, env.scope.kind = .function → env.scope.names = names → swappedStores [.Tuple [.Name x xp, .Name y yp] kk tp] e env = pure none := by intro _ _ _; rfl) :
    St1 c n names loc σ (.Assign [.Tuple [.Name x xp, .Name y yp] kk tp] e p) ((y, .int σ₁.turn) :: (x, .ints σ₁.cells) :: loc) σ₁ := fun K X ow A env s Q E hX W h =>
  Assign_Tuple (h₁ K X ow A env s _ E hX W fun v h1 tk R k r => by
    simp only [Rep] at r; subst r
    obtain ⟨t, m, e1⟩ := R.feed
    rw [assign_Tuple]
    refine wpAny_bind (wpAny_standAt ?_)
    show wpAny _ _ (unpack (.ref c.Fd) (assignEach [.Name x xp, .Name y yp] env)) _ _ _
    unfold unpack
    rw [show (assignEach [.Name x xp, .Name y yp] env).findIdx? (·.1) = none from rfl, show (assignEach [PySem.Expr.Name x xp, .Name y yp] env).length = (#[Value.ref c.cl, .int σ₁.turn t] : Array Value).size from rfl]
    refine wpAny_bind (wpAny_holding (unpackItems_list (items := #[.ref c.cl, .int σ₁.turn t]) W.ok.1 ⟨_, e1, rfl, _, rfl⟩ fun h2 he => ?_))
    have k2 : ∀ b o, h1.get? b = some o → h2.get? b = some o := fun b o e => he b o (Nat.ne_of_lt (Heap.lt_size e)) e
    have R2 := rel_keeps R k2
    have kN : Kp No h1 h2 := .of_keeps fun a o _ e => k2 a o e
    have k12 : Kp c.Mut s.heap h2 := k.trans (kN.mono fun _ q => q.elim)
    have W2 := W.kp k12 R2 hX
    exact store_two (t := .ints σ₁.cells) (u := .int σ₁.turn) (s := { s with heap := h2, toks := tk }) (fun v s Q h => wpAny_assign_Name h) (fun v s Q h => wpAny_assign_Name h) hX W2 (by simp only [Rep]; exact ⟨_, rfl, R2.cells.1, R2.cells.2⟩) (by simp only [Rep]; exact ⟨t, rfl⟩) hx hy fun h3 tk3 W3 k3 => h h3 tk3 W3 ((kpF k12).trans k3)) (hs env) (hw env W.kind W.names)
end
end Mine
end
section
namespace Mine
section
variable {c : Cfg} {n : Nat} {names : List (Str × NameKind)} {loc loc' loc₁ : Loc} {σ σ' σ₁ σ₂ σ₃ : St} {P : SO → Prop} {rest : List Stmt} {X ow : Addr → Prop} {A : Around} {env : Env} {h h' h₀ : Heap} {s : Shared} {E : Value → Shared → Prop}

theorem VRep.growO {O : Addr → Prop} (hO : ∀ a, O a → h.get? a = none) {t : T} {v : Value} (r : VRep c X ow h t v) : VRep c X (Un ow O) h t v := by
  have hU : ∀ a, Un X (Un ow O) a → Un X ow a ∨ h.get? a = none := fun a q => by
    rcases q with q | q | q
    · exact .inl (.inl q)
    · exact .inl (.inr q)
    · exact .inr (hO a q)
  cases t with
  | own ts =>
    obtain ⟨a, vs, k, e, h1, h2, h3, h4⟩ := r
    exact ⟨a, vs, k, e, .inl h1, h2, h3, RepL.more hU ts vs h4⟩
  | ownO a d C fs =>
    obtain ⟨es, n, e, hx, h1, h2, h3⟩ := r
    exact ⟨es, n, e, ⟨.inl hx.1, .inl hx.2.1, hx.2.2⟩, h1, h2, h3.more hU⟩
  | ownG t os ls => exact ⟨Rep.more hU _ _ r.1, fun o q => (r.2.1 o q).more (fun a z => .inl z) hU (fun _ z => .inl z), fun l q => (r.2.2 l q).more (fun a z => .inl z) hU fun _ z => .inl z⟩
  | _ => exact Rep.more hU _ v r
/-- the frame gets objects of its own: new ones -/
theorem Act.growO {O : Addr → Prop} (W : Act c X ow A n env names loc σ h₀) (k : Kp c.Mut h₀ h) (R : RelH c (Un X ow) σ' h) (hX : ∀ a, c.Mut a → X a) (hO : ∀ a, O a → h₀.get? a = none ∧ ∃ o, h.get? a = some o) : Act c X (Un ow O) A n env names loc σ' h where
  ok := W.ok
  frs := let ⟨l, e, q⟩ := W.frs; ⟨l, e, q.kp k W.rel.mut_frame⟩
  kind := W.kind
  names := W.names
  glob := W.glob
  blt := W.blt
  excl := W.excl
  fr := by
    refine FrOk.kp (h := h₀) k hX (fun _ _ => W.rel.not_ns) (fun _ _ => W.rel.not_cell) ⟨?_, fun x t e d q => ?_, W.fr.cellAt, W.fr.apart, W.fr.has⟩
    · obtain ⟨m, a, b⟩ := W.fr.ns
      exact ⟨m, a, fun x t e d q => let ⟨v, r, s⟩ := b x t e d q; ⟨v, r, s.growO fun a z => (hO a z).1⟩⟩
    · obtain ⟨a, v, r, s, u⟩ := W.fr.cells x t e d q
      exact ⟨a, v, r, s, u.growO fun a z => (hO a z).1⟩
  rel := R.turn W.rel (fun a q => by
    rcases q with q | q | q
    · exact .inl (.inl q)
    · exact .inl (.inr q)
    · exact .inr q) (fun a q => .inl (hX a q)) hO

/-- what follows a frame's new own objects -/
theorem Post.own {ow' : Addr → Prop} {h₁ : Heap} {tk : Nat} {Q : Flow → Shared → Prop} (PR : Post c n names X ow A env h₀ s P Q E) (hn : ∀ loc σ, ¬ P (.next loc σ)) (ho : ∀ a, ow' a → ow a ∨ h₀.get? a = none) (k : Kp (MutF c env ow') h₀ h₁) (live : ∀ a o, h₀.get? a = some o → ∃ o', h₁.get? a = some o') :
    Post c n names X ow' A env h₁ { s with heap := h₁, toks := tk } P Q E := by
  have kk : ∀ {h' : Heap}, Kp (MutF c env ow') h₁ h' → Kp (MutF c env ow) h₀ h' := fun {h'} k' => Kp.fresh (k.trans k') fun a q => by
    rcases q with q | q | q | q
    · exact .inl (.inl q)
    · exact .inl (.inr (.inl q))
    · exact .inl (.inr (.inr (.inl q)))
    · exact (ho a q).imp (fun z => .inr (.inr (.inr z))) id
  refine ⟨fun loc' σ' h' tk' p => absurd p (hn _ _), fun t σ' v h' tk' p R' k' r => PR.ret t σ' v h' tk' p R' (kk k') r, fun w σ' e h' tk' p R' k' F nx => PR.exc w σ' e h' tk' p R' (kk k') F ?_⟩
  have old : ∀ b, h₁.get? b = none → h₀.get? b = none := fun b z => by
    cases q : h₀.get? b with
    | none => rfl
    | some o => obtain ⟨o', y⟩ := live b o q; exact (off_none y z).elim
  exact ⟨old _ nx.1, fun oe vs T e1 e2 e3 => old _ (nx.2 oe vs T e1 e2 e3)⟩

/-- found = [] -/
theorem ex_own_nil {x : Str} {xp lp p : Pos} (hx : Bnd names x) (hn : ∀ loc σ, ¬ P (.next loc σ)) (hr : Ex c n names ((x, .own []) :: loc) σ rest P) (hsw : ∀ env, swapsWith (.List [] lp) (some (.Name x xp)) p.line env = pure false := by intro _; rfl) :
    Ex c n names loc σ (.Assign [.Name x xp] (.List [] lp) p :: rest) P := fun K X ow A env s Q E hX W PR => by
  refine wpAny_execs_cons (wpAny_Assign_Name (wpAny_List (wpAny_items_nil ⟨Nat.zero_le _, ?_⟩)) (hsw env))
  let ob : Obj := { cls := .type "list", data := .seq ([] : List Value).toArray }
  have k1 : Kp c.Mut s.heap (s.heap.push ob) := Kp.push ob
  have eD : (s.heap.push ob).get? s.heap.objs.size = some ob := Heap.get?_push_size _ rfl
  have hO : ∀ a, a = s.heap.objs.size → s.heap.get? a = none ∧ ∃ o, (s.heap.push ob).get? a = some o := fun a q => by rw [q]; exact ⟨size_none _, _, eD⟩
  have W1 : Act c X (Un ow (· = s.heap.objs.size)) A n env names loc σ (s.heap.push ob) := W.growO k1 (rel_push W.rel ob) hX hO
  have hDX : ¬ X s.heap.objs.size := fun q => rel_not_size W.rel (.inl q)
  refine store_var (t := .own []) (s := { s with heap := s.heap.push ob }) hX W1 ⟨_, [], 0, rfl, .inr rfl, hDX, eD, by simp only [RepL]⟩ hx fun h2 tk2 W2 k2 _ => ?_
  have kf : Kp (MutF c env (Un ow (· = s.heap.objs.size))) s.heap h2 := (kpF k1).trans (kpL k2)
  refine hr K X _ A env _ Q E hX W2 (PR.own hn (fun a q => q.imp id fun z => (hO a z).1) kf fun a o e => ?_)
  exact W2.liveF (fun a q => .inr q) (kpL k2) a o (Heap.get?_push_of_some _ e)

noncomputable def isOwn : T → Bool
  | .own _ => true
  | .ownO .. => true
  | .ownG .. => true
  | _ => false
theorem VRep.plain {t : T} {v : Value} (h0 : isOwn t = false) (r : VRep c X ow h t v) : Rep c (Un X ow) h t v := by
  cases t <;> first | exact r | cases h0

theorem ns_eq {L : Addr} {m m' : Str → Option Value} (a : h.Ns L m) (b : h.Ns L m') (x : Str) : m x = m' x := by
  obtain ⟨o, es, ep, ho, hd, _, hf⟩ := a
  obtain ⟨o', es', ep', ho', hd', _, hf'⟩ := b
  rw [ho] at ho'; cases ho'
  rw [hd] at hd'; cases hd'
  rw [← hf, ← hf']
/-- an own object has changed: what is known of it, and of the rest -/
theorem Act.chg {D : Addr} {x₀ : Str} {t₀ t₁ : T} (hX : ∀ a, c.Mut a → X a) (W : Act c X ow A n env names loc σ h) (k : ∀ a o, a ≠ D → h.get? a = some o → h'.get? a = some o) (hD : ow D) (hDX : ¬ X D) (hf : ∀ o, h.get? D = some o → o.cls ≠ .type "frame") (live : ∃ o, h'.get? D = some o)
    (hx : names.lookup x₀ = some .local) (hl : loc.lookup x₀ = some t₀) (h0 : t₀ ≠ .dead) (hv : ∀ m v, h.Ns env.locals m → m x₀ = some v → VRep c X ow h t₀ v → VRep c X ow h' t₁ v) (hs : Sub loc loc') (hno : ∀ p ∈ loc', isOwn p.2 = false) : Act c X ow A n env names ((x₀, t₁) :: loc') σ h' := by
  have kp : Kp (· = D) h h' := .of_keeps fun a o hm e => k a o hm e
  have hU : ∀ a, a = D → Un X ow a := fun a q => by rw [q]; exact .inr hD
  have hk' : env.kindOf x₀ = some .local := by show env.scope.names.lookup x₀ = _; rw [W.names]; exact hx
  have rr : ∀ y t v, loc'.lookup y = some t → VRep c X ow h t v → VRep c X ow h' t v := fun y t v e r => VRep.of (Rep.kp kp hU _ _ (r.plain (hno _ (mem_of_lookup e))))
  refine ⟨W.ok, ?_, W.kind, W.names, W.glob, W.blt, W.excl, ⟨?_, fun y t e d q => ?_, fun y a q => ?_, W.fr.apart, W.fr.has⟩, rel_upd W.rel (M := (· = D)) (fun a o hm e => k a o hm e) (fun a q => ⟨hU a q, fun z => hDX (by rw [q] at z; exact hX D z)⟩) fun a q => by rw [q]; exact live⟩
  · obtain ⟨l, e, f⟩ := W.frs
    exact ⟨l, e, f.kp kp fun a q o e => by rw [q] at e; exact hf o e⟩
  · obtain ⟨m, hn, hm⟩ := W.fr.ns
    refine ⟨m, ns_kp kp (fun q => hDX (q ▸ W.excl _ (.inl rfl))) hn, fun y t e d q => ?_⟩
    by_cases hy : y = x₀
    · subst hy
      rw [lookup_cons_eq] at e; cases e
      obtain ⟨v, e1, e2⟩ := hm y t₀ hl h0 q
      exact ⟨v, e1, hv m v hn e1 e2⟩
    · rw [lookup_cons_ne hy] at e
      obtain ⟨v, e1, e2⟩ := hm y t (hs.at y t e d) d q
      exact ⟨v, e1, rr y t v e e2⟩
  · have hy : y ≠ x₀ := fun z => by subst z; rw [hk'] at q; rcases q with q | q <;> cases q
    rw [lookup_cons_ne hy] at e
    obtain ⟨a, v, e1, e2, e3⟩ := W.fr.cells y t (hs.at y t e d) d q
    exact ⟨a, v, e1, cell_kp kp (fun z => hDX (z ▸ W.excl _ (.inr ⟨y, mem_of_lookup e1⟩))) e2, rr y t v e e3⟩
  · obtain ⟨v, e⟩ := W.fr.cellAt y a q
    exact ⟨v, cell_kp kp (fun z => hDX (z ▸ W.excl _ (.inr ⟨y, q⟩))) e⟩

theorem RepL.set : ∀ (ts : List T) (vs : List Value) (i : Nat) (t : T) (v : Value), RepL c X h ts vs → Rep c X h t v → RepL c X h (ts.set i t) (vs.set i v)
  | [], vs, i, t, v, r, _ => by simp only [RepL] at r; subst r; simp only [List.set_nil, RepL]
  | u :: ts, vs, 0, t, v, r, q => by
    simp only [RepL] at r
    obtain ⟨w, r', rfl, _, h2⟩ := r
    simp only [List.set_cons_zero, RepL]
    exact ⟨v, r', rfl, q, h2⟩
  | u :: ts, vs, i + 1, t, v, r, q => by
    simp only [RepL] at r
    obtain ⟨w, r', rfl, h1, h2⟩ := r
    simp only [List.set_cons_succ, RepL]
    exact ⟨w, _, rfl, h1, RepL.set ts r' i t v h2 q⟩

/-- found.append(e) -/
theorem st_append {x : Str} {xp ap p p₂ : Pos} {e : PySem.Expr} {ts : List T} {t : T} (hl : loc.lookup x = some (.own ts)) (hx : names.lookup x = some .local) (h₁ : EvTo c n names loc σ e t σ₁) (hs : Sub loc loc') (hno : ∀ p ∈ loc', isOwn p.2 = false) (hz : ts.length ≤ sizeLine)
    (hline : (ap.endLine == p.line) = true := by rfl)
    (hb : ∀ env, attributeBase (.Name x xp) "append" env (eval (.Name x xp) env) = eval (.Name x xp) env := by intro _; rfl)
    (hfew : ∀ env, ((backTo p (starEach [e] env)).all (fun x => !x.1) && (backToKw p (keywordEach [] env)).all (fun x => x.1.isSome) && decide (([e] : List PySem.Expr).length + ([] : List Keyword).length + (if ([] : List Keyword).isEmpty then 0 else 1) < 30)) = true := by intro _; rfl)
    (ht : ∀ env, backTo p (starEach [e] env) = [(false, eval e env)] := by intro _; rfl) (hd : (x == ("__debug__" : Str)) = false := by decide)
    (hsw : ∀ env, swapsWith (.Call (.Attribute (.Name x xp) "append" ap) [e] [] p) none p₂.line env = pure false := by intro _; rfl) :
    St1 c n names loc σ (.Expr (.Call (.Attribute (.Name x xp) "append" ap) [e] [] p) p₂) ((x, .own (ts ++ [t])) :: loc') σ₁ := fun K X ow A env s Q E hX W h => by
  have hk' : env.kindOf x = some .local := by show env.scope.names.lookup x = _; rw [W.names]; exact hx
  obtain ⟨m, hn, hm⟩ := W.fr.ns
  obtain ⟨v, hv, D, vs, k, rfl, hD, hDX, eD, rD⟩ := hm x _ hl (by simp) hk'
  refine wpAny_Expr_any (wpAny_Call_append (hb env) (hfew env) hline (ht env) (wpAny_Name (wpAny_loadName_local W.kind hk' hn hv ⟨D, vs.toArray, rfl, ⟨_, k, eD, rfl, rfl, rfl⟩, ?_⟩) hd)) (by show (env.scope.kind == .module && _) = false; rw [W.kind]; rfl) (hsw env)
  refine h₁ K X ow A env s _ E hX W fun y h2 tk R2 k2 r2 => ?_
  have Dm : ¬ c.Mut D := fun q => hDX (hX D q)
  have e2 := k2.get Dm eD list_cls
  refine wpAny_list_append_plain (hsz := by rw [List.size_toArray, RepL.length _ _ rD]; exact hz) ⟨k, e2⟩ fun h3 hl3 hs3 => ?_
  obtain ⟨k3, e3⟩ := hl3
  have kx : ∀ a o, a ≠ D → h2.get? a = some o → h3.get? a = some o := fun a o hne e => (hs3.2 a hne).trans e
  have W2 := W.kp k2 R2 hX
  have kp3 : Kp (· = D) h2 h3 := .of_keeps fun a o hm e => kx a o hm e
  have uD : ∀ a, a = D → Un X ow a := fun a q => by rw [q]; exact .inr hD
  refine h h3 tk (W2.chg hX kx hD hDX (fun o e => by rw [e2] at e; cases e; exact list_cls) ⟨_, e3⟩ hx hl (by simp) (fun m' v' hn' hv' r' => ?_) hs hno) ((kpF k2).trans (kp3.mono fun a q => .inr (.inr (.inr (by rw [q]; exact hD)))))
  have hv'' : m x = some v' := by rw [ns_eq (ns_kp k2 (W.rel.not_ns hn) hn) hn' x]; exact hv'
  rw [hv] at hv''; cases hv''
  obtain ⟨D', vs', k', e, hD', hDX', eD', rD'⟩ := r'
  cases e
  rw [e2] at eD'; cases eD'
  refine ⟨D, vs ++ [y], k3, rfl, hD, hDX, by rw [e3]; simp, RepL.append _ _ _ _ (RepL.kp kp3 uD _ _ ?_) (by simp only [RepL]; exact ⟨y, [], rfl, Rep.kp kp3 uD _ _ r2, rfl⟩)⟩
  exact RepL.kp k2 (unX hX) _ _ rD

/-- found[i] = e -/
theorem st_oset {x : Str} {xp p p' : Pos} {i value : PySem.Expr} {ts : List T} {t : T} {k : Int} (hl : loc.lookup x = some (.own ts)) (hx : names.lookup x = some .local) (h₁ : EvTo c n names loc σ value t σ₁) (h₂ : EvTo c n names loc σ₁ i (.int k) σ₂) (h0 : 0 ≤ k) (hk : k < ts.length) (hz : ts.length < 2 ^ 62) (hs : Sub loc loc') (hno : ∀ p ∈ loc', isOwn p.2 = false)
    (hd : (x == ("__debug__" : Str)) = false := by decide) (hsw : ∀ env, swapsWith value (some (.Subscript (.Name x xp) i p')) p.line env = pure false := by intro _; rfl) :
    St1 c n names loc σ (.Assign [.Subscript (.Name x xp) i p'] value p) ((x, .own (ts.set k.toNat t)) :: loc') σ₂ := fun K X ow A env s Q E hX W h => by
  have hk' : env.kindOf x = some .local := by show env.scope.names.lookup x = _; rw [W.names]; exact hx
  refine wpAny_Assign_Subscript (h₁ K X ow A env s _ E hX W fun y h1 tk1 R1 k1 r1 => ?_) (hsw env)
  have W1 := W.kp k1 R1 hX
  obtain ⟨m, hn, hm⟩ := W1.fr.ns
  obtain ⟨v, hv, D, vs, kk, rfl, hD, hDX, eD, rD⟩ := hm x _ hl (by simp) hk'
  refine wpAny_Name (wpAny_loadName_local W.kind hk' hn hv ?_) hd
  refine h₂ K X ow A env _ _ E hX W1 fun iv h2 tk2 R2 k2 r2 => ?_
  have Dm : ¬ c.Mut D := fun q => hDX (hX D q)
  have e2 := k2.get Dm eD list_cls
  simp only [Rep] at r2
  obtain ⟨ti, rfl⟩ := r2
  have hlen := RepL.length _ _ rD
  refine ki_setAt e2 h0 (by (first | lia | omega)) (by rw [List.size_toArray, hlen]; exact hk) ?_
  have e3 := Heap.get?_update_self (Obj.mapSeq (·.setIfInBounds k.toNat y)) e2 (by rw [mapSeq_set]; rfl)
  rw [mapSeq_set] at e3
  have kx : ∀ a o, a ≠ D → h2.get? a = some o → (h2.update D (Obj.mapSeq (·.setIfInBounds k.toNat y))).get? a = some o := fun a o hne e => (Heap.get?_update_other _ _ (Ne.symm hne)).trans e
  have W2 := W1.kp k2 R2 hX
  have kp3 : Kp (· = D) h2 (h2.update D (Obj.mapSeq (·.setIfInBounds k.toNat y))) := .of_keeps fun a o hm e => kx a o hm e
  have uD : ∀ a, a = D → Un X ow a := fun a q => by rw [q]; exact .inr hD
  refine h _ _ (W2.chg hX kx hD hDX (fun o e => by rw [e2] at e; cases e; exact list_cls) ⟨_, e3⟩ hx hl (by simp) (fun m' v' hn' hv' r' => ?_) hs hno) ((kpF (k1.trans k2)).trans (kp3.mono fun a q => .inr (.inr (.inr (by rw [q]; exact hD)))))
  have hv'' : m x = some v' := by rw [ns_eq (ns_kp k2 (W1.rel.not_ns hn) hn) hn' x]; exact hv'
  rw [hv] at hv''; cases hv''
  obtain ⟨D', vs', k', e, hD', hDX', eD', rD'⟩ := r'
  cases e
  rw [e2] at eD'; cases eD'
  refine ⟨D, vs.set k.toNat y, kk, rfl, hD, hDX, by rw [e3]; simp, RepL.set _ _ _ _ _ (RepL.kp kp3 uD _ _ (RepL.kp k2 (unX hX) _ _ rD)) (Rep.kp kp3 uD _ _ (Rep.kp k2 (unX hX) _ _ r1))⟩

/-- found = [ ... ], its items bools, the list the frame's own -/
theorem ex_own_comp {y : Str} {yp p : Pos} {elt target iter : PySem.Expr} {ifs : List PySem.Expr} {scope : Scope} {pos : Pos} {cnames : List (Str × NameKind)} {cap : Loc} {bs : List Loc} {l : List Bool}
    (h₁ : IterTo c n names loc σ iter target bs σ₁) (O : CompOk names cnames scope loc cap target) (hel : ElsTo c n cnames cap ifs elt bs σ₁ (l.map .bool) σ₂) (hsub : ∀ b ∈ bs, Sub (b ++ cap) cap) (hsz : bs.length ≤ sizeLine)
    (hy : names.lookup y = some .local) (hn : ∀ loc σ, ¬ P (.next loc σ)) (hr : Ex c n names ((y, .own (l.map .bool)) :: loc) σ₂ rest P)
    (hsw : ∀ env : Env, env.scope.kind = .function → env.scope.names = names → swapsWith (.ListComp elt [⟨target, iter, ifs, 0⟩] scope pos) (some (.Name y yp)) p.line env = pure true)
    (hs : ∀ env x, foldedSetIterable iter env x = pure x := by intro _ _; rfl) : Ex c n names loc σ (.Assign [.Name y yp] (.ListComp elt [⟨target, iter, ifs, 0⟩] scope pos) p :: rest) P := fun K X ow A env s Q E hX W PR => by
  refine wpAny_execs_cons ?_
  rw [exec_Assign_Name_used _ _ _ _ (hsw env W.kind W.names)]
  refine wpAny_bind (wpAny_standAt (wpAny_bind ?_))
  show wpAny _ A (do let _ ← comprehension (.ListComp elt [⟨target, iter, ifs, 0⟩] scope pos) scope env _ (newList []) false (eval iter env) (some (assign (.Name y yp) env))) _ _ s
  refine wpAny_bind (wpAny_mono (comp_core (use := some (assign (.Name y yp) env)) (Q := fun _ s' => wpAny (model c.prog c.w) A (execs rest env) Q E s') h₁ O hel hsub hsz (hs env) K hX W fun C D m h' tk nC nD hCD hm W' k r => ?_) (fun _ s' hq => wpAny_pure (wpAny_pure hq)) fun _ _ e => e)
  have bD : s.heap.get? D = none := by
    cases q : s.heap.get? D with
    | none => rfl
    | some o => exact (nD o q).elim
  simp only [Rep] at r
  obtain ⟨D', vs, j, e, hxD, eD, rl⟩ := r
  cases e
  have hvs := repL_bools l vs rl
  have R0 : RelH c (Un X ow) σ₂ h' := W'.rel.anti (fun a q => q.elim (fun q => .inl (.inl q)) .inr) (fun a q => .inl (hX a q))
  have W1 : Act c X (Un ow (· = D)) A n env names loc σ₂ h' := W.growO k R0 hX fun a q => by rw [q]; exact ⟨bD, _, eD⟩
  have W1C : Act c (Un X (· = C)) (Un ow (· = D)) A n env names loc σ₂ h' := by
    have W0 : Act c X (Un ow (· = D)) A n env names loc σ₂ h' := W1
    have oC : ∃ o, h'.get? C = some o := let ⟨o, _, _, e, _⟩ := hm; ⟨o, e⟩
    -- grow the other way round: first shut C out at the start
    have R1 : RelH c (Un (Un X (· = C)) (Un ow (· = D))) σ₂ h' := R0.turn (N := fun a => a = C ∨ a = D) W.rel (fun a q => by
      rcases q with (q | q) | q | q
      · exact .inl (.inl q)
      · exact .inr (.inl q)
      · exact .inl (.inr q)
      · exact .inr (.inr q)) (fun a q => .inl (.inl (hX a q))) fun a q => by
        rcases q with q | q
        · rw [q]; exact ⟨nC, oC⟩
        · rw [q]; exact ⟨bD, _, eD⟩
    refine ⟨W0.ok, W0.frs, W0.kind, W0.names, W0.glob, W0.blt, fun a q => .inl (W0.excl a q), ?_, R1⟩
    refine FrOk.kp (h := s.heap) k (fun a q => .inl (hX a q)) (fun _ _ => W.rel.not_ns) (fun _ _ => W.rel.not_cell) (FrOk.turn (X := X) (ow := Un ow (· = D)) ⟨?_, fun x t e d q => ?_, W.fr.cellAt, W.fr.apart, W.fr.has⟩ fun t v r => r.more fun a q => q.imp id fun z => by rw [z]; exact nC)
    · obtain ⟨m, a, b⟩ := W.fr.ns
      exact ⟨m, a, fun x t e d q => let ⟨v, r, s⟩ := b x t e d q; ⟨v, r, s.growO fun a z => by rw [z]; exact bD⟩⟩
    · obtain ⟨a, v, r, s, u⟩ := W.fr.cells x t e d q
      exact ⟨a, v, r, s, u.growO fun a z => by rw [z]; exact bD⟩
  have hXC : ∀ a, c.Mut a → Un X (· = C) a := fun a z => .inl (hX a z)
  have hDX : ¬ Un X (· = C) D := fun q => q.elim (fun q => let ⟨o, e⟩ := W.rel.live D (.inl q); off_none e bD) fun q => hCD q.symm
  refine wpAny_assign_Name (store_var3 (t := .own (l.map .bool)) (s := { s with heap := h', toks := tk }) hXC W1C ⟨D, vs, j, rfl, .inr rfl, hDX, eD, by
    subst hvs
    clear rl eD hel hr
    induction l with
    | nil => simp only [List.map_nil, RepL]
    | cons b l ih => simp only [List.map_cons, RepL]; exact ⟨_, _, rfl, by simp only [Rep], ih⟩⟩ (.inl hy) fun h2 tk2 W2 k2 _ kl _ => ?_)
  have hd : ∀ a, Un X ow a → a ∉ [C] := fun a z q => by
    obtain rfl := List.mem_singleton.mp q
    obtain ⟨o, e⟩ := W.rel.live a z
    exact off_none e nC
  have hLC : C ≠ env.locals := fun z => hd _ (.inl (W.excl _ (.inl z))) (by simp)
  refine ⟨m, ns_kp (kl hy) hLC hm, fun h3 hs3 => ?_⟩
  have kC : Kx [C] h2 h3 := fun b o hb e => hs3.extBut b o (fun z => hb (by simp [z])) e
  have WR : WrOk c (Un X (· = C)) env A [C] := W.wrOk fun a z => by obtain rfl := List.mem_singleton.mp z; exact ⟨rfl, nC⟩
  have hd' : ∀ a, Un X (Un ow (· = D)) a → a ∉ [C] := fun a z q => by
    rcases z with z | z | z
    · exact hd a (.inl z) q
    · exact hd a (.inr z) q
    · obtain rfl := List.mem_singleton.mp q; exact hCD z
  have W3 : Act c X (Un ow (· = D)) A n env names ((y, .own (l.map .bool)) :: loc) σ₂ h3 := W2.offTo (fun a z => .inl z) hX W.excl WR hd' (fun a z q => by obtain rfl := List.mem_singleton.mp z; obtain ⟨o, e⟩ := W.rel.epl _ q; exact off_none e nC) kC
  have kf : Kp (MutF c env (Un ow (· = D))) s.heap h3 := by
    refine Kp.fresh (M' := fun a => MutF c env (Un ow (· = D)) a ∨ a ∈ [C]) ?_ fun a z => z.imp id fun z => by obtain rfl := List.mem_singleton.mp z; exact nC
    exact (((kpF k).trans (kpL k2)).mono fun a z => .inl z).trans (kC.kp.mono fun a z => .inr z)
  have lv : ∀ a o, s.heap.get? a = some o → ∃ o', h3.get? a = some o' := W3.liveF (fun a q => .inr q) kf
  exact hr K X _ A env _ Q E hX W3 (PR.own hn (fun a q => q.imp id fun z => by rw [z]; exact bD) kf lv)
end
end Mine
end
section
namespace Mine
section
variable {c : Cfg} {n : Nat} {names : List (Str × NameKind)} {loc loc' loc₁ : Loc} {σ σ' σ₁ σ₂ σ₃ : St} {P : SO → Prop} {rest : List Stmt} {X ow : Addr → Prop} {A : Around} {env : Env} {h h' h₀ : Heap} {s : Shared} {E : Value → Shared → Prop}

noncomputable def SetOk (K : Frag) (C : Addr) (x : Str) : Prop := findIn K (.ref C) "__setattr__" = some (some (.builtin "object.__setattr__")) ∧ plainOver K C = true ∧ takerIn K C x = some none ∧ hasDictIn K C = true

theorem setA {Q : Unit → Shared → Prop} {x dx C : Addr} {es : List DictEntry} {k : Nat} {name : Str} {v : Value} (X : c.K.In s.heap) (so : SetOk c.K C name) (h1 : s.heap.get? x = some (instObj C dx)) (h2 : s.heap.get? dx = some (dictOf es k)) (hl : (getL name es).isSome = true) (hz : es.length < 1000)
    (h : ∀ h' tk hs tk', h'.get? dx = some (dictOf (putL name hs (.str name tk') v es) (putN name es k)) → (∀ a, a ≠ dx → h'.get? a = s.heap.get? a) → Q () { s with heap := h', toks := tk }) :
    wpAny (model c.prog c.w) A (setAttr (.ref x) name v) Q E s := by
  obtain ⟨hs, hp, ht, hh⟩ := so
  have I : PySem.W.InstAt s.heap x (instObj C dx) C (some (dictOf es k)) := inst_at h1 h2
  refine set_plain X I hs ?_
  refine osa_open (s := { s with toks := s.toks + 1 }) X I hp ht fun b => ?_
  obtain ⟨cd, hc, hd'⟩ := any_some hh
  have e := putName_dict name (PyData.keyHash c.w.params name) (.str name (s.toks + 1)) v es k
  have hf : (Obj.putName name (PyData.keyHash c.w.params name) (.str name (s.toks + 1)) v (dictOf es k)).isFreed = false := by rw [e]; rfl
  have D' := Heap.get?_update_self (Obj.putName name (PyData.keyHash c.w.params name) (.str name (s.toks + 1)) v) h2 hf
  rw [e] at D'
  refine wpAny_bind (wpAny_pure (wpAny_bind (wpAny_bind (wpAny_loadPart h1 (wpAny_bind (Looks.here (s := { s with toks := s.toks + 1 }) (looks_clsIn X hc) ?_))))))
  rw [hd']
  refine wpAny_pure (a := some dx) (wpAny_bind (wpAny_pure (wpAny_bind ?_)))
  unfold nsSet
  refine wpAny_bind (wpAny_bind (wpAny_askSetting (wpAny_pure (wpAny_bind (wpAny_mkText (wpAny_bind (wpAny_loadPart h2 ?_)))))))
  have hl' : (lookIn name (dictOf es k)).isSome = true := hl
  have cc : (!es.toArray.any (·.key.isStr name) && es.toArray.any (·.refKey)) = false := by
    rw [← Array.any_toList, ← Array.any_toList]
    unfold getL at hl
    split at hl
    · rename_i en he
      rw [List.any_eq_true.mpr ⟨en, List.mem_of_find?_eq_some he, List.find?_some he⟩]; rfl
    · split at hl
      · cases hl
      · rename_i z; rw [Bool.not_eq_true] at z; simp [z]
  dsimp only
  rw [aRefKeyMayBeTheName_at, cc]
  refine wpAny_updatePart h2 ?_
  have hput : (putL name (PyData.keyHash c.w.params name) (.str name (s.toks + 1)) v es).length ≤ es.length + 1 := by
    have : ∀ es : List DictEntry, (putL name (PyData.keyHash c.w.params name) (.str name (s.toks + 1)) v es).length ≤ es.length + 1 := by
      intro es
      induction es with
      | nil => simp [putL]
      | cons e r ih => simp only [putL]; split <;> simp_all
    exact this es
  refine wpAny_bind (wpAny_lookBehind D' (pastItsLine_dict (by rw [List.size_toArray, sizeLine_eq]; (first | lia | omega))) ?_)
  exact wpAny_pure (h _ _ _ _ D' fun a ha => Heap.get?_update_other _ _ (Ne.symm ha))

noncomputable def putF (name : Str) (t : T) : List (Str × T) → List (Str × T)
  | [] => [(name, t)]
  | (f, u) :: r => if f = name then (f, t) :: r else (f, u) :: putF name t r

theorem isStr_iff {k : Value} {x : Str} (h : k.isStr x = true) : ∃ t, k = .str x t := by
  cases k <;> first | (simp only [Value.isStr] at h; cases h; done) | skip
  rename_i y t
  have : y = x := by simpa [Value.isStr] using h
  exact ⟨t, by rw [this]⟩
theorem isStr_self {x : Str} {t : Tok} : (Value.str x t).isStr x = true := by simp [Value.isStr]
theorem isStr_ne {x y : Str} {t : Tok} (h : x ≠ y) : (Value.str x t).isStr y = false := by simp [Value.isStr, h]

theorem find_putL_same {name : Str} {hs : Int} {tk : Tok} {v : Value} : ∀ es : List DictEntry, ∃ e, (putL name hs (.str name tk) v es).find? (fun x => x.key.isStr name) = some e ∧ e.val = v
  | [] => by simp only [putL, List.find?_cons, isStr_self]; exact ⟨_, rfl, rfl⟩
  | e :: r => by
    simp only [putL]
    cases h : e.key.isStr name with
    | true => simp only [if_true, List.find?_cons, h]; exact ⟨_, rfl, rfl⟩
    | false =>
      simp only [Bool.false_eq_true, if_false, List.find?_cons, h]
      exact find_putL_same r
theorem find_putL_ne {name f : Str} {hs : Int} {tk : Tok} {v : Value} (hne : f ≠ name) : ∀ es : List DictEntry, (putL name hs (.str name tk) v es).find? (fun x => x.key.isStr f) = es.find? (fun x => x.key.isStr f)
  | [] => by simp only [putL, List.find?_cons, isStr_ne (Ne.symm hne), List.find?_nil]
  | e :: r => by
    simp only [putL]
    cases h : e.key.isStr name with
    | true =>
      obtain ⟨t, ht⟩ := isStr_iff h
      simp only [if_true, List.find?_cons, ht, isStr_ne (Ne.symm hne)]
    | false =>
      simp only [Bool.false_eq_true, if_false, List.find?_cons]
      rw [find_putL_ne hne r]
theorem putL_len_in {name : Str} {hs : Int} {key v : Value} : ∀ es : List DictEntry, (es.find? (fun x => x.key.isStr name)).isSome = true → (putL name hs key v es).length = es.length
  | [], h => by simp at h
  | e :: r, h => by
    simp only [putL]
    rw [List.find?_cons] at h
    cases q : e.key.isStr name with
    | true => simp
    | false => rw [q] at h; simp only [Bool.false_eq_true, if_false, List.length_cons]; rw [putL_len_in r h]
theorem putL_len {name : Str} {hs : Int} {key v : Value} : ∀ es : List DictEntry, (putL name hs key v es).length ≤ es.length + 1
  | [] => by simp [putL]
  | e :: r => by
    simp only [putL]
    split
    · simp
    · simp only [List.length_cons]; have := putL_len (name := name) (hs := hs) (key := key) (v := v) r; (first | lia | omega)
theorem putF_len_out {name : Str} {t : T} : ∀ fs : List (Str × T), (∀ p ∈ fs, p.1 ≠ name) → (putF name t fs).length = fs.length + 1
  | [], _ => rfl
  | (f, u) :: r, h => by
    simp only [putF]
    rw [if_neg (show f ≠ name from h (f, u) (by simp)), List.length_cons, putF_len_out r (fun p q => h p (by simp [q]))]
    rfl
theorem putF_len {name : Str} {t : T} : ∀ fs : List (Str × T), fs.length ≤ (putF name t fs).length
  | [] => by simp [putF]
  | (f, u) :: r => by
    simp only [putF]
    split
    · simp
    · simp only [List.length_cons]; have := putF_len (name := name) (t := t) r; (first | lia | omega)
theorem putF_mem {name : Str} {t : T} : ∀ (fs : List (Str × T)) (p : Str × T), p ∈ putF name t fs → p = (name, t) ∨ (p ∈ fs)
  | [], p, h => by simp only [putF, List.mem_singleton] at h; exact .inl h
  | (f, u) :: r, p, h => by
    simp only [putF] at h
    split at h
    · rename_i e
      rcases List.mem_cons.mp h with q | q
      · exact .inl (by rw [q, e])
      · exact .inr (List.mem_cons_of_mem _ q)
    · rcases List.mem_cons.mp h with q | q
      · exact .inr (by rw [q]; exact List.mem_cons_self)
      · exact (putF_mem r p q).imp id (List.mem_cons_of_mem _)
theorem putL_refKey {name : Str} {hs : Int} {tk : Tok} {v : Value} : ∀ es : List DictEntry, (∀ e ∈ es, e.refKey = false) → ∀ e ∈ putL name hs (.str name tk) v es, e.refKey = false
  | [], _, e, h => by simp only [putL, List.mem_singleton] at h; rw [h]; rfl
  | d :: r, hr, e, h => by
    simp only [putL] at h
    split at h
    · rcases List.mem_cons.mp h with q | q
      · rw [q]; exact hr d (by simp)
      · exact hr e (by simp [q])
    · rcases List.mem_cons.mp h with q | q
      · rw [q]; exact hr d (by simp)
      · exact putL_refKey r (fun e q => hr e (by simp [q])) e q

theorem FsOk.put {Y : Addr → Prop} {fs : List (Str × T)} {es : List DictEntry} {name : Str} {t : T} {v : Value} {hs : Int} {tk : Tok} (r : FsOk c Y h fs es) (hv : handedIn v = true) (hr : Rep c Y h t v) (hd : ∀ p ∈ putF name t fs, p.1 = name → p = (name, t)) :
    FsOk c Y h (putF name t fs) (putL name hs (.str name tk) v es) := by
  have key : ∀ f, ∀ w, getL f es = some (some w) → ∃ e, es.find? (fun x => x.key.isStr f) = some e ∧ e.val = w := fun f w e => by
    unfold getL at e
    split at e
    · rename_i en he; cases e; exact ⟨en, he, rfl⟩
    · split at e <;> cases e
  refine ⟨?_, putL_refKey es r.2.1, fun p hp => ?_⟩
  · by_cases hin : ∃ p ∈ fs, p.1 = name
    · obtain ⟨p, hp, e⟩ := hin
      obtain ⟨w, g, _⟩ := r.2.2 p hp
      obtain ⟨en, he, _⟩ := key _ _ g
      rw [e] at he
      rw [putL_len_in es (by rw [he]; rfl)]
      exact Nat.le_trans r.1 (putF_len fs)
    · rw [putF_len_out fs (fun p hp e => hin ⟨p, hp, e⟩)]
      exact Nat.le_trans (putL_len es) (Nat.succ_le_succ r.1)
  · by_cases hn : p.1 = name
    · rw [hd p hp hn]
      obtain ⟨e, he, hev⟩ := find_putL_same (name := name) (hs := hs) (tk := tk) (v := v) es
      exact ⟨v, by unfold getL; rw [he]; dsimp only; rw [hev], hv, hr⟩
    · rcases putF_mem fs p hp with q | q
      · exact absurd (by rw [q]) hn
      · obtain ⟨w, g, i, z⟩ := r.2.2 p q
        obtain ⟨en, he, hev⟩ := key _ _ g
        exact ⟨w, by unfold getL; rw [find_putL_ne hn es, he]; dsimp only; rw [hev], i, z⟩
theorem getL_some {Y : Addr → Prop} {fs : List (Str × T)} {es : List DictEntry} (r : FsOk c Y h fs es) (name : Str) : (getL name es).isSome = true := by
  unfold getL
  split
  · rfl
  · rw [if_neg]
    · rfl
    · rw [Bool.not_eq_true, List.any_eq_false]
      intro e he
      rw [r.2.1 e he]; simp
theorem rep_handed {Y : Addr → Prop} {t : T} {v : Value} (h0 : t ≠ .dead) (r : Rep c Y h t v) : handedIn v = true := by
  cases t <;> simp only [Rep] at r
  · rw [r]; rfl
  · rw [r]; rfl
  · obtain ⟨_, rfl⟩ := r; rfl
  · obtain ⟨_, rfl⟩ := r; rfl
  · obtain ⟨_, rfl, _⟩ := r; rfl
  · obtain ⟨_, rfl, _⟩ := r; rfl
  · obtain ⟨_, rfl, _⟩ := r; rfl
  · obtain ⟨_, _, _, rfl, _⟩ := r; rfl
  · obtain ⟨_, _, rfl, _⟩ := r; rfl
  · obtain ⟨_, _, rfl, _⟩ := r; rfl
  · rw [r]; rfl
  · rw [r]; rfl
  · rw [r]; rfl
  · exact absurd rfl h0
  · rw [r]; rfl

/-- x.f = e, where x is the frame's own -/
theorem st_oattr {x f : Str} {xp p p' : Pos} {e : PySem.Expr} {a d C : Addr} {fs : List (Str × T)} {t : T} (so : SetOk c.K C f) (hl : loc.lookup x = some (.ownO a d C fs)) (hx : names.lookup x = some .local) (h₁ : EvTo c n names loc σ e t σ₁) (ht : t ≠ .dead) (hz : fs.length < 900)
    (hdup : ∀ p ∈ putF f t fs, p.1 = f → p = (f, t)) (hs : Sub loc loc') (hno : ∀ p ∈ loc', isOwn p.2 = false) (hd : (x == ("__debug__" : Str)) = false := by decide)
    (hsw : ∀ env, swapsWith e (some (.Attribute (.Name x xp) f p')) p.line env = pure false := by intro _; rfl) :
    St1 c n names loc σ (.Assign [.Attribute (.Name x xp) f p'] e p) ((x, .ownO a d C (putF f t fs)) :: loc') σ₁ := fun K X ow A env s Q E hX W h => by
  have hk' : env.kindOf x = some .local := by show env.scope.names.lookup x = _; rw [W.names]; exact hx
  refine plainObj_wpAny_Assign_Attribute (h₁ K X ow A env s _ E hX W fun v h1 tk1 R1 k1 r1 => ?_) (hsw env)
  have W1 := W.kp k1 R1 hX
  obtain ⟨m, hn, hm⟩ := W1.fr.ns
  obtain ⟨v0, hv0, es, k, rfl, ox, e1, e2, fo⟩ := hm x _ hl (by simp) hk'
  refine wpAny_Name (wpAny_loadName_local W.kind hk' hn hv0 ?_) hd
  refine setA (s := { s with heap := h1, toks := tk1 }) (R1.inK K) so e1 e2 (getL_some fo f) (Nat.lt_of_le_of_lt fo.1 (by (first | lia | omega))) fun h2 tk2 hs2 tk' ed same => ?_
  obtain ⟨oa, od, xa, xd, pa, pd, ne⟩ := ox
  have kx : ∀ b o, b ≠ d → h1.get? b = some o → h2.get? b = some o := fun b o hb e => (same b hb).trans e
  have kp : Kp (· = d) h1 h2 := .of_keeps fun b o hm e => kx b o hm e
  have uD : ∀ b, b = d → Un X ow b := fun b q => by rw [q]; exact .inr od
  refine h h2 tk2 (W1.chg hX kx od xd (fun o e => by rw [e2] at e; cases e; exact dict_cls) ⟨_, ed⟩ hx hl (by simp) (fun m' v' hn' hv' r' => ?_) hs hno) ((kpF k1).trans (kp.mono fun b q => .inr (.inr (.inr (by rw [q]; exact od)))))
  have hv'' : m x = some v' := by rw [ns_eq hn hn' x]; exact hv'
  rw [hv0] at hv''; cases hv''
  exact ⟨_, _, rfl, ⟨oa, od, xa, xd, pa, pd, ne⟩, kx a _ ne e1, ed, (fo.kp kp uD).put (rep_handed ht r1) (Rep.kp kp uD _ _ r1) hdup⟩
end
end Mine
end
section
namespace Mine
section
variable {c : Cfg} {n : Nat} {names : List (Str × NameKind)} {loc loc' loc₁ : Loc} {σ σ' σ₁ σ₂ σ₃ : St} {P : SO → Prop} {rest : List Stmt} {X ow : Addr → Prop} {A : Around} {env : Env} {h h' h₀ : Heap} {s : Shared} {E : Value → Shared → Prop}

noncomputable def VRepL (c : Cfg) (X ow : Addr → Prop) (h : Heap) : List T → List Value → Prop
  | [], vs => vs = []
  | t :: ts, vs => ∃ v r, vs = v :: r ∧ VRep c X ow h t v ∧ VRepL c X ow h ts r
theorem VRepL.length : ∀ (ts : List T) (vs : List Value), VRepL c X ow h ts vs → vs.length = ts.length
  | [], vs, r => by rw [show vs = [] from r]; rfl
  | t :: ts, vs, ⟨v, r', e, _, h2⟩ => by rw [e, List.length_cons, List.length_cons, VRepL.length ts r' h2]
theorem VRepL.kp {M : Addr → Prop} (k : Kp M h h') (hM : ∀ a, M a → X a) : ∀ (ts : List T) (vs : List Value), VRepL c X ow h ts vs → VRepL c X ow h' ts vs
  | [], vs, r => r
  | t :: ts, vs, ⟨v, r', e, h1, h2⟩ => ⟨v, r', e, h1.kp k hM, VRepL.kp k hM ts r' h2⟩
theorem VRepL.more {X' : Addr → Prop} (hs : ∀ a, X' a → X a ∨ h.get? a = none) : ∀ (ts : List T) (vs : List Value), VRepL c X ow h ts vs → VRepL c X' ow h ts vs
  | [], vs, r => r
  | t :: ts, vs, ⟨v, r', e, h1, h2⟩ => ⟨v, r', e, h1.more hs, VRepL.more hs ts r' h2⟩
theorem VRepL.of : ∀ (ts : List T) (vs : List Value), RepL c (Un X ow) h ts vs → VRepL c X ow h ts vs
  | [], vs, r => by simp only [RepL] at r; exact r
  | t :: ts, vs, r => by
    simp only [RepL] at r
    obtain ⟨v, r', e, h1, h2⟩ := r
    exact ⟨v, r', e, VRep.of h1, VRepL.of ts r' h2⟩

theorem bind_paramsV (f : Str × Value → PUnit → Sem (ForInStep PUnit)) (hf : ∀ n v u, f (n, v) u = (do storeName env n v; pure (.yield ⟨⟩))) (hX : ∀ a, c.Mut a → X a) :
    ∀ (ps : List Str) (ts : List T) (vs : List Value) (loc : Loc) (s : Shared) (Q : PUnit → Shared → Prop), Act c X ow A n env names loc σ s.heap → VRepL c X ow s.heap ts vs → ts.length = ps.length → (∀ p ∈ ps, Bnd names p) →
      (∀ h' tk, Act c X ow A n env names ((ps.zip ts).reverse ++ loc) σ h' → Kp (fun a => a = env.locals ∨ ∃ x, (x, a) ∈ env.cells) s.heap h' → (∀ l, FrsOk s.heap l → FrsOk h' l) → Q ⟨⟩ { s with heap := h', toks := tk }) →
      wpAny (model c.prog c.w) A (forIn (ps.zip vs) ⟨⟩ f) Q E s
  | [], [], vs, loc, s, Q, W, r, _, _, h => by
    have : vs = [] := r
    subst this
    show wpAny _ _ (forIn ([] : List (Str × Value)) _ _) _ _ _
    rw [List.forIn_nil]
    exact wpAny_pure (h s.heap s.toks W (Kp.refl _ _) fun _ f => f)
  | [], _ :: _, _, _, _, _, _, _, e, _, _ => by simp at e
  | _ :: _, [], _, _, _, _, _, _, e, _, _ => by simp at e
  | p :: ps, t :: ts, vs, loc, s, Q, W, ⟨v, r', e', r1, r2⟩, e, hk, h => by
    subst e'
    rw [List.zip_cons_cons, List.forIn_cons, hf]
    refine wpAny_bind (wpAny_bind (store_var3 hX W r1 (hk p (by simp)) fun h1 tk1 W1 k1 _ _ fr1 => wpAny_pure ?_))
    refine bind_paramsV f hf hX ps ts r' ((p, t) :: loc) { s with heap := h1, toks := tk1 } Q W1 (VRepL.kp k1 (fun a q => W.excl a q) _ _ r2) (by simpa using e) (fun q hq => hk q (by simp [hq])) fun h2 tk2 W2 k2 fr2 => ?_
    refine h h2 tk2 (by simpa using W2) (k1.trans k2) fun l f => fr2 l (fr1 l f)

/-- the call of a def whose arguments may be the caller's own objects -/
theorem call_core {a : Addr} {params : List Str} {body : List Stmt} {ts : List T} {vs : List Value} {RR : Result → Shared → Prop} {l : List Env} (hf : FnAt c a params names body) (hlen : ts.length = params.length) (hk : ∀ p ∈ params, Bnd names p)
    (hb : Ex c n names (params.zip ts).reverse σ body P) (K : CfgOk c) (hX : ∀ a, c.Mut a → X a) (ok : AOk c A (n + 1)) (hl : A.frames = some l) (hfr : FrsOk s.heap l) (R : RelH c (Un X ow) σ s.heap) (r : VRepL c X ow s.heap ts vs)
    (hnext : ∀ X' A' env loc' σ' h' tk, P (.next loc' σ') → (∀ b, X b → X' b) → Act c X' ow A' n env names loc' σ' h' → Kp (fun b => c.Mut b ∨ ow b) s.heap h' → RR (.ok (.ret .none)) { s with heap := h', toks := tk })
    (hret : ∀ t σ' v h' tk, P (.ret t σ') → RelH c X σ' h' → Kp (fun b => c.Mut b ∨ ow b) s.heap h' → Rep c X h' t v → RR (.ok (.ret v)) { s with heap := h', toks := tk })
    (hexc : ∀ w σ', P (.exc w σ') → False) : codeAny (model c.prog c.w) A (.call (.ref a) ⟨vs, []⟩) RR s := by
  obtain ⟨o, fd, ho, hd, hbody, hclo, hkind, hnames, hco, hgen, hglob, hblt, hcd, hbind⟩ := hf
  have hvl : vs.length = params.length := (VRepL.length _ _ r).trans hlen
  refine codeAny_call_function (by have := ok.2.1; (first | lia | omega)) (R.base _ _ ho) hd hco hgen hbody (hcd.keeps R.base) ?_
  rw [hbind vs hvl, hclo, hglob, hblt]
  refine wpAny_pure ?_
  simp only [newFunctionEnv, Option.isSome_none, Bool.false_eq_true, if_false]
  refine wpAny_bind (wpAny_alloc ?_)
  refine wpAny_bind (wpAny_layCells _ (fun name kind cells => by cases hkc : kind == NameKind.cell <;> simp [hkc]) _ _ _ _ ?_)
  have hsz : ({ s with heap := s.heap.push { cls := .type "frame", data := .dict #[] } } : Shared).heap.objs.size = s.heap.objs.size + 1 := Heap.size_push ..
  rw [hsz]
  generalize hLe : s.heap.objs.size = L
  have okc := cellsFrom_ok fd.scope.names (s.heap.push { cls := .type "frame", data := .dict #[] }) (s.heap.objs.size + 1) [] ⟨fun _ _ hm => (nomatch hm), List.Pairwise.nil⟩ (by rw [Heap.size_push]; exact Nat.le_refl _)
  rw [Heap.size_push, hLe] at okc
  generalize hcl : cellsFrom (L + 1) fd.scope.names [] = cl at okc ⊢
  generalize hh1 : pushCells ({ s with heap := s.heap.push { cls := .type "frame", data := .dict #[] } } : Shared).heap fd.scope.names = h1
  have hh1' : pushCells (s.heap.push { cls := .type "frame", data := .dict #[] }) fd.scope.names = h1 := hh1
  rw [hh1'] at okc
  have up : ∀ b o, (s.heap.push { cls := .type "frame", data := .dict #[] }).get? b = some o → h1.get? b = some o := fun b o e => by rw [← hh1']; exact pushCells_keeps _ _ b o e
  have keep : ∀ b o, s.heap.get? b = some o → h1.get? b = some o := fun b o e => up b o (Heap.get?_push_of_some _ e)
  have oL : h1.get? L = some { cls := .type "frame", data := .dict #[] } := up _ _ (by rw [← hLe]; exact Heap.get?_push_size _ rfl)
  have hL0 : s.heap.get? L = none := ge_none (Nat.le_of_eq hLe)
  let env : Env := { scope := fd.scope, locals := L, globals := mainGlobals, cells := cl, qual := fd.qualname ++ ".<locals>.", func := some a, code := fd.code, frame := some L, builtins := builtinsNs }
  let N : Addr → Prop := fun b => b = L ∨ ∃ x, (x, b) ∈ cl
  have hN : ∀ b, N b → s.heap.get? b = none ∧ ∃ o, h1.get? b = some o := fun b q => by
    rcases q with rfl | ⟨x, q⟩
    · exact ⟨hL0, _, oL⟩
    · obtain ⟨⟨o', e', _⟩, hlo⟩ := okc.empty x b q
      exact ⟨ge_none (by rw [hLe]; exact Nat.le_of_succ_le hlo), o', e'⟩
  have hB : ∀ b, s.heap.get? b = none → c.B0.get? b = none := fun b q => by
    cases z : c.B0.get? b with
    | none => rfl
    | some o' => exact (off_none (R.base b o' z) q).elim
  have hXN : ∀ b, c.Mut b → Un X N b := fun b q => .inl (hX b q)
  have R1 : RelH c (Un (Un X N) ow) σ h1 := (rel_keeps R keep).turn R (fun b q => by
    rcases q with (q | q) | q
    · exact .inl (.inl q)
    · exact .inr q
    · exact .inl (.inr q)) (fun b q => .inl (hXN b q)) hN
  have W1 : Act c (Un X N) ow A.in1 n env names [] σ h1 :=
    { ok := ⟨ok.1, by have := ok.2.1; simp only [Around.in1_depth]; (first | lia | omega), by have := ok.2.2.1; simp only [Around.in1_units]; (first | lia | omega), ok.2.2.2⟩
      frs := ⟨l, hl, hfr.keeps (M := fun _ => False) (fun b o _ e => keep b o e) fun _ _ q => q.elim⟩
      kind := hkind
      names := hnames
      glob := rfl
      blt := rfl
      excl := fun b q => .inr q
      fr := ⟨⟨fun _ => none, ⟨_, #[], 0, oL, rfl, fun _ he => by simp at he, fun _ => rfl⟩, fun x t e => by simp at e⟩, fun x t e => by simp at e, fun x b q => ⟨none, (okc.empty x b q).1⟩, okc.apart, fun x q => by
        have q : fd.scope.names.lookup x = some .cell := q
        obtain ⟨b, hb⟩ := cells_has fd.scope.names (L + 1) [] x (.inl (mem_of_lookup q))
        rw [hcl] at hb
        exact lookup_mem_ex hb⟩
      rel := R1 }
  have r1 : VRepL c (Un X N) ow h1 ts vs :=
    VRepL.kp (M := No) (.of_keeps fun b o _ e => keep b o e) (fun _ q => q.elim) _ _ (VRepL.more (fun b q => q.imp id fun z => (hN b z).1) _ _ r)
  refine wpAny_bind (bind_paramsV (env := env) _ (fun _ _ _ => rfl) hXN params ts vs [] ⟨h1, s.gens, s.drawn, s.toks, s.os⟩ _ W1 r1 hlen hk fun h2 tk2 W2 k2 fr2 => wpAny_pure ?_)
  refine ⟨(K.nolimit).keeps W2.rel.base, codeAny_func ?_⟩
  have frame2 : FrsOk h2 (env :: l) := fr2 (env :: l) ⟨hkind, ⟨L, _, #[], 0, rfl, oL, rfl, rfl⟩, hfr.keeps (M := fun _ => False) (fun b o _ e => keep b o e) fun _ _ q => q.elim⟩
  have hfrB : ∀ f ∈ env :: l, ∀ L', f.frame = some L' → c.B0.get? L' = none := fun f hf' L' e => by
    rcases List.mem_cons.mp hf' with rfl | hf'
    · cases e; exact hB _ hL0
    · exact ok.2.2.2 l hl f hf' L' e
  have hfrs : (A.deeper env).frames = some (env :: l) := Around.frames_deeper hl
  have W3 : Act c (Un X N) ow (A.deeper env) n env names (params.zip ts).reverse σ h2 :=
    { W2 with
      ok := ⟨ok.1, by have := ok.2.1; show A.depth + 1 + n < _; (first | lia | omega), by have := ok.2.2.1; show A.units + 3 + 8 * n + 8 < _; (first | lia | omega), fun l' e => by rw [hfrs] at e; cases e; exact hfrB⟩
      frs := ⟨env :: l, hfrs, frame2⟩
      fr := by have := W2.fr; simpa using this }
  have kA : Kp (fun b => s.heap.get? b = none) s.heap h2 := (Kp.of_keeps fun b o _ e => keep b o e).trans (k2.mono fun b q => (hN b q).1)
  have kM : ∀ {h' : Heap}, Kp (MutF c env ow) h2 h' → Kp (fun b => c.Mut b ∨ ow b) s.heap h' := fun {h'} k' =>
    Kp.fresh (M' := fun b => (c.Mut b ∨ ow b) ∨ s.heap.get? b = none) ((kA.mono fun b q => .inr q).trans (k'.mono fun b q => by
      rcases q with q | q | q | q
      · exact .inl (.inl q)
      · exact .inr (hN b (.inl q)).1
      · exact .inr (hN b (.inr q)).1
      · exact .inl (.inr q))) fun b q => q
  refine hb K (Un X N) ow (A.deeper env) env _ _ _ hXN W3 ⟨?_, ?_, ?_⟩
  · intro loc' σ' h' tk' p W' k'
    exact hnext (Un X N) _ env loc' σ' h' tk' p (fun b q => .inl q) W' (kM k')
  · intro t σ' v h' tk' p R' k' rv
    exact hret t σ' v h' tk' p (R'.anti (fun b q => .inl q) hX) (kM k') (Rep.anti (fun b q => .inl q) _ _ rv)
  · intro w σ' e h' tk' p
    exact (hexc w σ' p).elim

structure MkOk (c : Cfg) (C fI : Addr) : Prop where
  makes : makesIn c.K C = true
  init : findIn c.K (.ref C) "__init__" = some (some (.ref fI))
  fn : typeIn c.K (.ref fI) = some (.type "function")

/-- an object of a class of the text's made, by its own __init__ -/
theorem mk_obj {C fI : Addr} {params : List Str} {body : List Stmt} {ts : List T} {vs : List Value} {fs : List (Str × T)} {l : List Env} {Q : Value → Shared → Prop} (mk : MkOk c C fI) (hf : FnAt c fI ("self" :: params) names body) (hlen : ts.length = params.length) (hk : ∀ p ∈ ("self" : Str) :: params, Bnd names p) (hself : names.lookup ("self" : Str) = some .local)
    (hb : ∀ a d, Ex c n names (((("self" : Str) :: params).zip (.ownO a d C [] :: ts)).reverse) σ body (fun o => ∃ loc', o = .next loc' σ ∧ loc'.lookup ("self" : Str) = some (T.ownO a d C fs)))
    (K : CfgOk c) (hX : ∀ a, c.Mut a → X a) (ok : AOk c A (n + 2)) (hl : A.frames = some l) (hfr : FrsOk s.heap l) (R : RelH c X σ s.heap) (r : RepL c X s.heap ts vs)
    (h : ∀ a d es k h' tk, s.heap.get? a = none → s.heap.get? d = none → a ≠ d → RelH c X σ h' → Kp c.Mut s.heap h' → h'.get? a = some (instObj C d) → h'.get? d = some (dictOf es k) → FsOk c (Un X fun b => b = a ∨ b = d) h' fs es → Q (.ref a) { s with heap := h', toks := tk }) :
    wpAny (model c.prog c.w) A (call (.ref C) vs) Q E s := by
  have XK : c.K.In s.heap := R.inK K
  obtain ⟨hh, g, dr, t, os⟩ := s
  refine wpAny_call (make_core (makes_of XK mk.makes) (looks_findIn XK mk.init) (fun self => bind_fn XK self mk.fn) (.inl rfl) ?_)
  have keep : ∀ b o, hh.get? b = some o → ((hh.push emptyDict).push (instObj C hh.objs.size)).get? b = some o := fun b o e => Heap.get?_push_of_some _ (Heap.get?_push_of_some _ e)
  have ea : ((hh.push emptyDict).push (instObj C hh.objs.size)).get? (hh.objs.size + 1) = some (instObj C hh.objs.size) := by
    have := Heap.get?_push_size (hh.push emptyDict) (o := instObj C hh.objs.size) rfl
    rwa [Heap.size_push] at this
  have ed : ((hh.push emptyDict).push (instObj C hh.objs.size)).get? hh.objs.size = some (dictOf [] 0) := Heap.get?_push_of_some _ (Heap.get?_push_size _ rfl)
  generalize hh1 : (hh.push emptyDict).push (instObj C hh.objs.size) = h1 at keep ea ed ⊢
  generalize had : hh.objs.size = d at ea ed ⊢
  have nd : hh.get? d = none := ge_none (Nat.le_of_eq had)
  have na : hh.get? (d + 1) = none := ge_none (by rw [had]; exact Nat.le_succ _)
  have hne : @Ne Addr (d + 1) d := ane (Nat.succ_ne_self d)
  let ow : Addr → Prop := fun b => b = d + 1 ∨ b = d
  have how : ∀ b, ow b → hh.get? b = none ∧ ∃ o, h1.get? b = some o := fun b q => by
    rcases q with q | q
    · rw [q]; exact ⟨na, _, ea⟩
    · rw [q]; exact ⟨nd, _, ed⟩
  have kN : Kp No hh h1 := .of_keeps fun b o _ e => keep b o e
  have R1 : RelH c (Un X ow) σ h1 := (rel_keeps R keep).turn R (fun b q => q) (fun b q => .inl (hX b q)) how
  have xo : ∀ b, ow b → ¬ X b := fun b q z => let ⟨o, e⟩ := R.live b z; off_none e (how b q).1
  have po : ∀ b, ow b → ¬ c.ep b := fun b q z => let ⟨o, e⟩ := R.epl b z; off_none e (how b q).1
  have mo : ∀ b, ow b → ¬ c.Mut b := fun b q z => xo b q (hX b z)
  have r1 : VRepL c X ow h1 (.ownO (d + 1) d C [] :: ts) (.ref (d + 1) :: vs) := ⟨_, vs, rfl, ⟨[], 0, rfl, ⟨.inl rfl, .inr rfl, xo _ (.inl rfl), xo _ (.inr rfl), po _ (.inl rfl), po _ (.inr rfl), hne⟩, ea, ed, by simp [FsOk]⟩,
    VRepL.of _ _ (RepL.kp kN (fun _ q => q.elim) _ _ (RepL.more (fun b q => q.imp id fun z => (how b z).1) _ _ r))⟩
  have okc : AOk c (A.under (.builtin "type.__call__" ⟨.ref C :: vs, []⟩)) (n + 1) := by
    refine ⟨ok.1, ?_, ?_, ok.2.2.2⟩
    · rw [depth_under_make]; have := ok.2.1; (first | lia | omega)
    · show A.units + (Code.builtin "type.__call__" ⟨.ref C :: vs, []⟩).cUnits + 8 * (n + 1) + 8 < cLine
      have := ok.2.2.1
      have hc : (Code.builtin "type.__call__" ⟨.ref C :: vs, []⟩).cUnits = 1 := rfl
      (first | lia | omega)
  refine call_core (ow := ow) (s := ⟨h1, g, dr, t, os⟩) (l := l) (ts := .ownO (d + 1) d C [] :: ts) hf (by simp [hlen]) hk (hb (d + 1) d) K hX okc hl ?_ R1 r1 (fun X' A' env loc' σ' h' tk p hXX W k => ?_) (fun t σ' v h' tk p => ?_) (fun w σ' p => ?_)
  · exact hfr.keeps (M := fun _ => False) (fun b o _ e => keep b o e) fun _ _ q => q.elim
  · obtain ⟨loc'', e, hlk⟩ := p
    cases e
    obtain ⟨m, hn, hm⟩ := W.fr.ns
    have hk' : env.kindOf "self" = some .local := by show env.scope.names.lookup _ = _; rw [W.names]; exact hself
    obtain ⟨v, hv, es, k', rfl, ox, e1, e2, fo⟩ := hm ("self" : Str) _ hlk (by simp) hk'
    refine ⟨rfl, ?_⟩
    have kk : Kp c.Mut hh h' := Kp.fresh (M' := fun b => c.Mut b ∨ ow b) ((kN.mono fun _ q => q.elim).trans k) fun b q => q.imp id fun z => (how b z).1
    exact h (d + 1) d es k' h' tk na nd hne (W.rel.anti (fun b q => .inl (hXX b q)) hX) kk e1 e2 (fo.anti fun b q => q.imp (hXX b) id)
  · obtain ⟨_, e, _⟩ := p; cases e
  · obtain ⟨_, e, _⟩ := p; cases e
end
end Mine
end
section
namespace Mine
section
variable {c : Cfg} {n : Nat} {names : List (Str × NameKind)} {loc loc' loc₁ : Loc} {σ σ' σ₁ σ₂ σ₃ : St} {P : SO → Prop} {rest : List Stmt} {X ow : Addr → Prop} {A : Around} {env : Env} {h h' h₀ : Heap} {s : Shared} {E : Value → Shared → Prop}

/-- C(args): a class of the text's -/
theorem cls_node {f : Str} {fp p : Pos} {C : Addr} {args : List PySem.Expr} {ts : List T} {Q : Value → Shared → Prop} {e₀ : PySem.Expr} {er : List PySem.Expr} (K : CfgOk c) (hX : ∀ a, c.Mut a → X a) (W : Act c X ow A n env names loc σ s.heap) (hg : c.mg f = some (.ref C)) (hkeep : keepIn c.K (.ref C) = true) (hk : names.lookup f = some .globalImplicit)
    (h₁ : EvsTo c n names loc σ args ts σ₁) (h : ∀ vs h' tk, RelH c (Un X ow) σ₁ h' → Kp c.Mut s.heap h' → RepL c (Un X ow) h' ts vs → wpAny (model c.prog c.w) A (call (.ref C) vs) Q E { s with heap := h', toks := tk })
    (ha : args = e₀ :: er) (hd : (f == ("__debug__" : Str)) = false) (hs : starEach (e₀ :: er) env = (false, eval e₀ env) :: starEach er env) (hp : (backTo p (starEach er env)).any (·.1) = false) :
    wpAny (model c.prog c.w) A (eval (.Call (.Name f fp) args [] p) env) Q E s := by
  subst ha
  show wpAny _ _ (do callWith p (← eval (.Name f fp) env) [] (backTo p (starEach (e₀ :: er) env)) (backToKw p (keywordEach [] env))) _ _ _
  refine wpAny_bind (global_at K W hg hk ?_ hd)
  show wpAny _ _ (callWith p (.ref C) [] (backTo p (starEach (e₀ :: er) env)) []) _ _ _
  refine callWith_K (h₀ := s.heap) (W.inK K) hkeep ?_ hs hp
  exact h₁ K X ow A env p s _ E hX W fun vs h' tk R k r => ⟨R.inK K, h vs h' tk R k r⟩

noncomputable def flatT : T → Bool
  | .none => true
  | .bool _ => true
  | .int _ => true
  | .str _ => true
  | .ints _ => true
  | .fints _ => true
  | .oints _ => true
  | _ => false

/-- x = C(args), the object the frame's own -/
theorem ex_own_cls {x f : Str} {xp fp p q : Pos} {C fI : Addr} {args : List PySem.Expr} {ts : List T} {params : List Str} {inames : List (Str × NameKind)} {body : List Stmt} {fs : List (Str × T)} {e₀ : PySem.Expr} {er : List PySem.Expr} (hg : c.mg f = some (.ref C)) (hkeep : keepIn c.K (.ref C) = true) (hk : names.lookup f = some .globalImplicit)
    (h₁ : EvsTo c (n + 2) names loc σ args ts σ₁) (mk : MkOk c C fI) (hf : FnAt c fI ("self" :: params) inames body) (hlen : ts.length = params.length) (hkp : ∀ p ∈ ("self" : Str) :: params, Bnd inames p) (hself : inames.lookup ("self" : Str) = some .local)
    (hb : ∀ a d, Ex c n inames (((("self" : Str) :: params).zip (.ownO a d C [] :: ts)).reverse) σ₁ body (fun o => ∃ loc', o = .next loc' σ₁ ∧ loc'.lookup ("self" : Str) = some (.ownO a d C fs)))
    (hx : Bnd names x) (hn : ∀ loc σ, ¬ P (.next loc σ)) (hr : ∀ a d, Ex c (n + 2) names ((x, .ownO a d C fs) :: loc) σ₁ rest P)
    (ha : args = e₀ :: er := by rfl) (hd : (f == ("__debug__" : Str)) = false := by decide) (hs : ∀ env, starEach (e₀ :: er) env = (false, eval e₀ env) :: starEach er env := by intro _; rfl) (hp : ∀ env, (backTo p (starEach er env)).any (·.1) = false := by intro _; rfl)
    (hsw : ∀ env, swapsWith (.Call (.Name f fp) args [] p) (some (.Name x xp)) q.line env = pure false := by intro _; rfl) :
    Ex c (n + 2) names loc σ (.Assign [.Name x xp] (.Call (.Name f fp) args [] p) q :: rest) P := fun K X ow A env s Q E hX W PR => by
  refine wpAny_execs_cons (wpAny_Assign_Name (cls_node K hX W hg hkeep hk h₁ (fun vs h1 tk1 R1 k1 r1 => ?_) ha hd (hs env) (hp env)) (hsw env))
  have W1 := W.kp k1 R1 hX
  obtain ⟨l, hl, hfr⟩ := W1.frs
  refine mk_obj (X := Un X ow) (s := { s with heap := h1, toks := tk1 }) mk hf hlen hkp hself hb K (unX hX) W.ok hl hfr R1 r1 fun a d es k h2 tk2 na nd hne R2 k2 ea ed fo => ?_
  have k12 : Kp c.Mut s.heap h2 := k1.trans k2
  have hO : ∀ b, (b = a ∨ b = d) → s.heap.get? b = none ∧ ∃ o, h2.get? b = some o := fun b z => by
    rcases z with z | z
    · rw [z]; exact ⟨fresh_back W.rel R1 k1 na, _, ea⟩
    · rw [z]; exact ⟨fresh_back W.rel R1 k1 nd, _, ed⟩
  have W2 : Act c X (Un ow fun b => b = a ∨ b = d) A (n + 2) env names loc σ₁ h2 := W.growO k12 R2 hX hO
  have xo : ∀ b, (b = a ∨ b = d) → ¬ X b := fun b q z => let ⟨o, e⟩ := W.rel.live b (.inl z); off_none e (hO b q).1
  have po : ∀ b, (b = a ∨ b = d) → ¬ c.ep b := fun b q z => let ⟨o, e⟩ := W.rel.epl b z; off_none e (hO b q).1
  refine store_var (t := .ownO a d C fs) (s := { s with heap := h2, toks := tk2 }) (Q := fun _ s' => wpAny (model c.prog c.w) A (execs rest env) Q E s') hX W2
    ⟨es, k, rfl, ⟨.inr (.inl rfl), .inr (.inr rfl), xo _ (.inl rfl), xo _ (.inr rfl), po _ (.inl rfl), po _ (.inr rfl), hne⟩, ea, ed, fo.anti fun b z => ?_⟩ hx fun h3 tk3 W3 k3 _ => ?_
  · rcases z with z | z | z
    · exact .inl (.inl z)
    · exact .inl (.inr z)
    · exact .inr z
  · have kf : Kp (MutF c env (Un ow fun b => b = a ∨ b = d)) s.heap h3 := (kpF k12).trans (kpL k3)
    exact hr a d K X _ A env _ Q E hX W3 (PR.own hn (fun b z => z.imp id fun z => (hO b z).1) kf (W3.liveF (fun a q => .inr q) kf))

theorem ev_f_ints {e : PySem.Expr} {l : List Int} (h₁ : EvTo c n names loc σ e (.fints l) σ₁) : EvTo c n names loc σ e (.ints l) σ₁ := fun K X ow A env s Q E hX W h =>
  h₁ K X ow A env s Q E hX W fun v h' tk R k r => h v h' tk R k (by simp only [Rep] at r ⊢; obtain ⟨a, e, hx, _, i⟩ := r; exact ⟨a, e, hx, i⟩)
theorem new_fints {Y : Addr → Prop} (R : RelH c Y σ h) {vs : List Value} {l : List Int} (i : IntsAre vs l) :
    RelH c Y σ (h.push { cls := .type "list", data := .seq vs.toArray }) ∧ Kp c.Mut h (h.push { cls := .type "list", data := .seq vs.toArray }) ∧
      Rep c Y (h.push { cls := .type "list", data := .seq vs.toArray }) (.fints l) (.ref h.objs.size) :=
  ⟨rel_push R _, Kp.push _, by simp only [Rep]; exact ⟨_, rfl, rel_not_size R, fun q => let ⟨o, e⟩ := R.epl _ q; off_none e (size_none h), vs, 0, Heap.get?_push_size _ rfl, i⟩⟩
/-- l[lo:hi], a new list -/
theorem ev_slice_f {value : PySem.Expr} {lo hi : Option PySem.Expr} {p q : Pos} {l : List Int} {a b : Option Nat} (h₁ : EvTo c n names loc σ value (.ints l) σ₁) (h₂ : PartTo c n names loc σ₁ lo a) (h₃ : PartTo c n names loc σ₁ hi b) (hz : l.length ≤ sizeLine)
    (ht : ∀ o r, letTemporaryGo value o r = pure () := by intro _ _; rfl) : EvTo c n names loc σ (.Subscript value (.Slice lo hi none q) p) (.fints (cut l a b)) σ₁ := fun K X ow A env s Q E hX W h =>
  wpAny_Subscript_list_slice (h₁ K X ow A env s _ E hX W fun v h' tk R k r => by
    have W' := W.kp k R hX
    refine part_at h₂ K hX W' fun v1 h1 tk1 R1 k1 i1 => ?_
    have W1 := W'.kp k1 R1 hX
    refine part_at h₃ K hX W1 fun v2 h2 tk2 R2 k2 i2 => ?_
    have r' := Rep.kp k2 (unX hX) _ _ (Rep.kp k1 (unX hX) _ _ r)
    simp only [Rep] at r'
    obtain ⟨x, rfl, _, vs, kk, e, i⟩ := r'
    obtain ⟨us, q', iu⟩ := pick_ints i a b
    refine ⟨x, vs.toArray, _, _, rfl, ints_isList e, by rw [List.size_toArray, ints_len i]; exact hz, i1, i2, ?_⟩
    rw [q']
    obtain ⟨a1, a2, a3⟩ := new_fints (rel_push R2 { cls := .type "slice", data := .fields #[v1, v2, .none] }) iu
    rw [Heap.size_push] at a3
    exact h _ _ tk2 a1 (((k.trans k1).trans k2).trans ((Kp.push _).trans a2)) a3) ht

theorem intsAre_of {P : Nat → Value → Prop} {f : Nat → Int} (hP : ∀ i v, P i v → ∃ t, v = .int (f i) t) : ∀ (vs : List Value) (k : Nat), (∀ j v, vs[j]? = some v → P (k + j) v) → IntsAre vs ((List.range vs.length).map fun j => f (k + j))
  | [], k, _ => by simp; exact .nil
  | v :: vs, k, h => by
    obtain ⟨t, rfl⟩ := hP k v (h 0 v rfl)
    rw [List.length_cons, List.range_succ_eq_map, List.map_cons, List.map_map]
    refine .cons _ t ?_
    have := intsAre_of hP vs (k + 1) (fun j w hw => by have := h (j + 1) w (by simpa using hw); rwa [show k + (j + 1) = k + 1 + j by (first | lia | omega)] at this)
    have e : ((fun j => f (k + j)) ∘ Nat.succ) = fun j => f (k + 1 + j) := by funext j; simp only [Function.comp]; congr 1; (first | lia | omega)
    rw [e]; exact this
/-- list(range(a, b)) -/
theorem ev_lrange {lp rp p q : Pos} {e f : PySem.Expr} {a b : Int} (hgl : c.mg "list" = none) (hbl : c.mb "list" = some (.type "list")) (hkl : names.lookup ("list" : Str) = some .globalImplicit) (hg : c.mg "range" = none) (hb : c.mb "range" = some (.type "range")) (hk : names.lookup ("range" : Str) = some .globalImplicit)
    (h₁ : EvTo c n names loc σ e (.int a) σ₁) (h₂ : EvTo c n names loc σ₁ f (.int b) σ₂) (h0 : a ≤ b) (ha : 0 ≤ a) (hz : b < 2 ^ 20)
    (hs : ∀ env, starEach [e, f] env = (false, eval e env) :: starEach [f] env := by intro _; rfl) (hs' : ∀ env, starEach [f] env = (false, eval f env) :: starEach [] env := by intro _; rfl) (hp : ∀ p env, (backTo p (starEach [e, f] env)).any (·.1) = false := by intro _ _; rfl) :
    EvTo c n names loc σ (.Call (.Name "list" lp) [.Call (.Name "range" rp) [e, f] [] p] [] q) (.ints (rng a (b - a).toNat)) σ₂ := fun K X ow A env s Q E hX W h => by
  show wpAny _ _ (do callWith q (← eval (.Name "list" lp) env) [] (backTo q (starEach [PySem.Expr.Call (.Name "range" rp) [e, f] [] p] env)) (backToKw q (keywordEach [] env))) _ _ _
  refine wpAny_bind (builtin_at K W hgl hbl hkl ?_ (by decide))
  show wpAny _ _ (callWith q (.type "list") [] (backTo q (starEach [PySem.Expr.Call (.Name "range" rp) [e, f] [] p] env)) []) _ _ _
  refine PySem.callWith_type1 ?_
  show wpAny _ _ (eval (.Call (.Name "range" rp) [e, f] [] p) env) _ _ _
  refine bcall_node K hX W hg hb hk (evs_cons h₁ (evs_cons h₂ evs_nil hs') hs) (.inr ⟨_, rfl⟩) rfl hs hp (by decide) fun vs h1 tk R kp r => ?_
  obtain ⟨v, w, rfl, r1, r2⟩ := repL2 r
  simp only [Rep] at r1 r2; obtain ⟨t, rfl⟩ := r1; obtain ⟨u, rfl⟩ := r2
  refine call_range_2 ?_
  have hsz : Builtin.Range.rangeSize a b 1 = ((b - a).toNat : Int) := by rw [rangeSize_one]; split <;> (first | lia | omega)
  refine call_list_range W.ok.1 (IsRange.new ..) (small_one (by (first | lia | omega)) (by (first | lia | omega)) (by (first | lia | omega)) (by (first | lia | omega))) hsz (by (first | lia | omega)) fun h2 tk2 acc cc hk2 he hit => ?_
  have R1 := rel_push R { cls := .type "range", data := .fields #[.int a t, .int b u, .int 1 tk] }
  have kk : Kp c.Mut s.heap h2 := (kp.trans (Kp.push _)).trans (.of_keeps fun a o _ e => hk2 a o e)
  refine h _ h2 tk2 (rel_keeps R1 hk2) kk ?_
  simp only [Rep]
  refine ⟨_, rfl, rel_not_size R1, acc.toList, cc, by simpa using he, ?_⟩
  have hl : acc.toList.length = (b - a).toNat := by simpa using hit.1
  have := intsAre_of (f := fun i => a + (i : Int) * 1) (fun i v hv => hv) acc.toList 0 (fun j v hj => by have := hit.2 j v (by simpa using hj); simpa using this)
  rw [hl] at this
  have e : ((List.range (b - a).toNat).map fun j : Nat => a + ((0 + j : Nat) : Int) * 1) = rng a (b - a).toNat := by
    unfold rng; apply List.map_congr_left; intro j _; simp
  rw [e] at this; exact this

theorem slice_any {value : PySem.Expr} {lo hi : Option PySem.Expr} {p q : Pos} {a b : Option Nat} {Q : Value → Shared → Prop} (h₂ : PartTo c n names loc σ₁ lo a) (h₃ : PartTo c n names loc σ₁ hi b) (K : CfgOk c) (hX : ∀ a, c.Mut a → X a) (W : Act c X ow A n env names loc σ s.heap)
    (hv : wpAny (model c.prog c.w) A (eval value env) (fun o s₁ => ∃ h1 tk, s₁ = { s with heap := h1, toks := tk } ∧ RelH c (Un X ow) σ₁ h1 ∧ Kp c.Mut s.heap h1 ∧
      ∀ v1 v2 h3 tk3, RelH c (Un X ow) σ₁ h3 → Kp c.Mut h1 h3 → IsPart v1 (toI a) → IsPart v2 (toI b) → ∃ x vs l, o = .ref x ∧ h3.IsList x vs.toArray ∧ IntsAre vs l ∧ l.length ≤ sizeLine ∧
        ∀ h4 us, RelH c (Un X ow) σ₁ h4 → Kp c.Mut h3 h4 → Rep c (Un X ow) h4 (.fints (cut l a b)) us → Q us { s with heap := h4, toks := tk3 }) E s) :
    wpAny (model c.prog c.w) A (eval (.Subscript value (.Slice lo hi none q) p) env) Q E s := by
  refine sub_node (wpAny_mono hv (fun o s₁ hh => ?_) fun _ _ e => e)
  obtain ⟨h1, tk, rfl, R1, k1, hh⟩ := hh
  have W1 := W.kp k1 R1 hX
  refine wpAny_Slice (part_at h₂ K hX W1 fun v1 h2 tk2 R2 k2 i1 => ?_)
  have W2 := W1.kp k2 R2 hX
  refine part_at h₃ K hX W2 fun v2 h3 tk3 R3 k3 i2 => ?_
  rw [evalPart_none]
  refine wpAny_pure ?_
  obtain ⟨x, vs, l, rfl, hl, iv, hz, hQ⟩ := hh v1 v2 h3 tk3 R3 (k2.trans k3) i1 i2
  refine tail_any (ops := [_, _]) (hl.push _).typeIs list_getitem_lookup (wpAny_getItem_list_slice (hl.push _) (Heap.IsSliceOf.new ..) i1 i2 .none (by simp) ?_ (by rw [List.size_toArray, ints_len iv]; exact hz)) rfl
  obtain ⟨us, q', iu⟩ := pick_ints iv a b
  rw [q']
  obtain ⟨a1, a2, a3⟩ := new_fints (rel_push R3 { cls := .type "slice", data := .fields #[v1, v2, .none] }) iu
  exact hQ _ _ a1 ((Kp.push _).trans a2) a3
/-- disk.data[lo:hi], a new list -/
theorem ev_dslice_f {value : PySem.Expr} {lo hi : Option PySem.Expr} {p q : Pos} {a b : Option Nat} (h₁ : EvTo c n names loc σ value .data σ₁) (h₂ : PartTo c n names loc σ₁ lo a) (h₃ : PartTo c n names loc σ₁ hi b) (hz : σ₁.data.length ≤ sizeLine) :
    EvTo c n names loc σ (.Subscript value (.Slice lo hi none q) p) (.fints (cut σ₁.data a b)) σ₁ := fun K X ow A env s Q E hX W h =>
  slice_any h₂ h₃ K hX W (h₁ K X ow A env s _ E hX W fun v h1 tk1 R1 k1 r1 => ⟨h1, tk1, rfl, R1, k1, fun v1 v2 h3 tk3 R3 k3 i1 i2 => by
    simp only [Rep] at r1; subst r1
    obtain ⟨vs, m, e, i⟩ := R3.data
    exact ⟨_, vs, _, rfl, ints_isList e, i, hz, fun h4 us R4 k4 r4 => h us h4 tk3 R4 ((k1.trans k3).trans k4) r4⟩⟩)
end
end Mine
end
section
namespace Mine
noncomputable def stm (i : Nat) : Stmt := PySem.Challenge.pw_sm0122_01.main.body.getD i (.Pass default)
noncomputable def bd (i : Nat) : List Stmt := match stm i with
  | .FunctionDef _ _ b _ _ _ _ _ _ _ => b
  | _ => []
noncomputable def nm (i : Nat) : List (Str × NameKind) := match stm i with
  | .FunctionDef _ _ _ _ _ _ sc _ _ _ => sc.names
  | _ => []
noncomputable def pr (i : Nat) : List Str := match stm i with
  | .FunctionDef _ a _ _ _ _ _ _ _ _ => a.args.map (·.arg)
  | _ => []
noncomputable def dn (i : Nat) : Str := match stm i with
  | .FunctionDef x .. => x
  | .ClassDef x .. => x
  | _ => Str.empty
/-- the first def of a class's body -/
noncomputable def ini (i : Nat) : Stmt := match stm i with
  | .ClassDef _ _ _ b .. => b.headD (.Pass default)
  | _ => .Pass default
noncomputable def ibd (i : Nat) : List Stmt := match ini i with
  | .FunctionDef _ _ b _ _ _ _ _ _ _ => b
  | _ => []
noncomputable def inm (i : Nat) : List (Str × NameKind) := match ini i with
  | .FunctionDef _ _ _ _ _ _ sc _ _ _ => sc.names
  | _ => []
noncomputable def fa (c : Cfg) (i : Nat) : Addr := match c.mg (dn i) with
  | some (.ref a) => a
  | _ => 0
noncomputable def isDef (i : Nat) : Bool := match stm i with
  | .FunctionDef .. => true
  | _ => false

noncomputable def BiOk (c : Cfg) (x : Str) (v : Value) : Prop := c.mg x = none ∧ c.mb x = some v
structure Top0 (c : Cfg) : Prop where
  DA : DiskAttrs c
  fn : ∀ i, isDef i = true → c.mg (dn i) = some (.ref (fa c i)) ∧ FnAt c (fa c i) (pr i) (nm i) (bd i)
  ent : c.mg "Entry" = some (.ref c.EntC) ∧ keepIn c.K (.ref c.EntC) = true
  mke : ∃ fI, MkOk c c.EntC fI ∧ FnAt c fI ["self", "user", "raw", "extent"] (inm 9) (ibd 9)
  set : SetOk c.K c.EntC "user" ∧ SetOk c.K c.EntC "raw" ∧ SetOk c.K c.EntC "extent" ∧ SetOk c.K c.EntC "spare" ∧ SetOk c.K c.EntC "count" ∧ SetOk c.K c.EntC "map"
  min : BiOk c "min" (.builtin "min")
  max : BiOk c "max" (.builtin "max")
  len : BiOk c "len" (.builtin "len")
  all : BiOk c "all" (.builtin "all")
  any : BiOk c "any" (.builtin "any")
  abs : BiOk c "abs" (.builtin "abs")
  int : BiOk c "int" (.type "int")
  list : BiOk c "list" (.type "list")
  range : BiOk c "range" (.type "range")
  enumerate : BiOk c "enumerate" (.type "enumerate")
  zip : BiOk c "zip" (.type "zip")
  FREE : ∃ t, c.mg "FREE" = some (.int 229 t)
  ENTRY_SIZE : ∃ t, c.mg "ENTRY_SIZE" = some (.int 32 t)
  NAME_SIZE : ∃ t, c.mg "NAME_SIZE" = some (.int 11 t)
  MAP_AT : ∃ t, c.mg "MAP_AT" = some (.int 16 t)
  MOST_RECORDS : ∃ t, c.mg "MOST_RECORDS" = some (.int 128 t)
  EXTENTS_LOW : ∃ t, c.mg "EXTENTS_LOW" = some (.int 32 t)
  ANY : ∃ t, c.mg "ANY" = some (.int 63 t)
  READ_ONLY_AT : ∃ t, c.mg "READ_ONLY_AT" = some (.int 8 t)

section
variable {c : Cfg} {n : Nat} {names : List (Str × NameKind)} {loc loc' : Loc} {σ σ' σ₁ σ₂ : St}

theorem CallP.up {f : Value} {ts : List T} {P : Out → Prop} {k : Nat} (h : CallP c k f ts σ P) (hk : k ≤ n) : CallP c n f ts σ P := fun K X A l s vs Q E hX ok => h K X A l s vs Q E hX ⟨ok.1, by have := ok.2.1; (first | lia | omega), by have := ok.2.2.1; (first | lia | omega), ok.2.2.2⟩
theorem ev_fn (T0 : Top0 c) (i : Nat) {f : Str} {fp p : Pos} {args : List PySem.Expr} {ts : List T} {e₀ : PySem.Expr} {er : List PySem.Expr} {t : T} {k : Nat} (h₂ : CallP c k (.ref (fa c i)) ts σ₁ (fun o => o = .ret t σ₂)) (h₁ : EvsTo c n names loc σ args ts σ₁) (hkn : k ≤ n := by decide)
    (hk : names.lookup f = some .globalImplicit := by rfl) (hi : isDef i = true := by rfl) (hf : f = dn i := by rfl) (ha : args = e₀ :: er := by rfl) (hs : ∀ env, starEach (e₀ :: er) env = (false, eval e₀ env) :: starEach er env := by intro _; rfl) (hd : (f == ("__debug__" : Str)) = false := by decide) :
    EvTo c n names loc σ (.Call (.Name f fp) args [] p) t σ₂ := by
  subst hf
  exact ev_call (T0.fn i hi).1 (T0.fn i hi).2.isFn hk h₁ (h₂.up hkn) ha hs hd
theorem ev_bi {x : Str} {v : Value} (B : BiOk c x v) {fp p : Pos} {args : List PySem.Expr} {ts : List T} {e₀ : PySem.Expr} {er : List PySem.Expr} {t : T} (h₂ : CallB c n v ts σ₁ t) (h₁ : EvsTo c n names loc σ args ts σ₁) (hv : (∃ id, v = .builtin id) ∨ ∃ id, v = .type id := by first | exact .inl ⟨_, rfl⟩ | exact .inr ⟨_, rfl⟩)
    (hk : names.lookup x = some .globalImplicit := by rfl) (ha : args = e₀ :: er := by rfl) (hs : ∀ env, starEach (e₀ :: er) env = (false, eval e₀ env) :: starEach er env := by intro _; rfl) (hp : ∀ p env, (backTo p (starEach (e₀ :: er) env)).any (·.1) = false := by intro _ _; rfl) (hd : (x == ("__debug__" : Str)) = false := by decide) :
    EvTo c n names loc σ (.Call (.Name x fp) args [] p) t σ₁ := evb_node B.1 B.2 hk h₁ h₂ hv ha hs hp hd
theorem ev_g {x : Str} {p : Pos} {i : Int} (hg : ∃ t, c.mg x = some (.int i t)) (hk : names.lookup x = some .globalImplicit := by rfl) (hd : (x == ("__debug__" : Str)) = false := by decide) : EvTo c n names loc σ (.Name x p) (.int i) σ := let ⟨t, h⟩ := hg; ev_gint h hk hd
theorem ev_l {x : Str} {p : Pos} {t : T} (hl : loc.lookup x = some t := by rfl) (hk : names.lookup x = some .local := by rfl) (hq : plT t = true := by rfl)
    (hd : (x == ("__debug__" : Str)) = false := by decide) : EvTo c n names loc σ (.Name x p) t σ := ev_loc hl hk hq hd
/-- a def's call from its body's walk -/
theorem fn_call (T0 : Top0 c) (i : Nat) {ts : List T} {P : Out → Prop} (hb : Ex c n (nm i) ((pr i).zip ts).reverse σ (bd i) (soP P)) (hi : isDef i = true := by rfl) (hlen : ts.length = (pr i).length := by rfl) (hk : ∀ p ∈ pr i, Bnd (nm i) p) : CallP c (n + 1) (.ref (fa c i)) ts σ P :=
  callp (T0.fn i hi).2 hlen hk hb
end
end Mine
end
section
namespace Mine
theorem bnd_of {names : List (Str × NameKind)} {ps : List Str} (h : (ps.all fun p => names.lookup p == some .local || names.lookup p == some .cell) = true) : ∀ p ∈ ps, Bnd names p := fun p hp => by
  have := List.all_eq_true.mp h p hp
  simp only [Bool.or_eq_true, beq_iff_eq] at this
  exact this
section
variable {c : Cfg} {n : Nat} {σ : St} (T0 : Top0 c)
include T0
theorem c_10 : CallP c 9 (.ref (fa c 10)) [.disk] σ (fun o => o = .ret (.int 16) σ) :=
  fn_call T0 10 (ex_ret (ev_if (ts_cmp (ev_blocks T0.DA ev_l) ev_int cmp_le) (fun _ => ev_int) (fun h => absurd h (by decide))) rfl) (hk := bnd_of rfl)
theorem c_11 : CallP c 9 (.ref (fa c 11)) [.disk] σ (fun o => o = .ret (.int 2) σ) :=
  fn_call T0 11 (ex_ret (ev_fdiv (ev_block T0.DA ev_l) (ev_record T0.DA ev_l) (by decide) (by decide)) rfl) (hk := bnd_of rfl)
theorem c_12 : CallP c 10 (.ref (fa c 12)) [.disk] σ (fun o => o = .ret (.int 32) σ) :=
  fn_call T0 12 (ex_ret (ev_bi T0.min b_min (evs_cons (ev_mul (ev_fn T0 10 (c_10 T0) (evs_cons ev_l evs_nil)) (ev_fn T0 11 (c_11 T0) (evs_cons ev_l evs_nil)) (.of_left (by decide))) (evs_cons (ev_g T0.MOST_RECORDS) evs_nil))) rfl) (hk := bnd_of rfl)
theorem c_13 : CallP c 9 (.ref (fa c 13)) [.disk] σ (fun o => o = .ret (.int 4) σ) :=
  fn_call T0 13 (ex_ret (ev_fdiv (ev_sub (ev_add (ev_mul (ev_entries T0.DA ev_l) (ev_g T0.ENTRY_SIZE) (.of_left (by decide))) (ev_block T0.DA ev_l)) ev_int) (ev_block T0.DA ev_l) (by decide) (by decide)) rfl) (hk := bnd_of rfl)
theorem c_14 : CallP c 9 (.ref (fa c 14)) [.disk] σ (fun o => o = .ret .none σ) :=
  fn_call T0 14 (ex_if (ts_val (ev_ro T0.DA ev_l)) (fun h => absurd h (by decide)) (fun _ => ex_nil (ex_nil rfl))) (hk := bnd_of rfl)
end
end Mine
end
section
namespace Mine
/-- the k-th entry's octets -/
noncomputable def row (d : List Int) (k : Nat) : List Int := (d.drop (32 * k)).take 32
theorem row_len {d : List Int} (hd : d.length = 256) {k : Nat} (hk : k < 4) : (row d k).length = 32 := by
  unfold row; rw [List.length_take, List.length_drop, hd]; (first | lia | omega)
theorem cut_row {d : List Int} (hd : d.length = 256) {k : Nat} (hk : k < 4) : cut d (some (32 * k)) (some (32 * k + 32)) = row d k := by
  unfold cut row
  simp only [Option.elim_some, hd]
  rw [Nat.min_eq_left (by (first | lia | omega)), Nat.min_eq_left (by (first | lia | omega))]
  congr 1; (first | lia | omega)
noncomputable def entT (o : List Int) : T := .ent (o.getD 0 0) (cut o (some 1) (some 12)) (o.getD 14 0 * 32 + (o.getD 12 0).fmod 32) (o.getD 13 0) (o.getD 15 0) (cut o (some 16) (some 32))

theorem putF_dup {name : Str} {t : T} : ∀ {fs : List (Str × T)}, (fs.map (·.1)).Nodup → ∀ p ∈ putF name t fs, p.1 = name → p = (name, t)
  | [], _, p, hp, _ => by simpa [putF] using hp
  | (f, u) :: r, h, p, hp, e => by
    simp only [List.map_cons, List.nodup_cons] at h
    simp only [putF] at hp
    split at hp
    · rename_i hf
      rcases List.mem_cons.mp hp with q | q
      · rw [q, hf]
      · exact absurd (List.mem_map.mpr ⟨p, q, e.trans hf.symm⟩) h.1
    · rename_i hf
      rcases List.mem_cons.mp hp with q | q
      · rw [q] at e; exact absurd e hf
      · exact putF_dup h.2 p q e
theorem hno_of {loc : Loc} (h : (loc.all fun p => !isOwn p.2) = true) : ∀ p ∈ loc, isOwn p.2 = false := fun p hp => by simpa using List.all_eq_true.mp h p hp

section
variable {c : Cfg} {n : Nat} {σ : St} (T0 : Top0 c)
include T0
theorem c_18 {k : Nat} (hk : k < 4) (hD : σ.data.length = 256) : CallP c 9 (.ref (fa c 18)) [.disk, .int k] σ (fun o => o = .ret (.fints (row σ.data k)) σ) :=
  fn_call T0 18 (ex_if (ts_not (ts_chain (t₂ := .int (k : Int)) ev_int ev_l (ev_entries T0.DA ev_l) cmp_le cmp_lt)) (fun h => by simp at h; (first | lia | omega)) (fun _ => ex_nil (ex_ret
    (ev_dslice_f (ev_data T0.DA ev_l) (.some (k := 32 * k) (ev_mul (a := (k : Int)) ev_l (ev_g T0.ENTRY_SIZE) (.of_right (by decide))) (by (first | lia | omega))) (.some (k := 32 * k + 32) (ev_mul (ev_add (a := (k : Int)) ev_l ev_int) (ev_g T0.ENTRY_SIZE) (.of_right (by decide))) (by (first | lia | omega))) (by rw [hD]; decide))
    (by show _ = _; rw [cut_row hD hk])))) (hk := bnd_of rfl)
/-- map_of -/
theorem c_26 {o : List Int} (ho : o.length = 32) : CallP c 10 (.ref (fa c 26)) [.disk, .ints o] σ (fun r => r = .ret (.fints (cut o (some 16) (some 32))) σ) :=
  fn_call T0 26 (ex_if (ts_cmp (ev_fn T0 10 (c_10 T0) (evs_cons ev_l evs_nil)) ev_int cmp_eq) (fun _ => ex_ret (ev_slice_f (ev_cell rfl rfl) (.some (k := 16) (ev_g T0.MAP_AT) rfl) (.some (k := 32) (ev_g T0.ENTRY_SIZE) rfl) (by rw [ho]; decide)) rfl) (fun h => absurd h (by decide))) (hk := bnd_of rfl)
/-- Entry.__init__ -/
theorem i_9 {u x : Int} {raw : List Int} (hz : raw.length ≤ sizeLine) (a d : Addr) : Ex c 9 (inm 9) (((("self" : Str) :: ["user", "raw", "extent"]).zip (T.ownO a d c.EntC [] :: [.int u, .ints raw, .int x])).reverse) σ (ibd 9)
    (fun o => ∃ loc', o = .next loc' σ ∧ loc'.lookup ("self" : Str) = some (T.ownO a d c.EntC [("user", .int u), ("raw", .ints raw), ("extent", .int x), ("spare", .int 0), ("count", .int 0), ("map", .ints [])])) :=
  let loc' : Loc := [("extent", .int x), ("raw", .ints raw), ("user", .int u)]
  have hno : ∀ p ∈ loc', isOwn p.2 = false := hno_of rfl
  ex_step (st_oattr (loc' := loc') T0.set.1 rfl rfl ev_l (by simp) (by simp) (putF_dup (by decide)) ⟨.inl rfl, .inl rfl, .inl rfl, trivial⟩ hno)
  (ex_step (st_oattr (loc' := loc') T0.set.2.1 rfl rfl (ev_bi T0.list (b_list hz) (evs_cons ev_l evs_nil)) (by simp) (by simp [putF]) (putF_dup (by simp [putF])) ⟨.inl rfl, .inl rfl, .inl rfl, trivial⟩ hno)
  (ex_step (st_oattr (loc' := loc') T0.set.2.2.1 rfl rfl ev_l (by simp) (Nat.lt_of_le_of_lt (Nat.le_refl 2) (by decide)) (putF_dup (fs := [("user", .int u), ("raw", .ints raw)]) (by simp; decide)) ⟨.inl rfl, .inl rfl, .inl rfl, trivial⟩ hno)
  (ex_step (st_oattr (loc' := loc') T0.set.2.2.2.1 rfl rfl ev_int (by simp) (Nat.lt_of_le_of_lt (Nat.le_refl 3) (by decide)) (putF_dup (fs := [("user", .int u), ("raw", .ints raw), ("extent", .int x)]) (by simp; decide)) ⟨.inl rfl, .inl rfl, .inl rfl, trivial⟩ hno)
  (ex_step (st_oattr (loc' := loc') T0.set.2.2.2.2.1 rfl rfl ev_int (by simp) (Nat.lt_of_le_of_lt (Nat.le_refl 4) (by decide)) (putF_dup (fs := [("user", .int u), ("raw", .ints raw), ("extent", .int x), ("spare", .int 0)]) (by simp; decide)) ⟨.inl rfl, .inl rfl, .inl rfl, trivial⟩ hno)
  (ex_step (st_oattr (loc' := loc') T0.set.2.2.2.2.2 rfl rfl (ev_ints evs_nil rfl (by decide)) (by simp) (Nat.lt_of_le_of_lt (Nat.le_refl 5) (by decide)) (putF_dup (fs := [("user", .int u), ("raw", .ints raw), ("extent", .int x), ("spare", .int 0), ("count", .int 0)]) (by simp; decide)) ⟨.inl rfl, .inl rfl, .inl rfl, trivial⟩ hno)
  (ex_nil ⟨_, rfl, rfl⟩))))))
/-- entry_from: a free entry -/
theorem c_17n {o : List Int} (ho : o.length = 32) (h0 : o.getD 0 0 = 229) : CallP c 12 (.ref (fa c 17)) [.disk, .ints o] σ (fun r => r = .ret .none σ) :=
  fn_call T0 17 (ex_if (ts_cmp (ev_item (i := 0) ev_l ev_int (by decide) (by (first | lia | omega)) (by (first | lia | omega))) (ev_g T0.FREE) cmp_eq) (fun _ => ex_ret ev_none rfl) (fun h => by simp at h; rw [List.getD_eq_getElem?_getD] at h0; simp_all)) (hk := bnd_of rfl)
theorem c_17 {o : List Int} (ho : o.length = 32) (h0 : o.getD 0 0 ≠ 229) : CallP c 12 (.ref (fa c 17)) [.disk, .ints o] σ (fun r => r = .ret (entT o) σ) := by
  obtain ⟨fI, mk, hf⟩ := T0.mke
  refine fn_call T0 17 (ex_if (ts_cmp (ev_item (i := 0) ev_l ev_int (by decide) (by (first | lia | omega)) (by (first | lia | omega))) (ev_g T0.FREE) cmp_eq) (fun h => by simp at h; rw [List.getD_eq_getElem?_getD] at h0; simp_all) (fun _ => ex_nil ?_)) (hk := bnd_of rfl)
  let loc' : Loc := [("octets", .ints o), ("disk", .disk)]
  have hno : ∀ p ∈ loc', isOwn p.2 = false := hno_of rfl
  have it : ∀ (k : Nat), k < 32 → ∀ {names loc p q r} {kk : Nat}, names.lookup ("octets" : Str) = some .local → loc.lookup ("octets" : Str) = some (.ints o) →
      EvTo c 11 names loc σ (.Subscript (.Name "octets" p) (.Constant (.int (k : Int)) kk q) r) (.int (o.getD k 0)) σ := fun k hk names loc p q r kk h1 h2 => by
    have := ev_item (c := c) (n := 11) (σ := σ) (σ₁ := σ) (σ₂ := σ) (i := (k : Int)) (p := r) (ev_loc (p := p) h2 h1) (ev_int (k := kk) (p := q)) (by (first | lia | omega)) (by (first | lia | omega)) (by (first | lia | omega))
    simpa using this
  refine ex_own_cls (fI := fI) T0.ent.1 T0.ent.2 rfl
    (evs_cons (it 0 (by decide) rfl rfl) (evs_cons (ev_f_ints (ev_slice_f ev_l (.some (k := 1) ev_int rfl) (.some (k := 12) (ev_add ev_int (ev_g T0.NAME_SIZE)) rfl) (by rw [ho]; decide)))
      (evs_cons (ev_add (ev_mul (it 14 (by decide) rfl rfl) (ev_g T0.EXTENTS_LOW) (.of_right (by decide))) (ev_mod (it 12 (by decide) rfl rfl) (ev_g T0.EXTENTS_LOW) (by decide))) evs_nil)))
    mk hf rfl (bnd_of rfl) rfl (fun a d => i_9 T0 (by
      unfold cut; rw [List.length_take]; refine Nat.le_trans (Nat.min_le_left _ _) ?_; simp only [Option.elim_some, ho]; decide) a d) (.inl rfl) (fun _ _ h => nomatch h) fun a d => ?_
  refine ex_step (st_oattr (loc' := loc') T0.set.2.2.2.1 rfl rfl (it 13 (by decide) rfl rfl) (by simp) (Nat.lt_of_le_of_lt (Nat.le_refl 6) (by decide)) (putF_dup (by simp; decide)) ⟨.inl rfl, .inl rfl, trivial⟩ hno) ?_
  refine ex_step (st_oattr (loc' := loc') T0.set.2.2.2.2.1 rfl rfl (it 15 (by decide) rfl rfl) (by simp) (Nat.lt_of_le_of_lt (Nat.le_refl 6) (by decide)) (putF_dup (fs := [("user", .int (o.getD 0 0)), ("raw", .ints (cut o (some 1) (some 12))), ("extent", .int (o.getD 14 0 * 32 + (o.getD 12 0).fmod 32)), ("spare", .int (o.getD 13 0)), ("count", .int 0), ("map", .ints [])]) (by simp; decide)) ⟨.inl rfl, .inl rfl, trivial⟩ hno) ?_
  refine ex_step (st_oattr (loc' := loc') T0.set.2.2.2.2.2 rfl rfl (ev_fn T0 26 (c_26 T0 ho) (evs_cons ev_l (evs_cons ev_l evs_nil))) (by simp) (Nat.lt_of_le_of_lt (Nat.le_refl 6) (by decide)) (putF_dup (fs := [("user", .int (o.getD 0 0)), ("raw", .ints (cut o (some 1) (some 12))), ("extent", .int (o.getD 14 0 * 32 + (o.getD 12 0).fmod 32)), ("spare", .int (o.getD 13 0)), ("count", .int (o.getD 15 0)), ("map", .ints [])]) (by simp; decide)) ⟨.inl rfl, .inl rfl, trivial⟩ hno) ?_
  refine ex_ret_ownE (fs := [("user", .int (o.getD 0 0)), ("raw", .ints (cut o (some 1) (some 12))), ("extent", .int (o.getD 14 0 * 32 + (o.getD 12 0).fmod 32)), ("spare", .int (o.getD 13 0)), ("count", .int (o.getD 15 0)), ("map", .fints (cut o (some 16) (some 32)))]) rfl rfl (Nat.le_refl 6)
    (.head _) (.tail _ (.head _)) (.tail _ (.tail _ (.head _))) (.tail _ (.tail _ (.tail _ (.head _)))) (.tail _ (.tail _ (.tail _ (.tail _ (.head _))))) (.tail _ (.tail _ (.tail _ (.tail _ (.tail _ (.head _)))))) rfl
end
end Mine
end
section
namespace Mine
noncomputable def nodupB : List Str → Bool
  | [] => true
  | x :: r => !(r.any (· == x)) && nodupB r
theorem nodup_of : ∀ {l : List Str}, nodupB l = true → l.Nodup
  | [], _ => by simp
  | x :: r, h => by
    simp only [nodupB, Bool.and_eq_true, Bool.not_eq_true'] at h
    rw [List.nodup_cons]
    refine ⟨fun q => ?_, nodup_of h.2⟩
    have := List.any_eq_false.mp h.1 x q
    simp at this
noncomputable def tgtChk (names : List (Str × NameKind)) : PySem.Expr → Bool
  | .Name x _ => names.lookup x == some .local
  | .Tuple [.Name x _, .Name y _] _ _ => names.lookup x == some .local && names.lookup y == some .local
  | _ => false
theorem beq_k {a b : Option NameKind} (h : (a == b) = true) : a = b := by simpa using h
theorem tgt_of {names : List (Str × NameKind)} {e : PySem.Expr} (h : tgtChk names e = true) : TgtLoc names e := by
  cases e with
  | Name x p => exact beq_k h
  | Tuple l c p =>
    cases l with
    | nil => exact Bool.noConfusion h
    | cons a l =>
      cases a with
      | Name x p =>
        cases l with
        | nil => exact Bool.noConfusion h
        | cons b l =>
          cases b with
          | Name y q =>
            cases l with
            | nil => exact ⟨beq_k (Bool.and_eq_true_iff.mp h).1, beq_k (Bool.and_eq_true_iff.mp h).2⟩
            | cons _ _ => exact Bool.noConfusion h
          | _ => exact Bool.noConfusion h
      | _ => exact Bool.noConfusion h
  | _ => exact Bool.noConfusion h
noncomputable def compChk (names : List (Str × NameKind)) (sc : Scope) (target : PySem.Expr) : Bool :=
  decide (sc.kind = .function) && sc.names.all (fun x => x.2 != .cell) && sc.names.all (fun x => x.2 != .local || sc.names.lookup x.1 == some .local) && sc.names.all (fun x => x.2 != .free || names.lookup x.1 == some .cell) && nodupB (sc.names.map (·.1)) && tgtChk (relN names sc.names) target
theorem compOk_of {names : List (Str × NameKind)} {sc : Scope} {loc cap : Loc} {target : PySem.Expr} (h : compChk names sc target = true) (hc : ∀ p ∈ cap, loc.lookup p.1 = some p.2 ∧ names.lookup p.1 = some .cell ∧ (relN names sc.names).lookup p.1 = some .cell) : CompOk names (relN names sc.names) sc loc cap target := by
  simp only [compChk, Bool.and_eq_true, decide_eq_true_eq] at h
  obtain ⟨⟨⟨⟨⟨h1, h2⟩, h3⟩, h4⟩, h5⟩, h6⟩ := h
  refine ⟨h1, fun x hx => by simpa using List.all_eq_true.mp h2 x hx, fun x hx hl => ?_, rfl, tgt_of h6, fun x hx hl => ?_, nodup_of h5, hc⟩
  · have := List.all_eq_true.mp h3 x hx; rw [hl] at this; simpa using this
  · have := List.all_eq_true.mp h4 x hx; rw [hl] at this; simpa using this

theorem enum_get {x y : Str} {l : List Int} {i : Nat} {b : Loc} (h : (List.zipWith (fun t u => [(y, u), (x, t)]) ((rng 0 l.length).map T.int) (l.map T.int))[i]? = some b) : i < l.length ∧ b = [(y, .int (l.getD i 0)), (x, .int (i : Int))] := by
  rw [List.getElem?_zipWith, List.getElem?_map, List.getElem?_map] at h
  cases h1 : (rng 0 l.length)[i]? with
  | none => rw [h1] at h; cases h
  | some z =>
    cases h2 : l[i]? with
    | none => rw [h1, h2] at h; cases h
    | some w =>
      rw [h1, h2] at h
      have hz := rng_get h1
      have hi : i < l.length := (List.getElem?_eq_some_iff.mp h2).1
      simp at h
      refine ⟨hi, ?_⟩
      rw [← h, hz, List.getD_eq_getElem?_getD, h2]; simp
theorem rng_bs {x : Str} {a : Int} {k i : Nat} {b : Loc} (h : ((rng a k).map fun j => [(x, T.int j)])[i]? = some b) : i < k ∧ b = [(x, .int (a + (i : Int)))] := by
  rw [List.getElem?_map] at h
  obtain ⟨z, hz, rfl⟩ := Option.map_eq_some_iff.mp h
  refine ⟨?_, by rw [rng_get hz]⟩
  have := (List.getElem?_eq_some_iff.mp hz).1
  rwa [rng_len] at this

/-- o written into d from p on -/
noncomputable def putAt (d : List Int) (p : Nat) : List Int → List Int
  | [] => d
  | x :: o => putAt (d.set p x) (p + 1) o
theorem putAt_len : ∀ (o d : List Int) (p : Nat), (putAt d p o).length = d.length
  | [], _, _ => rfl
  | x :: o, d, p => by rw [putAt, putAt_len o]; simp
theorem putAt_snoc : ∀ (o d : List Int) (p : Nat) (x : Int), putAt d p (o ++ [x]) = (putAt d p o).set (p + o.length) x
  | [], d, p, x => by simp [putAt]
  | y :: o, d, p, x => by
    rw [List.cons_append, putAt, putAt, putAt_snoc o]
    congr 1; simp; (first | lia | omega)
theorem putAt_take {o d : List Int} {p i : Nat} (hi : i < o.length) : putAt d p (o.take (i + 1)) = (putAt d p (o.take i)).set (p + i) (o.getD i 0) := by
  have : o.take (i + 1) = o.take i ++ [o.getD i 0] := by
    rw [List.take_add_one, List.getD_eq_getElem?_getD, List.getElem?_eq_getElem hi]; rfl
  rw [this, putAt_snoc, List.length_take, Nat.min_eq_left (Nat.le_of_lt hi)]

noncomputable def entO (o : List Int) : T := if o.getD 0 0 = 229 then .none else entT o
noncomputable def octs (u : Int) (raw : List Int) (x sp k : Int) (mp : List Int) : List Int := ([u] ++ raw) ++ [x.fmod 32, sp, x.fdiv 32, k] ++ mp
noncomputable def St.put (σ : St) (p : Nat) (o : List Int) : St := { σ with data := putAt σ.data p o }

section
variable {c : Cfg} {n : Nat} {σ : St} (T0 : Top0 c)
include T0
theorem c_17o {o : List Int} (ho : o.length = 32) : CallP c 12 (.ref (fa c 17)) [.disk, .ints o] σ (fun r => r = .ret (entO o) σ) := by
  unfold entO
  by_cases h : o.getD 0 0 = 229
  · rw [if_pos h]; exact c_17n T0 ho h
  · rw [if_neg h]; exact c_17 T0 ho h
theorem c_19 {k : Nat} (hk : k < 4) (hD : σ.data.length = 256) : CallP c 13 (.ref (fa c 19)) [.disk, .int k] σ (fun o => o = .ret (entO (row σ.data k)) σ) :=
  fn_call T0 19 (ex_ret (ev_fn T0 17 (c_17o T0 (row_len hD hk)) (evs_cons ev_l (evs_cons (ev_f_ints (ev_fn T0 18 (c_18 T0 hk hD) (evs_cons ev_l (evs_cons ev_l evs_nil)))) evs_nil))) rfl) (hk := bnd_of rfl)
theorem c_27 {l : List Int} (hl : l.length ≤ sizeLine) : CallP c 10 (.ref (fa c 27)) [.disk, .ints l] σ (fun o => o = .ret (.ints l) σ) :=
  fn_call T0 27 (ex_if (ts_cmp (ev_fn T0 10 (c_10 T0) (evs_cons ev_l evs_nil)) ev_int cmp_eq) (fun _ => ex_ret (ev_bi T0.list (b_list hl) (evs_cons ev_l evs_nil)) rfl) (fun h => absurd h (by decide))) (hk := bnd_of rfl)
theorem c_16 {u x sp k : Int} {raw mp : List Int} (hr : raw.length ≤ 100) (hm : mp.length ≤ 100) : CallP c 11 (.ref (fa c 16)) [.disk, .ent u raw x sp k mp] σ (fun o => o = .ret (.ints (octs u raw x sp k mp)) σ) :=
  fn_call T0 16 (ex_step (st_assign (ev_cat (ev_ints (l := [u]) (evs_cons (ev_user T0.DA ev_l) evs_nil) rfl (by show 1 ≤ _; decide)) (ev_raw T0.DA ev_l) (by simp [sizeLine_eq]; (first | lia | omega))) (.inl rfl))
    (ex_step (st_assign (ev_cat (a := [u] ++ raw) ev_l (ev_ints (l := [x.fmod 32, sp, x.fdiv 32, k]) (evs_cons (ev_mod (ev_extent T0.DA ev_l) (ev_g T0.EXTENTS_LOW) (by decide)) (evs_cons (ev_spare T0.DA ev_l) (evs_cons (ev_fdiv (ev_extent T0.DA ev_l) (ev_g T0.EXTENTS_LOW) (by decide) (by decide)) (evs_cons (ev_count T0.DA ev_l) evs_nil)))) rfl (by simp [sizeLine_eq])) (by simp [sizeLine_eq]; (first | lia | omega))) (.inl rfl))
    (ex_ret (ev_cat (a := ([u] ++ raw) ++ [x.fmod 32, sp, x.fdiv 32, k]) ev_l (ev_fn T0 27 (c_27 T0 (by simp [sizeLine_eq]; (first | lia | omega))) (evs_cons ev_l (evs_cons (ev_map T0.DA ev_l) evs_nil))) (by simp [sizeLine_eq]; (first | lia | omega))) rfl))) (hk := bnd_of rfl)
/-- put_entry -/
theorem c_21 {k : Nat} {o : List Int} (hk : k < 4) (hD : σ.data.length = 256) (ho : o.length = 32) : CallP c 12 (.ref (fa c 21)) [.disk, .int k, .ints o] σ (fun r => r = .ret .none (σ.put (32 * k) o)) :=
  let base : Loc := [("octets", .ints o), ("number", .int k), ("disk", .disk)]
  fn_call T0 21 (ex_step (st_expr (ev_fn T0 14 (c_14 T0) (evs_cons ev_l evs_nil))) (ex_step (st_expr (ev_fn T0 18 (c_18 T0 hk hD) (evs_cons ev_l (evs_cons ev_l evs_nil))))
    (ex_for (iter_enum T0.enumerate.1 T0.enumerate.2 rfl (l := o) ev_l) ⟨.inl rfl, .inl rfl⟩ (fun i loc σ' => loc = base ∧ σ' = σ.put (32 * k) (o.take i)) ⟨rfl, by simp [St.put, putAt]⟩
      (fun i b loc σ' hb hJ => by
        obtain ⟨hi, rfl⟩ := enum_get hb
        obtain ⟨rfl, rfl⟩ := hJ
        have hlen : (putAt σ.data (32 * k) (o.take i)).length = 256 := by rw [putAt_len, hD]
        refine ex_step (st_dset (x := o.getD i 0) (k := (k : Int) * 32 + (i : Int)) ev_l (ev_data T0.DA ev_l) (ev_add (ev_mul (a := (k : Int)) ev_l (ev_g T0.ENTRY_SIZE) (.of_right (by decide))) (b := (i : Int)) ev_l) (by (first | lia | omega)) (by show _ < ((putAt σ.data (32 * k) (o.take i)).length : Int); rw [hlen]; (first | lia | omega)) (by show (putAt σ.data (32 * k) (o.take i)).length < 2 ^ 62; rw [hlen]; decide))
          (ex_nil ⟨base, ⟨.inl rfl, .inl rfl, .inl rfl, trivial⟩, rfl, ?_⟩)
        show ({ σ.put (32 * k) (o.take i) with data := _ } : St) = _
        unfold St.put
        rw [putAt_take hi]
        have : ((k : Int) * 32 + (i : Int)).toNat = 32 * k + i := by (first | lia | omega)
        rw [this])
      (fun loc σ' hJ => by
        obtain ⟨rfl, rfl⟩ := hJ
        refine ex_nil ?_
        have : (List.zipWith (fun t u => [((Str.ofString "octet"), u), ((Str.ofString "at"), t)]) ((rng 0 o.length).map T.int) (o.map T.int)).length = o.length := by simp [rng_len]
        show Out.ret .none _ = _
        rw [this, List.take_length])))) (hk := bnd_of rfl)
end
end Mine
end
section
namespace Mine
noncomputable abbrev band := Builtin.bitAnd
noncomputable def freeE (d : List Int) : Option Nat := (List.range 4).find? fun k => d.getD (32 * k) 0 == 229
noncomputable def optT : Option Nat → T
  | none => .none
  | some k => .int (k : Int)
noncomputable def matchB (p r : List Int) : Bool := (List.zipWith (fun a b => band a 127 == 63 || band a 127 == band b 127) (p.take (min p.length r.length)) (r.take (min p.length r.length))).all id
noncomputable def pairT (d : List Int) (k : Nat) : T := .tup [.int (k : Int), entT (row d k)]
noncomputable def liveK (d : List Int) (m : Nat) : List Nat := (List.range m).filter fun k => (row d k).getD 0 0 != 229
noncomputable def findK (d : List Int) (u : Int) (pat : List Int) (m : Nat) : List Nat := (List.range m).filter fun k => (row d k).getD 0 0 == u && matchB pat (cut (row d k) (some 1) (some 12))

section
variable {c : Cfg} {n : Nat} {names : List (Str × NameKind)} {cap : Loc} {σ : St}
theorem els_zip {x y : Str} {elt : PySem.Expr} {g : Int → Int → T} : ∀ (xs ys : List Int), (∀ a b, EvTo c n names ([(y, .int b), (x, .int a)] ++ cap) σ elt (g a b) σ) →
    ElsTo c n names cap [] elt (List.zipWith (fun t u => [(y, u), (x, t)]) (xs.map T.int) (ys.map T.int)) σ (List.zipWith g xs ys) σ
  | [], ys, h => by simp; exact .nil
  | a :: xs, [], h => by simp; exact .nil
  | a :: xs, b :: ys, h => by
    simp only [List.map_cons, List.zipWith_cons_cons]
    exact .keep (.inl ⟨rfl, rfl⟩) (h a b) (els_zip xs ys h)
theorem els_one {x : Str} {elt : PySem.Expr} {g : Int → T} : ∀ (xs : List Int), (∀ a ∈ xs, EvTo c n names ([(x, .int a)] ++ cap) σ elt (g a) σ) → ElsTo c n names cap [] elt (xs.map fun i => [(x, T.int i)]) σ (xs.map g) σ
  | [], h => .nil
  | a :: xs, h => .keep (.inl ⟨rfl, rfl⟩) (h a (by simp)) (els_one xs fun b hb => h b (by simp [hb]))
theorem els_filter {x : Str} {t e : PySem.Expr} {q : Int → Bool} : ∀ (xs : List Int), (∀ a ∈ xs, TsTo c n names ([(x, .int a)] ++ cap) σ t (q a) σ) → (∀ a ∈ xs, EvTo c n names ([(x, .int a)] ++ cap) σ e (.int a) σ) → ElsTo c n names cap [t] e (xs.map fun i => [(x, T.int i)]) σ ((xs.filter q).map T.int) σ
  | [], _, _ => .nil
  | a :: xs, h, h' => by
    have ih := els_filter xs (fun b hb => h b (by simp [hb])) (fun b hb => h' b (by simp [hb]))
    have ht := h a (by simp)
    rw [List.filter_cons]
    cases hq : q a with
    | true => rw [hq] at ht; rw [if_pos rfl]; exact .keep (.inr ⟨_, rfl, ht⟩) (h' a (by simp)) ih
    | false => rw [hq] at ht; rw [if_neg (by simp)]; exact .drop (.inr ⟨_, rfl, ht⟩) ih
end

section
variable {c : Cfg} {n : Nat} {σ : St} (T0 : Top0 c)
include T0
theorem c_20 {k : Nat} {u x sp kk : Int} {raw mp : List Int} (hk : k < 4) (hD : σ.data.length = 256) (hr : raw.length = 11) (hm : mp.length = 16) : CallP c 13 (.ref (fa c 20)) [.disk, .int k, .ent u raw x sp kk mp] σ (fun r => r = .ret .none (σ.put (32 * k) (octs u raw x sp kk mp))) :=
  fn_call T0 20 (ex_step (st_expr (ev_fn T0 21 (c_21 T0 hk hD (by simp [octs, hr, hm])) (evs_cons ev_l (evs_cons ev_l (evs_cons (ev_fn T0 16 (c_16 T0 (by (first | lia | omega)) (by (first | lia | omega))) (evs_cons ev_l (evs_cons ev_l evs_nil))) evs_nil))))) (ex_nil rfl)) (hk := bnd_of rfl)
theorem c_22 {k : Nat} (hk : k < 4) (hD : σ.data.length = 256) : CallP c 10 (.ref (fa c 22)) [.disk, .int k] σ (fun r => r = .ret .none (σ.put (32 * k) [229])) :=
  fn_call T0 22 (ex_step (st_expr (ev_fn T0 14 (c_14 T0) (evs_cons ev_l evs_nil))) (ex_step (st_expr (ev_fn T0 18 (c_18 T0 hk hD) (evs_cons ev_l (evs_cons ev_l evs_nil))))
    (ex_step (st_dset (x := 229) (k := (k : Int) * 32) (ev_g T0.FREE) (ev_data T0.DA ev_l) (ev_mul (a := (k : Int)) ev_l (ev_g T0.ENTRY_SIZE) (.of_right (by decide))) (by (first | lia | omega)) (by (first | lia | omega)) (by (first | lia | omega)))
      (ex_nil (by
        show Out.ret .none _ = _
        unfold St.put putAt putAt
        have : ((k : Int) * 32).toNat = 32 * k := by (first | lia | omega)
        rw [this]))))) (hk := bnd_of rfl)
theorem freeE_none {d : List Int} (h : ∀ j, j < 4 → d.getD (32 * j) 0 ≠ 229) : freeE d = none := by
  unfold freeE; rw [List.find?_eq_none]; intro j hj; simpa using h j (by simpa using hj)
theorem c_23 (hD : σ.data.length = 256) : CallP c 9 (.ref (fa c 23)) [.disk] σ (fun r => r = .ret (optT (freeE σ.data)) σ) :=
  fn_call T0 23 (ex_for (iter_range1 T0.range.1 T0.range.2 rfl (ev_entries T0.DA ev_l) (by decide) (by decide)) (.inl rfl) (fun i loc σ' => loc = ([("disk", .disk)] : Loc) ∧ σ = σ' ∧ ∀ j, j < i → σ.data.getD (32 * j) 0 ≠ 229) ⟨rfl, rfl, fun _ h => absurd h (by (first | lia | omega))⟩
    (fun i b loc σ' hb hJ => by
      obtain ⟨hi, rfl⟩ := rng_bs hb
      obtain ⟨rfl, rfl, hJ⟩ := hJ
      have hi : i < 4 := hi
      have e : ((0 : Int) + (i : Int)) * 32 = ((32 * i : Nat) : Int) := by (first | lia | omega)
      refine ex_if (b := σ.data.getD (32 * i) 0 == 229) (ts_cmp (ev_ditem (i := ((32 * i : Nat) : Int)) (ev_data T0.DA ev_l) (by rw [← e]; exact ev_mul (a := (0 : Int) + (i : Int)) ev_l (ev_g T0.ENTRY_SIZE) (.of_right (by decide))) (by (first | lia | omega)) (by (first | lia | omega)) (by (first | lia | omega))) (ev_g T0.FREE) cmp_eq) (fun h => ex_ret (t := .int ((0 : Int) + (i : Int))) ev_l ?_) (fun h => ex_nil (ex_nil ⟨([("disk", .disk)] : Loc), ⟨.inl rfl, trivial⟩, rfl, rfl, fun j hj => ?_⟩))
      · show Out.ret _ _ = _
        have : freeE σ.data = some i := by
          unfold freeE
          rw [List.find?_eq_some_iff_append]
          refine ⟨by simpa using h, List.range i, List.range' (i + 1) (3 - i), ?_, fun a ha => by simpa using hJ a (by simpa using ha)⟩
          rw [List.range_eq_range', List.range_eq_range']
          have : List.range' 0 4 = List.range' 0 i ++ List.range' (0 + 1 * i) (4 - i) := by rw [List.range'_append]; congr 1; (first | lia | omega)
          rw [this, show 4 - i = (3 - i) + 1 by (first | lia | omega), List.range'_succ]; simp
        rw [this]; simp [optT]
      · rcases Nat.lt_succ_iff_lt_or_eq.mp hj with q | q
        · exact hJ j q
        · subst q; simpa using h)
    (fun loc σ' hJ => by
      obtain ⟨rfl, rfl, hJ⟩ := hJ
      refine ex_ret ev_none ?_
      show Out.ret _ _ = _
      rw [freeE_none (c := c) T0 fun j hj => hJ j (by simpa [rng_len] using hj)]; rfl)) (hk := bnd_of rfl)
/-- live_entries -/
theorem c_24 (hD : σ.data.length = 256) : CallP c 14 (.ref (fa c 24)) [.disk] σ (fun r => r = .ret (.list ((liveK σ.data 4).map (pairT σ.data))) σ) :=
  let base : Loc := [("disk", .disk)]
  fn_call T0 24 (ex_own_nil (.inl rfl) (fun _ _ h => nomatch h) (ex_for (iter_range1 T0.range.1 T0.range.2 rfl (ev_entries T0.DA ev_l) (by decide) (by decide)) (.inl rfl)
    (fun i loc σ' => loc = (("found", .own ((liveK σ.data i).map (pairT σ.data))) :: base : Loc) ∧ σ = σ') ⟨rfl, rfl⟩
    (fun i b loc σ' hb hJ => by
      obtain ⟨hi, rfl⟩ := rng_bs hb
      obtain ⟨rfl, rfl⟩ := hJ
      have hi : i < 4 := hi
      rw [Int.zero_add]
      refine ex_step (st_assign (t := entO (row σ.data i)) (ev_fn T0 19 (c_19 T0 hi hD) (evs_cons ev_l (evs_cons ev_l evs_nil))) (.inl rfl)) ?_
      have hz : ((liveK σ.data i).map (pairT σ.data)).length ≤ sizeLine := by
        rw [List.length_map]; unfold liveK
        refine Nat.le_trans (List.length_filter_le _ _) ?_
        rw [List.length_range, sizeLine_eq]; (first | lia | omega)
      by_cases hf : (row σ.data i).getD 0 0 = 229
      · have hf' := hf
        rw [List.getD_eq_getElem?_getD] at hf'
        have he : entO (row σ.data i) = .none := by unfold entO; rw [if_pos hf]
        rw [he]
        refine ex_if (ts_cmp ev_l ev_none (cmp_isnot_none none_is)) (fun h => absurd h (by decide)) (fun _ => ex_nil (ex_nil ⟨((("found", .own ((liveK σ.data (i + 1)).map (pairT σ.data))) :: base) : Loc), ⟨.inl ?_, .inl rfl, trivial⟩, rfl, rfl⟩))
        show some _ = some _
        unfold liveK
        rw [List.range_succ, List.filter_append]
        simp [hf']
      · have hf' := hf
        rw [List.getD_eq_getElem?_getD] at hf'
        have he : entO (row σ.data i) = entT (row σ.data i) := by unfold entO; rw [if_neg hf]
        rw [he]
        refine ex_if (ts_cmp ev_l ev_none (cmp_isnot_none ent_not_none)) (fun _ => ex_step (st_append (loc' := base) (t := pairT σ.data i) rfl rfl (ev_tup (evs_cons ev_l (evs_cons ev_l evs_nil)) (by show 2 ≤ _; decide)) ⟨.inl rfl, trivial⟩ (hno_of rfl) hz) (ex_nil (ex_nil ⟨((("found", .own ((liveK σ.data (i + 1)).map (pairT σ.data))) :: base) : Loc), ⟨.inl ?_, .inl rfl, trivial⟩, rfl, rfl⟩))) (fun h => absurd h (by decide))
        show some _ = some _
        unfold liveK
        rw [List.range_succ, List.filter_append]
        simp [hf'])
    (fun loc σ' hJ => by
      obtain ⟨rfl, rfl⟩ := hJ
      rw [show ((rng 0 (Int.toNat 4)).map fun i => [(Str.ofString "number", T.int i)]).length = 4 from by simp [rng_len]]
      exact ex_ret_own rfl rfl rfl))) (hk := bnd_of rfl)
end
end Mine
end
section
namespace Mine
/-- raise DiskError(w) -/
noncomputable def RaiseOk (c : Cfg) : Prop := ∀ (n : Nat) (names : List (Str × NameKind)) (loc : Loc) (σ : St) (w : Str) (fp p q cp : Pos) (k : Nat) (rest : List Stmt) (P : SO → Prop), names.lookup ("DiskError" : Str) = some .globalImplicit → P (.exc w σ) →
  Ex c (n + 8) names loc σ (.Raise (some (.Call (.Name "DiskError" fp) [.Constant (.str w) k cp] [] p)) none q :: rest) P

theorem map_bool {f : Int → Int → Bool} (xs ys : List Int) : List.zipWith (fun a b => T.bool (f a b)) xs ys = (List.zipWith f xs ys).map T.bool := by rw [List.map_zipWith]

section
variable {c : Cfg} {n : Nat} {σ : St} (T0 : Top0 c)
include T0
theorem c_30 {b i : Nat} (hb : b < 8) (hi : i < 2) : CallP c 10 (.ref (fa c 30)) [.disk, .int b, .int i] σ (fun r => r = .ret (.int ((32 * b + 16 * i : Nat) : Int)) σ) :=
  fn_call T0 30 (ex_if (b := (!(decide ((0 : Int) ≤ b) && decide ((b : Int) < 8))) || ((!(decide ((0 : Int) ≤ i) && decide ((i : Int) < 2))) || false)) (ts_bool (any_cons (ts_not (ts_chain (t₂ := .int (b : Int)) ev_int ev_l (ev_blocks T0.DA ev_l) cmp_le cmp_lt)) (fun _ => any_cons (ts_not (ts_chain (t₂ := .int (i : Int)) ev_int ev_l (ev_fn T0 11 (c_11 T0) (evs_cons ev_l evs_nil)) cmp_le cmp_lt)) (fun _ => any_nil))))
    (fun h => by simp at h; (first | lia | omega)) (fun _ => ex_nil (ex_ret (ev_add (ev_mul (a := (b : Int)) ev_l (ev_block T0.DA ev_l) (.of_right (by decide))) (ev_mul (a := (i : Int)) ev_l (ev_record T0.DA ev_l) (.of_right (by decide))))
      (by show Out.ret _ _ = _; congr 2; (first | lia | omega))))) (hk := bnd_of rfl)
noncomputable def recd (d : List Int) (p : Nat) : List Int := (d.drop p).take 16
omit T0 in
theorem cut_recd {d : List Int} (hd : d.length = 256) {p : Nat} (hp : p + 16 ≤ 256) : cut d (some p) (some (p + 16)) = recd d p := by
  unfold cut recd
  simp only [Option.elim_some, hd]
  rw [Nat.min_eq_left (by (first | lia | omega)), Nat.min_eq_left (by (first | lia | omega))]
  congr 1; (first | lia | omega)
theorem c_31 {b i : Nat} (hb : b < 8) (hi : i < 2) (hD : σ.data.length = 256) : CallP c 11 (.ref (fa c 31)) [.disk, .int b, .int i] σ (fun r => r = .ret (.ints (recd σ.data (32 * b + 16 * i))) σ) :=
  fn_call T0 31 (ex_step (st_assign (ev_fn T0 30 (c_30 T0 hb hi) (evs_cons ev_l (evs_cons ev_l (evs_cons ev_l evs_nil)))) (.inl rfl))
    (ex_ret (ev_f_ints (ev_dslice_f (ev_data T0.DA ev_l) (.some (k := 32 * b + 16 * i) ev_l rfl) (.some (k := 32 * b + 16 * i + 16) (ev_add (a := ((32 * b + 16 * i : Nat) : Int)) ev_l (ev_record T0.DA ev_l)) (by (first | lia | omega))) (by rw [hD]; decide))) (by show _ = _; rw [cut_recd hD (by (first | lia | omega))]))) (hk := bnd_of rfl)
theorem c_32 {b i : Nat} {o : List Int} (hb : b < 8) (hi : i < 2) (hD : σ.data.length = 256) (ho : o.length = 16) : CallP c 11 (.ref (fa c 32)) [.disk, .int b, .int i, .ints o] σ (fun r => r = .ret .none (σ.put (32 * b + 16 * i) o)) :=
  let p := 32 * b + 16 * i
  let base : Loc := [("begin", .int ((p : Nat) : Int)), ("octets", .ints o), ("index", .int i), ("block", .int b), ("disk", .disk)]
  fn_call T0 32 (ex_step (st_expr (ev_fn T0 14 (c_14 T0) (evs_cons ev_l evs_nil))) (ex_step (st_assign (ev_fn T0 30 (c_30 T0 hb hi) (evs_cons ev_l (evs_cons ev_l (evs_cons ev_l evs_nil)))) (.inl rfl))
    (ex_if (ts_cmp (ev_bi T0.len (b_len_ints (l := o) (by (first | lia | omega))) (evs_cons ev_l evs_nil)) (ev_record T0.DA ev_l) cmp_ne) (fun h => by simp [ho] at h) (fun _ => ex_nil
    (ex_for (iter_enum T0.enumerate.1 T0.enumerate.2 rfl (l := o) ev_l) ⟨.inl rfl, .inl rfl⟩ (fun i loc σ' => loc = base ∧ σ' = σ.put p (o.take i)) ⟨rfl, by simp [St.put, putAt]⟩
      (fun j b' loc σ' hb' hJ => by
        obtain ⟨hj, rfl⟩ := enum_get hb'
        obtain ⟨rfl, rfl⟩ := hJ
        have hlen : (putAt σ.data p (o.take j)).length = 256 := by rw [putAt_len, hD]
        have hp : p = 32 * b + 16 * i := rfl
        refine ex_step (st_dset (x := o.getD j 0) (k := (p : Int) + (j : Int)) ev_l (ev_data T0.DA ev_l) (ev_add (a := (p : Int)) (b := (j : Int)) ev_l ev_l) (by (first | lia | omega)) (by show _ < ((putAt σ.data p (o.take j)).length : Int); rw [hlen]; (first | lia | omega)) (by show (putAt σ.data p (o.take j)).length < 2 ^ 62; rw [hlen]; decide))
          (ex_nil ⟨base, ⟨.inl rfl, .inl rfl, .inl rfl, .inl rfl, .inl rfl, trivial⟩, rfl, ?_⟩)
        show ({ σ.put p (o.take j) with data := _ } : St) = _
        unfold St.put
        rw [putAt_take hj]
        have : ((p : Int) + (j : Int)).toNat = p + j := by (first | lia | omega)
        rw [this])
      (fun loc σ' hJ => by
        obtain ⟨rfl, rfl⟩ := hJ
        refine ex_nil ?_
        have : (List.zipWith (fun t u => [((Str.ofString "octet"), u), ((Str.ofString "at"), t)]) ((rng 0 o.length).map T.int) (o.map T.int)).length = o.length := by simp [rng_len]
        show Out.ret .none _ = _
        rw [this, List.take_length])))))) (hk := bnd_of rfl)
/-- bare -/
theorem c_36 {l : List Int} (hl : l.length ≤ 100) : CallP c 9 (.ref (fa c 36)) [.ints l] σ (fun r => r = .ret (.ints (l.map fun a => band a 127)) σ) :=
  fn_call T0 36 (ex_ret (ev_as_ints (ev_comp (us := l.map fun a => T.int (band a 127)) (iter_ints (l := l) ev_l) (compOk_of (cap := []) rfl (by simp)) (els_one l fun a _ => ev_and ev_l ev_int) (fun _ _ => trivial) (by rw [List.length_map, sizeLine_eq]; (first | lia | omega))) (by rw [List.map_map]; rfl)) rfl) (hk := bnd_of rfl)
theorem c_37 {p r : List Int} (hp : p.length ≤ 100) : CallP c 9 (.ref (fa c 37)) [.ints p, .ints r] σ (fun o => o = .ret (.bool (matchB p r)) σ) :=
  fn_call T0 37 (ex_ret (ev_bi T0.all b_all (evs_cons (by
    rw [← map_bool]
    exact ev_comp (iter_zip T0.zip.1 T0.zip.2 rfl ev_l ev_l) (compOk_of (cap := []) rfl (by simp)) (els_zip _ _ fun a b => ev_or2 (ev_cmp (ev_and ev_l ev_int) (ev_g T0.ANY) cmp_eq) (fun _ => ev_cmp (ev_and ev_l ev_int) (ev_and ev_l ev_int) cmp_eq)) (fun _ _ => trivial) (by simp [sizeLine_eq]; (first | lia | omega))) evs_nil)) rfl) (hk := bnd_of rfl)
theorem c_38 {l : List Int} {k : Nat} (hk : k < l.length) (hz : l.length ≤ 100) : CallP c 9 (.ref (fa c 38)) [.ints l, .int k] σ (fun r => r = .ret (.bool (decide (128 ≤ l.getD k 0))) σ) :=
  fn_call T0 38 (ex_ret (ev_cmp (ev_item (i := (k : Int)) ev_l ev_l (by (first | lia | omega)) (by (first | lia | omega)) (by (first | lia | omega))) ev_int cmp_ge) (by show _ = _; simp)) (hk := bnd_of rfl)
/-- find -/
theorem c_39 {u : Int} {pat : List Int} (hu : u ≠ 229) (hp : pat.length ≤ 100) (hD : σ.data.length = 256) : CallP c 14 (.ref (fa c 39)) [.disk, .int u, .ints pat] σ (fun r => r = .ret (.list ((findK σ.data u pat 4).map (pairT σ.data))) σ) :=
  let base : Loc := [("pattern", .ints pat), ("user", .int u), ("disk", .disk)]
  fn_call T0 39 (ex_own_nil (.inl rfl) (fun _ _ h => nomatch h) (ex_for (iter_range1 T0.range.1 T0.range.2 rfl (ev_entries T0.DA ev_l) (by decide) (by decide)) (.inl rfl)
    (fun i loc σ' => loc = (("found", .own ((findK σ.data u pat i).map (pairT σ.data))) :: base : Loc) ∧ σ = σ') ⟨rfl, rfl⟩
    (fun i b loc σ' hb hJ => by
      obtain ⟨hi, rfl⟩ := rng_bs hb
      obtain ⟨rfl, rfl⟩ := hJ
      have hi : i < 4 := hi
      rw [Int.zero_add]
      have hl := row_len hD hi
      refine ex_step (st_assign (t := .ints (row σ.data i)) (ev_f_ints (ev_fn T0 18 (c_18 T0 hi hD) (evs_cons ev_l (evs_cons ev_l evs_nil)))) (.inl rfl)) ?_
      have hz : ((findK σ.data u pat i).map (pairT σ.data)).length ≤ sizeLine := by
        rw [List.length_map]; unfold findK
        refine Nat.le_trans (List.length_filter_le _ _) ?_
        rw [List.length_range, sizeLine_eq]; (first | lia | omega)
      have hcut : (cut (row σ.data i) (some 1) (some 12)).length ≤ sizeLine := by
        unfold cut; rw [List.length_take]; refine Nat.le_trans (Nat.min_le_left _ _) ?_; simp only [Option.elim_some, hl]; decide
      refine ex_if (b := ((row σ.data i).getD 0 0 == u) && (matchB pat (cut (row σ.data i) (some 1) (some 12)) && true)) (ts_bool (all_cons (ts_cmp (ev_item (i := 0) ev_l ev_int (by decide) (by (first | lia | omega)) (by (first | lia | omega))) ev_l cmp_eq) (fun _ => all_cons (ts_val (ev_fn T0 37 (c_37 T0 hp) (evs_cons ev_l (evs_cons (ev_f_ints (ev_slice_f ev_l (.some (k := 1) ev_int rfl) (.some (k := 12) (ev_add ev_int (ev_g T0.NAME_SIZE)) rfl) (by rw [hl]; decide))) evs_nil)))) (fun _ => all_nil)))) (fun h => ?_) (fun h => ?_)
      · simp only [Bool.and_true, Bool.and_eq_true, beq_iff_eq] at h
        obtain ⟨h1, h2⟩ := h
        refine ex_step (st_append (loc' := base) (t := pairT σ.data i) rfl rfl (ev_tup (evs_cons ev_l (evs_cons (ev_fn T0 17 (c_17 T0 hl (by rw [h1]; exact hu)) (evs_cons ev_l (evs_cons ev_l evs_nil))) evs_nil)) (by show 2 ≤ _; decide)) ⟨.inl rfl, .inl rfl, .inl rfl, trivial⟩ (hno_of rfl) hz)
          (ex_nil (ex_nil ⟨(((Str.ofString "found"), .own ((findK σ.data u pat (i + 1)).map (pairT σ.data))) :: base : Loc), ⟨.inl ?_, .inl rfl, .inl rfl, .inl rfl, trivial⟩, rfl, rfl⟩))
        show some _ = some _
        unfold findK
        rw [List.range_succ, List.filter_append]
        rw [List.getD_eq_getElem?_getD] at h1
        simp [h1, h2]
      · refine ex_nil (ex_nil ⟨(((Str.ofString "found"), .own ((findK σ.data u pat (i + 1)).map (pairT σ.data))) :: base : Loc), ⟨.inl ?_, .inl rfl, .inl rfl, .inl rfl, trivial⟩, rfl, rfl⟩)
        show some _ = some _
        unfold findK
        rw [List.range_succ, List.filter_append]
        rw [Bool.and_true] at h
        have : List.filter (fun k => (row σ.data k).getD 0 0 == u && matchB pat (cut (row σ.data k) (some 1) (some 12))) [i] = [] := by rw [List.filter_cons, h]; rfl
        rw [this, List.append_nil])
    (fun loc σ' hJ => by
      obtain ⟨rfl, rfl⟩ := hJ
      rw [show ((rng 0 (Int.toNat 4)).map fun i => [(Str.ofString "number", T.int i)]).length = 4 from by simp [rng_len]]
      exact ex_ret_own rfl rfl rfl))) (hk := bnd_of rfl)
/-- exists -/
theorem c_41 {u : Int} {pat : List Int} (hu : u ≠ 229) (hp : pat.length ≤ 100) (hD : σ.data.length = 256) : CallP c 15 (.ref (fa c 41)) [.disk, .int u, .ints pat] σ (fun r => r = .ret (.bool (decide (0 < (findK σ.data u pat 4).length))) σ) :=
  fn_call T0 41 (ex_ret (ev_cmp (ev_bi T0.len (b_len_list (by
      rw [List.length_map]; unfold findK
      refine Nat.lt_of_le_of_lt (List.length_filter_le _ _) ?_
      rw [List.length_range]; decide)) (evs_cons (ev_fn T0 39 (c_39 T0 hu hp hD) (evs_cons ev_l (evs_cons ev_l (evs_cons ev_l evs_nil)))) evs_nil)) ev_int cmp_gt) (by
    show _ = _; rw [List.length_map]
    congr 2; simp)) (hk := bnd_of rfl)
end
end Mine
end
section
namespace Mine
noncomputable def entX (o : List Int) : Int := o.getD 14 0 * 32 + (o.getD 12 0).fmod 32
noncomputable def extK (d : List Int) (u : Int) (pat : List Int) (x : Int) : Option Nat := (findK d u pat 4).find? fun k => entX (row d k) == x
noncomputable def pairO (d : List Int) : Option Nat → T
  | none => .none
  | some k => pairT d k
noncomputable def delAt (d : List Int) (ks : List Nat) : List Int := ks.foldl (fun d k => d.set (32 * k) 229) d
theorem delAt_len : ∀ (ks : List Nat) (d : List Int), (delAt d ks).length = d.length
  | [], d => rfl
  | k :: ks, d => by show (delAt (d.set (32 * k) 229) ks).length = _; rw [delAt_len ks]; simp
theorem findK_lt {d : List Int} {u : Int} {pat : List Int} {k : Nat} (h : k ∈ findK d u pat 4) : k < 4 := by
  unfold findK at h; simpa using (List.mem_filter.mp h).1
theorem findK_len {d : List Int} {u : Int} {pat : List Int} : (findK d u pat 4).length ≤ 4 := by
  unfold findK; refine Nat.le_trans (List.length_filter_le _ _) ?_; rw [List.length_range]; exact Nat.le_refl _

section
variable {c : Cfg} {n : Nat} {names : List (Str × NameKind)} {cap : Loc} {σ : St}
noncomputable def pairQ (d : List Int) (k : Nat) : T × T := (.int (k : Int), entT (row d k))
theorem pairs_eq {d : List Int} (ks : List Nat) : ks.map (pairT d) = (ks.map (pairQ d)).map fun q => T.tup [q.1, q.2] := by rw [List.map_map]; rfl
noncomputable def pbs (x y : Str) (d : List Int) (ks : List Nat) : List Loc := List.zipWith (fun t u => [(y, u), (x, t)]) ((ks.map (pairQ d)).map (·.1)) ((ks.map (pairQ d)).map (·.2))
theorem pbs_get {x y : Str} {d : List Int} {ks : List Nat} {i : Nat} {b : Loc} (h : (pbs x y d ks)[i]? = some b) : ∃ k, ks[i]? = some k ∧ b = [(y, entT (row d k)), (x, .int (k : Int))] := by
  unfold pbs at h
  rw [List.getElem?_zipWith, List.getElem?_map, List.getElem?_map, List.getElem?_map] at h
  cases h1 : ks[i]? with
  | none => simp [h1] at h
  | some k => simp [h1, pairQ] at h; exact ⟨k, rfl, h.symm⟩
theorem pbs_len {x y : Str} {d : List Int} {ks : List Nat} : (pbs x y d ks).length = ks.length := by unfold pbs; simp
theorem els_pairs {x y : Str} {elt : PySem.Expr} {d : List Int} {g : Nat → T} : ∀ (ks : List Nat), (∀ k ∈ ks, EvTo c n names ([(y, entT (row d k)), (x, .int (k : Int))] ++ cap) σ elt (g k) σ) → ElsTo c n names cap [] elt (pbs x y d ks) σ (ks.map g) σ
  | [], _ => .nil
  | k :: ks, h => .keep (.inl ⟨rfl, rfl⟩) (h k (by simp)) (els_pairs ks fun b hb => h b (by simp [hb]))
end

section
variable {c : Cfg} {n : Nat} {σ : St} (T0 : Top0 c)
include T0
/-- find_extent -/
theorem c_40 {u x : Int} {pat : List Int} (hu : u ≠ 229) (hp : pat.length ≤ 100) (hD : σ.data.length = 256) : CallP c 15 (.ref (fa c 40)) [.disk, .int u, .ints pat, .int x] σ (fun r => r = .ret (pairO σ.data (extK σ.data u pat x)) σ) :=
  let base : Loc := [("extent", .int x), ("raw", .ints pat), ("user", .int u), ("disk", .disk)]
  fn_call T0 40 (ex_for (iter_list (ev_fn T0 39 (c_39 T0 hu hp hD) (evs_cons ev_l (evs_cons ev_l (evs_cons ev_l evs_nil))))) (.inl rfl)
    (fun i loc σ' => loc = base ∧ σ = σ' ∧ ∀ j k, j < i → (findK σ.data u pat 4)[j]? = some k → entX (row σ.data k) ≠ x) ⟨rfl, rfl, fun _ _ h => absurd h (by (first | lia | omega))⟩
    (fun i b loc σ' hb hJ => by
      obtain ⟨rfl, rfl, hJ⟩ := hJ
      rw [List.map_map, List.getElem?_map] at hb
      obtain ⟨k, hk, rfl⟩ := Option.map_eq_some_iff.mp hb
      refine ex_if (b := entX (row σ.data k) == x) (ts_cmp (ev_extent T0.DA (ev_titem (j := 1) (ts := [.int (k : Int), entT (row σ.data k)]) ev_l ev_int rfl (by show 2 < _; decide))) ev_l cmp_eq) (fun h => ex_ret ev_l ?_) (fun h => ex_nil (ex_nil ⟨base, ⟨.inl rfl, .inl rfl, .inl rfl, .inl rfl, trivial⟩, rfl, rfl, fun j k' hj hk' => ?_⟩))
      · show Out.ret _ _ = _
        have : extK σ.data u pat x = some k := by
          unfold extK
          rw [List.find?_eq_some_iff_append]
          have hi := (List.getElem?_eq_some_iff.mp hk).1
          have hki := (List.getElem?_eq_some_iff.mp hk).2
          refine ⟨h, (findK σ.data u pat 4).take i, (findK σ.data u pat 4).drop (i + 1), ?_, fun a ha => ?_⟩
          · rw [← hki, ← List.drop_eq_getElem_cons hi, List.take_append_drop]
          · obtain ⟨j, hj, rfl⟩ := List.mem_iff_getElem.mp ha
            rw [List.length_take] at hj
            have := hJ j (((findK σ.data u pat 4).take i)[j]) (by (first | lia | omega)) (by rw [List.getElem_take, List.getElem?_eq_getElem])
            simpa using this
        rw [this]; rfl
      · rcases Nat.lt_succ_iff_lt_or_eq.mp hj with q | q
        · exact hJ j k' q hk'
        · subst q; rw [hk] at hk'; cases hk'; simpa using h)
    (fun loc σ' hJ => by
      obtain ⟨rfl, rfl, hJ⟩ := hJ
      refine ex_ret ev_none ?_
      show Out.ret _ _ = _
      have : extK σ.data u pat x = none := by
        unfold extK; rw [List.find?_eq_none]; intro a ha
        obtain ⟨j, hj, rfl⟩ := List.mem_iff_getElem.mp ha
        simpa using hJ j _ (by simpa using hj) (List.getElem?_eq_getElem hj)
      rw [this]; rfl)) (hk := bnd_of rfl)
/-- need_changeable: none is flagged -/
theorem c_43 {d : List Int} {ks : List Nat} (hk : ks.length ≤ 100) (hd : d.length = 256) (hlt : ∀ k ∈ ks, k < 4) (hno : ∀ k ∈ ks, (cut (row d k) (some 1) (some 12)).getD 8 0 < 128) : CallP c 11 (.ref (fa c 43)) [.list (ks.map (pairT d))] σ (fun r => r = .ret .none σ) :=
  fn_call T0 43 (ex_if (b := false) (ts_val (by
      have key : (ks.map fun k => decide ((128 : Int) ≤ (cut (row d k) (some 1) (some 12)).getD 8 0)).any id = false := by
        rw [List.any_map, List.any_eq_false]; intro k hk; have := hno k hk; show ¬ (decide _ = true); rw [decide_eq_true_eq]; (first | lia | omega)
      rw [← key]
      refine ev_bi T0.any b_any (evs_cons (e := .ListComp ..) ?_ evs_nil)
      rw [List.map_map]
      refine ev_comp (bs := pbs "number" "entry" d ks) (iter_pairs (ps := ks.map (pairQ d)) (by rw [← pairs_eq]; exact ev_l)) (compOk_of (cap := []) rfl (by simp)) (els_pairs (g := fun k => .bool (decide ((128 : Int) ≤ (cut (row d k) (some 1) (some 12)).getD 8 0))) ks fun k hk => ev_fn T0 38 (c_38 T0 (k := 8) (l := cut (row d k) (some 1) (some 12)) ?_ ?_) (evs_cons (ev_raw T0.DA (ev_l (t := entT (row d k)))) (evs_cons (ev_g T0.READ_ONLY_AT) evs_nil))) (fun _ _ => trivial) (by rw [pbs_len, sizeLine_eq]; (first | lia | omega))
      · have := row_len hd (hlt k hk); simp [cut, this]
      · have := row_len hd (hlt k hk); simp [cut, this]))
    (fun h => absurd h (by decide)) (fun _ => ex_nil (ex_nil rfl))) (hk := bnd_of rfl)
end
end Mine
end
section
namespace Mine
section
variable {c : Cfg} {n : Nat} {names : List (Str × NameKind)} {loc : Loc} {σ σ₁ σ₂ : St}
theorem ev_c {x : Str} {p : Pos} {t : T} (hl : loc.lookup x = some t := by rfl) (hk : names.lookup x = some .cell := by rfl) (hq : plT t = true := by rfl)
    (hd : (x == ("__debug__" : Str)) = false := by decide) : EvTo c n names loc σ (.Name x p) t σ := ev_cell hl hk hq hd
/-- [a] * k, a new list -/
theorem ev_rep_f {l r : PySem.Expr} {p : Pos} {a : Int} {k : Int} (h₁ : EvTo c n names loc σ l (.ints [a]) σ₁) (h₂ : EvTo c n names loc σ₁ r (.int k) σ₂) (h0 : 0 ≤ k) (hz : k ≤ 1000000) : EvTo c n names loc σ (.BinOp l .Mult r p) (.fints (List.replicate k.toNat a)) σ₂ :=
  fun K X ow A env s Q E hX W h => wpAny_BinOp (two h₁ h₂ K hX W fun v w h' tk R kp r1 r2 => by
    simp only [Rep] at r1 r2
    obtain ⟨x, rfl, _, vs, n1, e1, i1⟩ := r1; obtain ⟨u, rfl⟩ := r2
    cases i1 with
    | cons _ t i1 =>
    cases i1
    have hsz : (#[Value.int a t] : Array Value).size * k.toNat ≤ 2 ^ 24 := by show 1 * k.toNat ≤ 2 ^ 24; (first | lia | omega)
    obtain ⟨a1, a2, a3⟩ := new_fints R (IntsAre.rep (v := .int a t) rfl k.toNat)
    refine wpAny_binaryOp_repeat_ref (T := "list") (U := "int") (by decide) ⟨_, e1, rfl⟩ (fun s' => typeIs_int s' k u) noFill_list_mul PySem.F.fills_int_mul PySem.F.slot_int_rmul repeat_list PySem.F.slot_int_index.lookup
      (call_meets PySem.F.slot_int_rmul (typeIs_int _ k u) PySem.F.entry_int_rmul (PySem.F.args_int_rmul_2 _ _) (int___rmul___int_list k u x _ n1)
        ⟨e1, rfl, ⟨_, e1, rfl⟩, call_meets PySem.F.slot_list_mul ⟨_, e1, rfl⟩ PySem.F.entry_list_mul (PySem.F.args_list_mul_2 _ _)
          (AutoListH.list___mul___list_int_3 x _ n1 k u (by simp [Builtin.List.listFitsIndex]; (first | lia | omega)) (by simp; (first | lia | omega)) (by simp [Builtin.List.listTooLong, sizeLine]; (first | lia | omega)))
          ⟨e1, ?_⟩⟩)
    have e : List.foldl (fun x1 x2 => x1 ++ x2) #[] (List.replicate (if ([Value.int a t].toArray).isEmpty = true then 0 else k.toNat) [Value.int a t].toArray) = (List.replicate k.toNat (Value.int a t)).toArray := by
      simp only [List.isEmpty_toArray, List.isEmpty_cons, Bool.false_eq_true, if_false, listMul_foldl]
      apply Array.ext'
      simp
    rw [e]
    exact h _ _ tk a1 (kp.trans a2) a3)
end

section
variable {c : Cfg} {n : Nat} {σ : St} (T0 : Top0 c)
include T0
theorem c_47 {r : Nat} : CallP c 11 (.ref (fa c 47)) [.disk, .int r] σ (fun o => o = .ret (.tup [.int (r / 32 : Nat), .int (r % 32 : Nat)]) σ) :=
  fn_call T0 47 (ex_ret (ev_tup (evs_cons (ev_fdiv (a := (r : Int)) ev_l (ev_fn T0 12 (c_12 T0) (evs_cons ev_l evs_nil)) (by decide) (by decide)) (evs_cons (ev_mod (a := (r : Int)) ev_l (ev_fn T0 12 (c_12 T0) (evs_cons ev_l evs_nil)) (by decide)) evs_nil)) (by show 2 ≤ _; decide)) (by
    show _ = _
    have e1 : ((r : Int).fdiv 32) = ((r / 32 : Nat) : Int) := by rw [Int.fdiv_eq_ediv_of_nonneg _ (by decide)]; (first | lia | omega)
    have e2 : ((r : Int).fmod 32) = ((r % 32 : Nat) : Int) := by rw [Int.fmod_eq_emod_of_nonneg _ (by decide)]; (first | lia | omega)
    rw [e1, e2])) (hk := bnd_of rfl)
/-- new_entry -/
theorem c_15 {u x : Int} {raw : List Int} (hz : raw.length ≤ 100) : CallP c 12 (.ref (fa c 15)) [.disk, .int u, .ints raw, .int x] σ (fun r => r = .ret (.ent u raw x 0 0 (List.replicate 16 0)) σ) := by
  obtain ⟨fI, mk, hf⟩ := T0.mke
  let loc' : Loc := [("extent", .int x), ("raw", .ints raw), ("user", .int u), ("disk", .disk)]
  have hno : ∀ p ∈ loc', isOwn p.2 = false := hno_of rfl
  refine fn_call T0 15 (ex_own_cls (fI := fI) T0.ent.1 T0.ent.2 rfl (evs_cons ev_l (evs_cons ev_l (evs_cons ev_l evs_nil))) mk hf rfl (bnd_of rfl) rfl (fun a d => i_9 T0 (by rw [sizeLine_eq]; (first | lia | omega)) a d) (.inl rfl) (fun _ _ h => nomatch h) fun a d => ?_) (hk := bnd_of rfl)
  refine ex_step (st_oattr (loc' := loc') T0.set.2.2.2.2.2 rfl rfl (ev_rep_f (ev_ints (l := [0]) (evs_cons ev_int evs_nil) rfl (by decide)) (ev_fn T0 10 (c_10 T0) (evs_cons ev_l evs_nil)) (by decide) (by decide)) (by simp) (Nat.lt_of_le_of_lt (Nat.le_refl 6) (by decide)) (putF_dup (by simp; decide)) ⟨.inl rfl, .inl rfl, .inl rfl, .inl rfl, trivial⟩ hno) ?_
  exact ex_ret_ownE (fs := [("user", .int u), ("raw", .ints raw), ("extent", .int x), ("spare", .int 0), ("count", .int 0), ("map", .fints (List.replicate 16 0))]) rfl rfl (Nat.le_refl 6)
    (.head _) (.tail _ (.head _)) (.tail _ (.tail _ (.head _))) (.tail _ (.tail _ (.tail _ (.head _)))) (.tail _ (.tail _ (.tail _ (.tail _ (.head _))))) (.tail _ (.tail _ (.tail _ (.tail _ (.tail _ (.head _)))))) rfl
/-- delete: none of the found is flagged -/
theorem c_44 {u : Int} {pat : List Int} (hu : u ≠ 229) (hp : pat.length ≤ 100) (hD : σ.data.length = 256) (hno : ∀ k ∈ findK σ.data u pat 4, (cut (row σ.data k) (some 1) (some 12)).getD 8 0 < 128) :
    CallP c 15 (.ref (fa c 44)) [.disk, .int u, .ints pat] σ (fun r => r = .ret (.int (findK σ.data u pat 4).length) { σ with data := delAt σ.data (findK σ.data u pat 4) }) :=
  let ks := findK σ.data u pat 4
  let base : Loc := [("pairs", .list (ks.map (pairT σ.data))), ("pattern", .ints pat), ("user", .int u), ("disk", .disk)]
  fn_call T0 44 (ex_step (st_expr (ev_fn T0 14 (c_14 T0) (evs_cons ev_l evs_nil))) (ex_step (st_assign (ev_fn T0 39 (c_39 T0 hu hp hD) (evs_cons ev_l (evs_cons ev_l (evs_cons ev_l evs_nil)))) (.inl rfl)) (ex_step (st_expr (ev_fn T0 43 (c_43 T0 (ks := ks) (Nat.le_trans findK_len (by decide)) hD (fun k hk => findK_lt hk) hno) (evs_cons ev_l evs_nil)))
    (ex_for (bs := pbs "number" "entry" σ.data ks) (iter_pairs (ps := ks.map (pairQ σ.data)) (by rw [← pairs_eq]; exact ev_l)) ⟨.inl rfl, .inl rfl⟩ (fun i loc σ' => loc = base ∧ σ' = { σ with data := delAt σ.data (ks.take i) }) ⟨rfl, rfl⟩
      (fun i b loc σ' hb hJ => by
        obtain ⟨k, hk, rfl⟩ := pbs_get hb
        obtain ⟨rfl, rfl⟩ := hJ
        have hkm : k ∈ ks := List.mem_of_getElem? hk
        refine ex_step (st_expr (ev_fn T0 22 (c_22 T0 (k := k) (findK_lt hkm) (by show (delAt σ.data (ks.take i)).length = 256; rw [delAt_len, hD])) (evs_cons ev_l (evs_cons ev_l evs_nil)))) (ex_nil ⟨base, ⟨.inl rfl, .inl rfl, .inl rfl, .inl rfl, trivial⟩, rfl, ?_⟩)
        have : ks.take (i + 1) = ks.take i ++ [k] := by rw [List.take_add_one, hk]; rfl
        rw [this]
        unfold St.put delAt
        rw [List.foldl_append]
        rfl)
      (fun loc σ' hJ => by
        obtain ⟨rfl, rfl⟩ := hJ
        rw [pbs_len, List.take_length]
        refine ex_ret (ev_bi T0.len (b_len_list (l := ks.map (pairT σ.data)) ?_) (evs_cons ev_l evs_nil)) ?_
        · rw [List.length_map]; exact Nat.lt_of_le_of_lt findK_len (by decide)
        · show Out.ret _ _ = _
          rw [List.length_map]))))) (hk := bnd_of rfl)
end
end Mine
end
section
namespace Mine
noncomputable def nfLoc (l : List Bool) (near le ri : Nat) : Loc := [("left", .int (le : Int)), ("right", .int (ri : Int)), ("near", .int (near : Int)), ("is_used", .list (l.map T.bool))]
/-- the second half of nearest_free's loop -/
noncomputable def nfSnd : List Stmt := match bd 28 with
  | _ :: .While _ (_ :: r) _ _ :: _ => r
  | _ => []
theorem bools_at {l : List Bool} {k : Nat} (hk : k < l.length) : (l.map T.bool)[k]? = some (.bool (l.getD k false)) := by
  rw [List.getElem?_map, List.getElem?_eq_getElem hk, List.getD_eq_getElem?_getD, List.getElem?_eq_getElem hk]; rfl
section
variable {c : Cfg} {n : Nat} {σ : St} (T0 : Top0 c)
include T0
/-- nearest_free: a free one or none -/
theorem c_28 {l : List Bool} {near : Nat} (hl : l.length = 8) : CallP c 11 (.ref (fa c 28)) [.list (l.map T.bool), .int near] σ (fun o => ∃ r : Option Nat, o = .ret (optT r) σ ∧ ∀ k, r = some k → l[k]? = some false) :=
  have hlen : (l.map T.bool).length = 8 := by rw [List.length_map, hl]
  have ln : ∀ {names : List (Str × NameKind)} {loc : Loc} {lp p q : Pos}, names.lookup ("is_used" : Str) = some .local → loc.lookup ("is_used" : Str) = some (.list (l.map T.bool)) → names.lookup ("len" : Str) = some .globalImplicit → EvTo c 10 names loc σ (.Call (.Name "len" lp) [.Name "is_used" q] [] p) (.int 8) σ := fun {names loc lp p q} h1 h2 h3 => by
    have := ev_bi (n := 10) (σ₁ := σ) (fp := lp) (p := p) T0.len (b_len_list (l := l.map T.bool) (by (first | lia | omega))) (evs_cons (ev_loc (p := q) h2 h1) evs_nil) (hk := h3)
    rw [hlen] at this; exact this
  fn_call T0 28 (ex_step (st_tup2s (t := .int (if (8 : Int) < near then 8 else near)) (u := .int near) (ev_tup (evs_cons (ev_bi T0.min b_min (evs_cons ev_l (evs_cons (ln rfl rfl rfl) evs_nil))) (evs_cons ev_l evs_nil)) (by show 2 ≤ _; decide)) (.inl rfl) (.inl rfl)
      (fun env h1 h2 => by
        obtain ⟨⟨k, ns, g, co, mo⟩, a1, a2, a3, a4, a5, a6, a7, a8⟩ := env
        have h1 : k = .function := h1
        have h2 : ns = nm 28 := h2
        subst h1 h2; rfl))
    (ex_while (fun m loc σ' => ∃ le ri : Nat, loc = nfLoc l near le ri ∧ σ = σ' ∧ le ≤ 8 ∧ m = le + (7 - ri))
      (m := (if 8 < near then 8 else near) + (7 - near)) ⟨if 8 < near then 8 else near, near, by
        have : (if (8 : Int) < near then (8 : Int) else near) = (((if 8 < near then 8 else near : Nat)) : Int) := by split <;> split <;> (first | lia | omega)
        rw [this]; rfl, rfl, by split <;> (first | lia | omega), rfl⟩
      (fun m loc σ' hJ => by
        obtain ⟨le, ri, rfl, rfl, hle, rfl⟩ := hJ
        have it : ∀ {names : List (Str × NameKind)} {loc : Loc} {x : Str} {p q r : Pos} {k : Nat}, k < 8 → names.lookup ("is_used" : Str) = some .local → loc.lookup ("is_used" : Str) = some (.list (l.map T.bool)) → names.lookup x = some .local → loc.lookup x = some (.int (k : Int)) → (x == ("__debug__" : Str)) = false →
            EvTo c 10 names loc σ (.Subscript (.Name "is_used" p) (.Name x q) r) (.bool (l.getD k false)) σ := fun {names loc x p q r k} hk h1 h2 h3 h4 h5 =>
          ev_litem (i := (k : Int)) (ev_loc (p := p) h2 h1) (ev_loc (p := q) h4 h3 (hd := h5)) (by (first | lia | omega)) (by rw [Int.toNat_natCast]; exact bools_at (by (first | lia | omega))) (by (first | lia | omega))
        have free : ∀ k, k < 8 → (!(l.getD k false)) = true → l[k]? = some false := fun k hk h => by
          rw [List.getD_eq_getElem?_getD, List.getElem?_eq_getElem (by (first | lia | omega))] at h
          rw [List.getElem?_eq_getElem (by (first | lia | omega))]; simpa using h
        refine ⟨decide ((0 : Int) < le) || (decide ((ri : Int) < 8 - 1) || false), ts_bool (any_cons (ts_cmp (t₁ := .int (le : Int)) ev_l ev_int cmp_gt) (fun _ => any_cons (ts_cmp (t₁ := .int (ri : Int)) ev_l (ev_sub (ln rfl rfl rfl) ev_int) cmp_lt) (fun _ => any_nil))), fun hb => ?_, fun _ => ex_ret ev_none ⟨none, rfl, fun k h => by cases h⟩⟩
        -- the second half of a turn
        have second : ∀ (le' : Nat) (loc : Loc), Sub loc (nfLoc l near le' ri) → le' ≤ le → (7 ≤ ri → le' < le) → Ex c 10 (nm 28) loc σ nfSnd (fun o => match o with
            | .next loc' σ' => ∃ m' loc'', m' < le + (7 - ri) ∧ Sub loc' loc'' ∧ ∃ le ri : Nat, loc'' = nfLoc l near le ri ∧ σ = σ' ∧ le ≤ 8 ∧ m' = le + (7 - ri)
            | .ret t σ' => soP (fun o => ∃ r : Option Nat, o = .ret (optT r) σ ∧ ∀ k, r = some k → l[k]? = some false) (.ret t σ')
            | .exc _ _ => False) := fun le' loc hs h1 h2 => ex_sub hs (ex_if (b := decide ((ri : Int) < 8 - 1)) (ts_cmp (t₁ := .int (ri : Int)) ev_l (ev_sub (ln rfl rfl rfl) ev_int) cmp_lt)
            (fun h => by
              have h : (ri : Int) < 8 - 1 := by simpa using h
              refine ex_step (loc₁ := (("right", .int ((ri + 1 : Nat) : Int)) :: nfLoc l near le' ri : Loc)) (by rw [Int.natCast_add]; exact st_aug_add (a := (ri : Int)) rfl rfl ev_int) (ex_if (ts_not (ts_val (it (k := ri + 1) (by (first | lia | omega)) rfl rfl rfl rfl (by decide)))) (fun hf => ex_ret ev_l ⟨some (ri + 1), rfl, fun k e => by cases e; exact free _ (by (first | lia | omega)) hf⟩) (fun _ => ex_nil (ex_nil (ex_nil ?_))))
              exact ⟨le' + (7 - (ri + 1)), nfLoc l near le' (ri + 1), by (first | lia | omega), ⟨.inl rfl, .inl rfl, .inl rfl, .inl rfl, trivial⟩, le', ri + 1, rfl, rfl, by (first | lia | omega), rfl⟩)
            (fun h => by
              have h : ¬ (ri : Int) < 8 - 1 := by simpa using h
              exact ex_nil (ex_nil ⟨le' + (7 - ri), nfLoc l near le' ri, by have := h2 (by (first | lia | omega)); (first | lia | omega), ⟨.inl rfl, .inl rfl, .inl rfl, .inl rfl, trivial⟩, le', ri, rfl, rfl, by (first | lia | omega), rfl⟩)))
        refine ex_if (b := decide ((0 : Int) < le)) (ts_cmp (t₁ := .int (le : Int)) ev_l ev_int cmp_gt) (fun h => ?_) (fun h => ex_nil (second le _ ⟨.inl rfl, .inl rfl, .inl rfl, .inl rfl, trivial⟩ (Nat.le_refl _) (fun h7 => ?_)))
        · have h : (0 : Int) < le := by simpa using h
          refine ex_step (loc₁ := (("left", .int ((le - 1 : Nat) : Int)) :: nfLoc l near le ri : Loc)) (by
              have : (((le - 1 : Nat)) : Int) = (le : Int) - 1 := by (first | lia | omega)
              rw [this]; exact st_aug_sub (a := (le : Int)) rfl rfl ev_int) (ex_if (ts_not (ts_val (it (k := le - 1) (by (first | lia | omega)) rfl rfl rfl rfl (by decide)))) (fun hf => ex_ret ev_l ⟨some (le - 1), rfl, fun k e => by cases e; exact free _ (by (first | lia | omega)) hf⟩) (fun _ => ex_nil (ex_nil (second (le - 1) _ ⟨.inl rfl, .inl rfl, .inl rfl, .inl rfl, trivial⟩ (by (first | lia | omega)) (by (first | lia | omega))))))
        · exfalso
          have h : ¬ (0 : Int) < le := by simpa using h
          simp at hb
          (first | lia | omega)))) (hk := bnd_of rfl)
end
end Mine
end
section
namespace Mine
noncomputable def mark (l : List Bool) (b : Int) : List Bool := if 0 < b ∧ b < 8 then l.set b.toNat true else l
noncomputable def markE (l : List Bool) (mp : List Int) : List Bool := mp.foldl mark l
noncomputable def used0 : List Bool := (rng 0 8).map fun i => decide (i < 4) || ([] : List Int).any (· == i)
noncomputable def mapK (d : List Int) (k : Nat) : List Int := cut (row d k) (some 16) (some 32)
noncomputable def usedL (d : List Int) (ks : List Nat) : List Bool := ks.foldl (fun l k => markE l (mapK d k)) used0
theorem mark_len {l : List Bool} {b : Int} : (mark l b).length = l.length := by unfold mark; split <;> simp
theorem markE_len : ∀ (mp : List Int) (l : List Bool), (markE l mp).length = l.length
  | [], _ => rfl
  | b :: mp, l => by show (markE (mark l b) mp).length = _; rw [markE_len mp, mark_len]
theorem usedL_len {d : List Int} : ∀ (ks : List Nat) (l : List Bool), (ks.foldl (fun l k => markE l (mapK d k)) l).length = l.length
  | [], _ => rfl
  | k :: ks, l => by rw [List.foldl_cons, usedL_len ks, markE_len]
theorem usedL_8 {d : List Int} {ks : List Nat} : (usedL d ks).length = 8 := by unfold usedL; rw [usedL_len]; rfl
/-- what is marked stays marked -/
theorem mark_keep {l : List Bool} {b : Int} {k : Nat} (h : l[k]? = some true) : (mark l b)[k]? = some true := by
  unfold mark
  split
  · rw [List.getElem?_set]; split
    · rename_i e; subst e; rw [if_pos (List.getElem?_eq_some_iff.mp h).1]
    · exact h
  · exact h
theorem markE_keep {k : Nat} : ∀ (mp : List Int) (l : List Bool), l[k]? = some true → (markE l mp)[k]? = some true
  | [], _, h => h
  | b :: mp, l, h => markE_keep mp (mark l b) (mark_keep h)
theorem usedL_keep {d : List Int} {k : Nat} : ∀ (ks : List Nat) (l : List Bool), l[k]? = some true → (ks.foldl (fun l k => markE l (mapK d k)) l)[k]? = some true
  | [], _, h => h
  | j :: ks, l, h => by rw [List.foldl_cons]; exact usedL_keep ks _ (markE_keep _ _ h)
theorem usedL_dir {d : List Int} {ks : List Nat} {k : Nat} (hk : (usedL d ks)[k]? = some false) : 4 ≤ k ∧ k < 8 := by
  have h8 : k < 8 := by have := (List.getElem?_eq_some_iff.mp hk).1; rwa [usedL_8] at this
  refine ⟨Nat.not_lt.mp fun h => ?_, h8⟩
  have : used0[k]? = some true := by
    have : k = 0 ∨ k = 1 ∨ k = 2 ∨ k = 3 := by (first | lia | omega)
    rcases this with rfl | rfl | rfl | rfl <;> rfl
  have := usedL_keep (d := d) ks used0 this
  rw [show ks.foldl (fun l k => markE l (mapK d k)) used0 = usedL d ks from rfl, hk] at this
  cases this
theorem liveK_lt {d : List Int} {k : Nat} (h : k ∈ liveK d 4) : k < 4 := by unfold liveK at h; simpa using (List.mem_filter.mp h).1
theorem mapK_len {d : List Int} (hd : d.length = 256) {k : Nat} (hk : k < 4) : (mapK d k).length = 16 := by
  unfold mapK cut; have := row_len hd hk; simp [this]

section
variable {c : Cfg} {n : Nat} {σ : St} (T0 : Top0 c)
include T0
/-- used_blocks -/
theorem c_25 (hD : σ.data.length = 256) : CallP c 15 (.ref (fa c 25)) [.disk] σ (fun r => r = .ret (.list ((usedL σ.data (liveK σ.data 4)).map T.bool)) σ) :=
  let ks := liveK σ.data 4
  let base : Loc := [("disk", .disk)]
  fn_call T0 25 (ex_own_comp (l := used0) (iter_range1 T0.range.1 T0.range.2 rfl (ev_blocks T0.DA ev_c) (by decide) (by decide)) (compOk_of (cap := base) rfl (by intro p hp; obtain rfl := List.mem_singleton.mp hp; exact ⟨rfl, rfl, rfl⟩))
      (by
        show ElsTo _ _ _ _ _ _ _ _ (((rng 0 8).map fun i => decide (i < 4) || ([] : List Int).any (· == i)).map T.bool) _
        rw [List.map_map]
        exact els_one (rng 0 8) fun i _ => ev_or2 (ev_cmp ev_l (ev_fn T0 13 (c_13 T0) (evs_cons ev_c evs_nil)) cmp_lt) (fun _ => ev_cmp ev_l (ev_given T0.DA ev_c) cmp_in))
      (fun b hb => by
        obtain ⟨i, _, rfl⟩ := List.mem_map.mp hb
        exact ⟨.inl rfl, trivial⟩) (by rw [List.length_map, rng_len]; decide) rfl (fun _ _ h => nomatch h)
      (ex_for (bs := pbs "number" "entry" σ.data ks) (iter_pairs (ps := ks.map (pairQ σ.data)) (by rw [← pairs_eq]; exact ev_fn T0 24 (c_24 T0 hD) (evs_cons ev_c evs_nil))) ⟨.inl rfl, .inl rfl⟩
        (fun i loc σ' => loc = (("found", .own ((usedL σ.data (ks.take i)).map T.bool)) :: base : Loc) ∧ σ = σ') ⟨rfl, rfl⟩
        (fun i b loc σ' hb hJ => by
          obtain ⟨k, hk, rfl⟩ := pbs_get hb
          obtain ⟨rfl, rfl⟩ := hJ
          have hkm : k ∈ ks := List.mem_of_getElem? hk
          have hm := mapK_len hD (liveK_lt hkm)
          let base' : Loc := [("entry", entT (row σ.data k)), ("number", .int (k : Int)), ("disk", .disk)]
          let U := usedL σ.data (ks.take i)
          have hU : U.length = 8 := usedL_8
          have tk : ∀ (m : List Int) (j : Nat) (v : Int), m[j]? = some v → markE U (m.take (j + 1)) = mark (markE U (m.take j)) v := fun m j v hv => by
            rw [List.take_add_one, hv]; unfold markE; rw [List.foldl_append]; rfl
          refine ex_sub (loc' := (("found", .own ((markE U ((mapK σ.data k).take 0)).map T.bool)) :: base' : Loc)) ⟨.inl rfl, .inl rfl, .inl rfl, .inl rfl, trivial⟩
            (ex_for (iter_ints (l := mapK σ.data k) (ev_map T0.DA (ev_l (t := entT (row σ.data k))))) (.inl rfl) (fun j loc σ' => loc = (("found", .own ((markE U ((mapK σ.data k).take j)).map T.bool)) :: base' : Loc) ∧ σ = σ') ⟨rfl, rfl⟩
              (fun j b loc σ' hb hJ => ?_) (fun loc σ' hJ => ?_))
          · obtain ⟨rfl, rfl⟩ := hJ
            rw [List.getElem?_map] at hb
            obtain ⟨v, hv, rfl⟩ := Option.map_eq_some_iff.mp hb
            have hL : (markE U ((mapK σ.data k).take j)).length = 8 := by rw [markE_len, hU]
            refine ex_if (b := decide ((0 : Int) < v) && decide (v < 8)) (ts_chain (t₂ := .int v) ev_int ev_l (ev_blocks T0.DA ev_c) cmp_lt cmp_lt) (fun h => ?_) (fun h => ?_)
            · have h : (0 : Int) < v ∧ v < 8 := by simpa using h
              refine ex_step (st_oset (loc' := base') (t := .bool true) (k := v) rfl rfl ev_bool ev_l (by (first | lia | omega)) (by rw [List.length_map, hL]; exact h.2) (by rw [List.length_map, hL]; decide) ⟨.inl rfl, .inl rfl, .inl rfl, trivial⟩ (hno_of rfl))
                (ex_nil (ex_nil ⟨(("found", .own ((markE U ((mapK σ.data k).take (j + 1))).map T.bool)) :: base' : Loc), ⟨.inl ?_, .inl rfl, .inl rfl, .inl rfl, trivial⟩, rfl, rfl⟩))
              show some _ = some _
              rw [tk _ _ _ hv]
              unfold mark
              rw [if_pos h, List.map_set]
            · have h : ¬ ((0 : Int) < v ∧ v < 8) := by simpa using h
              refine ex_nil (ex_nil ⟨(("found", .own ((markE U ((mapK σ.data k).take (j + 1))).map T.bool)) :: base' : Loc), ⟨.inl ?_, .inl rfl, .inl rfl, .inl rfl, trivial⟩, rfl, rfl⟩)
              show some _ = some _
              rw [tk _ _ _ hv]
              unfold mark
              rw [if_neg h]
          · obtain ⟨rfl, rfl⟩ := hJ
            refine ex_nil ⟨(("found", .own ((usedL σ.data (ks.take (i + 1))).map T.bool)) :: base : Loc), ⟨.inl ?_, .inl rfl, trivial⟩, rfl, rfl⟩
            show some _ = some _
            have : ks.take (i + 1) = ks.take i ++ [k] := by rw [List.take_add_one, hk]; rfl
            rw [this]
            unfold usedL
            rw [List.foldl_append, List.length_map, List.take_length]
            rfl)
        (fun loc σ' hJ => by
          obtain ⟨rfl, rfl⟩ := hJ
          rw [pbs_len, List.take_length]
          exact ex_ret_own rfl rfl rfl))
      (fun env h1 h2 => by
        obtain ⟨⟨k, ns, g, co, mo⟩, a1, a2, a3, a4, a5, a6, a7, a8⟩ := env
        have h1 : k = .function := h1
        have h2 : ns = nm 25 := h2
        subst h1 h2; rfl)) (hk := bnd_of rfl)
end
end Mine
end
section
namespace Mine
/-- what the feed gives -/
noncomputable def draw (σ : St) (m : Int) : Int :=
  if σ.turn < σ.cells.length then (if σ.cells.getD σ.turn.toNat 0 < 0 then -(σ.cells.getD σ.turn.toNat 0) else σ.cells.getD σ.turn.toNat 0).fmod m
  else (35 * σ.turn + (σ.turn * σ.turn).fdiv 2 + 1 + σ.cells.length).fmod m
noncomputable def St.adv (σ : St) : St := { σ with turn := σ.turn + 1 }
noncomputable def likeK (d : List Int) (u : Int) (name : List Int) (m : Nat) : List Nat :=
  (List.range m).filter fun k => (row d k).getD 0 0 == u && decide ((((row d k).take 12).drop 1).map (fun a => a.fmod 128) = name.map fun a => a.fmod 128)
theorem likeK_len {d : List Int} {u : Int} {nm : List Int} {m : Nat} : (likeK d u nm m).length ≤ m := by
  unfold likeK; refine Nat.le_trans (List.length_filter_le _ _) ?_; rw [List.length_range]; exact Nat.le_refl _
theorem cut_12 {d : List Int} (hd : d.length = 256) {k : Nat} (hk : k < 4) : cut d (some (32 * k)) (some (32 * k + 12)) = (row d k).take 12 := by
  unfold cut row
  simp only [Option.elim_some, hd]
  rw [Nat.min_eq_left (by (first | lia | omega)), Nat.min_eq_left (by (first | lia | omega)), List.take_take]
  congr 1; (first | lia | omega)
theorem cut_1 {l : List Int} (hl : 1 ≤ l.length) : cut l (some 1) none = l.drop 1 := by
  unfold cut
  simp only [Option.elim_some, Option.elim_none]
  rw [Nat.min_eq_left hl, List.take_of_length_le]; rw [List.length_drop]; exact Nat.le_refl _

section
variable {c : Cfg} {n : Nat} {σ : St} (T0 : Top0 c)
include T0
theorem c_52 {m : Int} (hm : m ≠ 0) (h0 : 0 ≤ σ.turn) (ht : IntMulOk σ.turn σ.turn) (hc : σ.cells.length ≤ 63) : CallP c 9 (.ref (fa c 52)) [.feed, .int m] σ (fun r => r = .ret (.int (draw σ m)) σ.adv) :=
  fn_call T0 52 (ex_step (st_feed ev_l (.inl rfl) (.inl rfl)) (ex_step (st_fset (ev_add (a := σ.turn) ev_l ev_int) ev_l ev_int)
    (ex_if (b := decide (σ.turn < (σ.cells.length : Int))) (ts_cmp (t₁ := .int σ.turn) ev_l (ev_bi T0.len (b_len_ints (l := σ.cells) (by (first | lia | omega))) (evs_cons ev_l evs_nil)) cmp_lt)
      (fun h => by
        have h : σ.turn < (σ.cells.length : Int) := by simpa using h
        refine ex_ret (ev_mod (ev_bi T0.abs b_abs (evs_cons (ev_bi T0.int b_int (evs_cons (ev_item (l := σ.cells) (i := σ.turn) ev_l ev_l h0 h (by (first | lia | omega))) evs_nil)) evs_nil)) ev_l hm) ?_
        show Out.ret _ _ = _
        unfold draw; rw [if_pos h]; rfl)
      (fun h => by
        have h : ¬ σ.turn < (σ.cells.length : Int) := by simpa using h
        refine ex_nil (ex_ret (ev_mod (ev_add (ev_add (ev_add (ev_mul (b := σ.turn) ev_int ev_l (.of_left (by decide))) (ev_fdiv (ev_mul (a := σ.turn) (b := σ.turn) ev_l ev_l ht) ev_int (by decide) (by decide))) ev_int) (ev_bi T0.len (b_len_ints (l := σ.cells) (by (first | lia | omega))) (evs_cons ev_l evs_nil))) ev_l hm) ?_)
        show Out.ret _ _ = _
        unfold draw; rw [if_neg h]; rfl)))) (hk := bnd_of rfl)
/-- _law_like -/
theorem c_54 {u : Int} {name : List Int} (hp : name.length ≤ 100) (hD : σ.data.length = 256) : CallP c 12 (.ref (fa c 54)) [.disk, .int u, .ints name] σ (fun r => r = .ret (.list ((likeK σ.data u name 4).map fun k : Nat => T.int (k : Int))) σ) :=
  let base : Loc := [("name", .ints name), ("user", .int u), ("disk", .disk)]
  let F : Nat → T := fun k => T.int (k : Int)
  fn_call T0 54 (ex_own_nil (.inl rfl) (fun _ _ h => nomatch h) (ex_for (iter_range1 T0.range.1 T0.range.2 rfl (k := 4) ev_int (by decide) (by decide)) (.inl rfl)
    (fun i loc σ' => loc = (("found", .own ((likeK σ.data u name i).map F)) :: base : Loc) ∧ σ = σ') ⟨rfl, rfl⟩
    (fun i b loc σ' hb hJ => by
      obtain ⟨hi, rfl⟩ := rng_bs hb
      obtain ⟨rfl, rfl⟩ := hJ
      have hi : i < 4 := hi
      rw [Int.zero_add]
      have hl := row_len hD hi
      have h12 : ((row σ.data i).take 12).length = 12 := by rw [List.length_take, hl]; rfl
      refine ex_step (st_assign (t := .ints ((row σ.data i).take 12)) (by
        rw [← cut_12 hD hi]
        exact ev_f_ints (ev_dslice_f (ev_data T0.DA ev_l) (.some (k := 32 * i) (ev_mul (b := (i : Int)) ev_int ev_l (.of_left (by decide))) (by (first | lia | omega))) (.some (k := 32 * i + 12) (ev_add (ev_mul (b := (i : Int)) ev_int ev_l (.of_left (by decide))) ev_int) (by (first | lia | omega))) (by rw [hD]; decide))) (.inl rfl)) ?_
      have hz : ((likeK σ.data u name i).map F).length ≤ sizeLine := by
        rw [List.length_map, sizeLine_eq]; have := likeK_len (d := σ.data) (u := u) (nm := name) (m := i); (first | lia | omega)
      have h00 : ((row σ.data i).take 12).getD 0 0 = (row σ.data i).getD 0 0 := by
        rw [List.getD_eq_getElem?_getD, List.getD_eq_getElem?_getD, List.getElem?_take_of_lt (by decide)]
      refine ex_if (b := ((row σ.data i).getD 0 0 == u) && (decide ((((row σ.data i).take 12).drop 1).map (fun a => a.fmod 128) = name.map fun a => a.fmod 128) && true)) (ts_bool (all_cons (by
          rw [← h00]
          exact ts_cmp (ev_item (i := 0) (l := (row σ.data i).take 12) ev_l ev_int (by decide) (by (first | lia | omega)) (by (first | lia | omega))) ev_l cmp_eq) (fun _ => all_cons (ts_cmp
            (ev_as_ints (ev_comp (us := (((row σ.data i).take 12).drop 1).map fun a => T.int (a.fmod 128)) (iter_ints (l := ((row σ.data i).take 12).drop 1) (by rw [← cut_1 (by (first | lia | omega))]; exact ev_f_ints (ev_slice_f ev_l (.some (k := 1) ev_int rfl) .none (by rw [h12]; decide)))) (compOk_of (cap := []) rfl (by simp)) (els_one _ fun a _ => ev_mod ev_l ev_int (by decide)) (fun _ _ => trivial) (by rw [List.length_map, List.length_drop, h12]; decide)) (by rw [List.map_map]; rfl))
            (ev_as_ints (ev_comp (us := name.map fun a => T.int (a.fmod 128)) (iter_ints (l := name) ev_l) (compOk_of (cap := []) rfl (by simp)) (els_one _ fun a _ => ev_mod ev_l ev_int (by decide)) (fun _ _ => trivial) (by rw [List.length_map, sizeLine_eq]; (first | lia | omega))) (by rw [List.map_map]; rfl)) (cmp_eq_ints (by decide))) (fun _ => all_nil)))) (fun h => ?_) (fun h => ?_)
      · refine ex_step (st_append (loc' := base) (t := F i) rfl rfl ev_l ⟨.inl rfl, .inl rfl, .inl rfl, trivial⟩ (hno_of rfl) hz)
          (ex_nil (ex_nil ⟨(((Str.ofString "found"), .own ((likeK σ.data u name (i + 1)).map F)) :: base : Loc), ⟨.inl ?_, .inl rfl, .inl rfl, .inl rfl, trivial⟩, rfl, rfl⟩))
        show some _ = some _
        unfold likeK
        rw [List.range_succ, List.filter_append]
        rw [Bool.and_true] at h
        rw [show List.filter (fun k => (row σ.data k).getD 0 0 == u && decide ((((row σ.data k).take 12).drop 1).map (fun a => a.fmod 128) = name.map fun a => a.fmod 128)) [i] = [i] by rw [List.filter_cons, h]; rfl, List.map_append]
        rfl
      · refine ex_nil (ex_nil ⟨(((Str.ofString "found"), .own ((likeK σ.data u name (i + 1)).map F)) :: base : Loc), ⟨.inl ?_, .inl rfl, .inl rfl, .inl rfl, trivial⟩, rfl, rfl⟩)
        show some _ = some _
        unfold likeK
        rw [List.range_succ, List.filter_append]
        rw [Bool.and_true] at h
        rw [show List.filter (fun k => (row σ.data k).getD 0 0 == u && decide ((((row σ.data k).take 12).drop 1).map (fun a => a.fmod 128) = name.map fun a => a.fmod 128)) [i] = [] by rw [List.filter_cons, h]; rfl, List.append_nil])
    (fun loc σ' hJ => by
      obtain ⟨rfl, rfl⟩ := hJ
      rw [List.length_map, rng_len]
      exact ex_ret_own rfl rfl rfl))) (hk := bnd_of rfl)
end
end Mine
end
section
namespace Mine
theorem mul_small {a : Int} (h0 : 0 ≤ a) (h1 : a < 100000) : IntMulOk a a := by
  refine .of_left ?_
  unfold Builtin.Int.intBits
  split
  · exact Nat.zero_le _
  · rename_i h
    have hne : a.natAbs ≠ 0 := by intro q; apply h; simp; (first | lia | omega)
    have : a.natAbs.log2 < 63 := (Nat.log2_lt hne).mpr (by (first | lia | omega))
    (first | lia | omega)
theorem draw_bd {σ : St} {m : Int} (hm : 0 < m) : 0 ≤ draw σ m ∧ draw σ m < m := by
  unfold draw
  split
  · exact ⟨Int.fmod_nonneg_of_pos _ hm, Int.fmod_lt_of_pos _ hm⟩
  · exact ⟨Int.fmod_nonneg_of_pos _ hm, Int.fmod_lt_of_pos _ hm⟩
theorem star_sub (value slice : PySem.Expr) (p : Pos) (es : List PySem.Expr) (env : Env) : starEach (.Subscript value slice p :: es) env = (false, eval (.Subscript value slice p) env) :: starEach es env := rfl
theorem sub_call (f : PySem.Expr) (a : List PySem.Expr) (k : List Keyword) (p : Pos) (o i : Value) : subscripted (.Call f a k p) false o i = operate [o, i] (getItem o i) := rfl
theorem ev_pick {c : Cfg} {n : Nat} {names : List (Str × NameKind)} {loc : Loc} {σ σ' : St} {l : List Int} {d : Int} {value f : PySem.Expr} {args : List PySem.Expr} {p q : Pos} (h1 : EvTo c n names loc σ value (.ints l) σ) (h2 : EvTo c n names loc σ (.Call f args [] q) (.int d) σ') (h3 : 0 ≤ d) (h4 : d < (l.length : Int)) (h5 : l.length < 2 ^ 62) {x : Int} (hx : x = l.getD d.toNat 0) :
    EvTo c n names loc σ (.Subscript value (.Call f args [] q) p) (.int x) σ' := hx ▸ ev_item h1 h2 h3 h4 h5 (fun o i => sub_call _ _ _ _ o i)
structure TurnOk (σ : St) (k : Int) : Prop where
  h0 : 0 ≤ σ.turn
  h1 : σ.turn + k < 100000
  hc : σ.cells.length ≤ 63
theorem TurnOk.adv {σ : St} {k : Int} (h : TurnOk σ (k + 1)) (hk : 0 ≤ k := by decide) : TurnOk σ.adv k := ⟨by show 0 ≤ σ.turn + 1; have := h.h0; (first | lia | omega), by show σ.turn + 1 + k < _; have := h.h1; (first | lia | omega), h.hc⟩
theorem lt_of_len {d : Int} {l : List Int} {k : Nat} (hl : l.length = k) (h : d < (k : Int)) : d < (l.length : Int) := by rw [hl]; exact h
noncomputable def letters : List Int := [65, 66, 193, 63]
noncomputable def places : List Int := [0, 4, 5, 6, 9, 1]
/-- a drawn entry's octets, and the feed behind it -/
noncomputable def entD (σ : St) : List Int × St :=
  if draw σ 6 = 5 then ([229] ++ List.replicate (31 : Int).toNat 7, σ.adv)
  else
    let σ1 := σ.adv
    let σ2 := σ1.adv
    let σ3 := σ2.adv
    let σ4 := σ3.adv
    let σ5 := σ4.adv
    ((([(draw σ 6).fmod 2] ++ ([letters.getD (draw σ1 4).toNat 0] ++ List.replicate (10 : Int).toNat 32)) ++ [draw σ4 3, 0, 0, draw σ5 5]) ++ ([places.getD (draw σ2 6).toNat 0, places.getD (draw σ3 6).toNat 0] ++ List.replicate (14 : Int).toNat 0), σ5.adv)
section
variable {c : Cfg} {n : Nat} {σ : St} (T0 : Top0 c)
include T0
theorem c_52' {m : Int} (hm : 0 < m) (h : TurnOk σ 0) : CallP c 9 (.ref (fa c 52)) [.feed, .int m] σ (fun r => r = .ret (.int (draw σ m)) σ.adv) :=
  c_52 T0 (by (first | lia | omega)) h.h0 (mul_small h.h0 (by have := h.h1; (first | lia | omega))) h.hc
theorem ev_draw {names : List (Str × NameKind)} {loc : Loc} {fp p : Pos} {kk : Nat} {cp : Pos} {m d : Int} {e : PySem.Expr} (hd : draw σ m = d) (he : EvTo c 12 names loc σ e .feed σ) (hm : 0 < m) (h : TurnOk σ 0) (hk : names.lookup ("_law_next" : Str) = some .globalImplicit) (hs : ∀ env, starEach [e, .Constant (.int m) kk cp] env = (false, eval e env) :: starEach [.Constant (.int m) kk cp] env := by intro _; rfl) :
    EvTo c 12 names loc σ (.Call (.Name "_law_next" fp) [e, .Constant (.int m) kk cp] [] p) (.int d) σ.adv :=
  hd ▸ ev_fn T0 52 (c_52' T0 hm h) (evs_cons he (evs_cons ev_int evs_nil) hs) (hk := hk) (hs := hs)
set_option maxHeartbeats 2000000 in
theorem c_53 (h : TurnOk σ 6) : CallP c 13 (.ref (fa c 53)) [.feed] σ (fun r => r = .ret (.ints (entD σ).1) (entD σ).2) := by
  have h0 : TurnOk σ 0 := ⟨h.h0, by have := h.h1; (first | lia | omega), h.hc⟩
  have t1 : TurnOk σ.adv 5 := h.adv
  have t2 : TurnOk σ.adv.adv 4 := t1.adv
  have t3 : TurnOk σ.adv.adv.adv 3 := t2.adv
  have t4 : TurnOk σ.adv.adv.adv.adv 2 := t3.adv
  have t5 : TurnOk σ.adv.adv.adv.adv.adv 1 := t4.adv
  have z : ∀ {σ : St} {k : Int}, TurnOk σ k → 0 ≤ k → TurnOk σ 0 := fun t hk => ⟨t.h0, by have := t.h1; (first | lia | omega), t.hc⟩
  have b1 := draw_bd (σ := σ.adv) (m := 4) (by decide)
  have b2 := draw_bd (σ := σ.adv.adv) (m := 6) (by decide)
  have b3 := draw_bd (σ := σ.adv.adv.adv) (m := 6) (by decide)
  obtain ⟨d0, hd0⟩ : ∃ d, draw σ 6 = d := ⟨_, rfl⟩
  obtain ⟨d1, hd1⟩ : ∃ d, draw σ.adv 4 = d := ⟨_, rfl⟩
  obtain ⟨d2, hd2⟩ : ∃ d, draw σ.adv.adv 6 = d := ⟨_, rfl⟩
  obtain ⟨d3, hd3⟩ : ∃ d, draw σ.adv.adv.adv 6 = d := ⟨_, rfl⟩
  obtain ⟨d4, hd4⟩ : ∃ d, draw σ.adv.adv.adv.adv 3 = d := ⟨_, rfl⟩
  obtain ⟨d5, hd5⟩ : ∃ d, draw σ.adv.adv.adv.adv.adv 5 = d := ⟨_, rfl⟩
  rw [hd1] at b1
  rw [hd2] at b2
  rw [hd3] at b3
  have e4 : letters.length = 4 := rfl
  have e6 : places.length = 6 := rfl
  have c1 : d1 < (letters.length : Int) := by rw [e4]; have := b1.2; (first | lia | omega)
  have c2 : d2 < (places.length : Int) := by rw [e6]; have := b2.2; (first | lia | omega)
  have c3 : d3 < (places.length : Int) := by rw [e6]; have := b3.2; (first | lia | omega)
  obtain ⟨x1, hx1⟩ : ∃ x, x = letters.getD d1.toNat 0 := ⟨_, rfl⟩
  obtain ⟨x2, hx2⟩ : ∃ x, x = places.getD d2.toNat 0 := ⟨_, rfl⟩
  obtain ⟨x3, hx3⟩ : ∃ x, x = places.getD d3.toNat 0 := ⟨_, rfl⟩
  have l4 : letters.length < 2 ^ 62 := by rw [e4]; decide
  have l6 : places.length < 2 ^ 62 := by rw [e6]; decide
  refine fn_call T0 53 (ex_step (st_assign (t := .int d0) (ev_draw T0 hd0 ev_c (by decide) h0 rfl) (.inl rfl)) (ex_if (b := d0 == 5) (ts_cmp ev_l ev_int cmp_eq) (fun hf => ?_) (fun hf => ex_nil ?_))) (hk := bnd_of rfl)
  · have hf : draw σ 6 = 5 := by rw [hd0]; simpa using hf
    refine ex_ret (ev_cat (ev_ints (l := [229]) (evs_cons ev_int evs_nil) rfl (by decide)) (ev_rep (ev_ints (l := [7]) (evs_cons ev_int evs_nil) rfl (by decide)) ev_int (by decide) (by decide)) (by simp [sizeLine_eq])) ?_
    show Out.ret _ _ = _
    unfold entD; rw [if_pos hf]
  · have hf : ¬ draw σ 6 = 5 := by rw [hd0]; simpa using hf
    have step : ∀ {x : Str} {xp p : Pos} {e : PySem.Expr} {t : T} {loc : Loc} {σ₁ σ₂ : St} {rest : List Stmt} {P : SO → Prop}, EvTo c 12 (nm 53) loc σ₁ e t σ₂ → (nm 53).lookup x = some .local → (∀ env, swapsWith e (some (.Name x xp)) p.line env = pure false) → Ex c 12 (nm 53) ((x, t) :: loc) σ₂ rest P →
        Ex c 12 (nm 53) loc σ₁ (.Assign [.Name x xp] e p :: rest) P := fun h1 h2 h3 h4 => ex_step (st_assign h1 (.inl h2) h3) h4
    refine step (t := .ints ([x1] ++ List.replicate (10 : Int).toNat 32)) (σ₂ := σ.adv.adv) ?g1 ?g2 ?g3 ?g4
    case g2 => rfl
    case g3 => intro env; rfl
    case g1 =>
      refine ev_cat (σ₁ := σ.adv.adv) (a := [x1]) (b := List.replicate (10 : Int).toNat 32) ?h1 ?h2 ?h3
      case h3 => simp [sizeLine_eq]
      case h2 => exact ev_rep (a := 32) (k := 10) (ev_ints (l := [32]) (evs_cons ev_int evs_nil) rfl (by decide)) ev_int (by decide) (by decide)
      refine ev_ints (ts := [.int (x1)]) (evs_cons ?_ evs_nil (fun env => star_sub _ _ _ _ env)) rfl (by show 1 ≤ _; decide)
      refine ev_pick ?_ (ev_draw T0 hd1 ev_c (by decide) (z t1 (by decide)) rfl) b1.1 c1 l4 hx1
      exact ev_ints (l := letters) (evs_cons ev_int (evs_cons ev_int (evs_cons (ev_add ev_int ev_int) (evs_cons ev_int evs_nil)))) rfl (by show 4 ≤ _; decide)
    refine step (t := .ints ([x2, x3] ++ List.replicate (14 : Int).toNat 0)) (σ₂ := σ.adv.adv.adv.adv) ?k1 ?k2 ?k3 ?k4
    case k2 => rfl
    case k3 => intro env; rfl
    case k1 =>
      refine ev_cat (σ₁ := σ.adv.adv.adv.adv) (a := [x2, x3]) (b := List.replicate (14 : Int).toNat 0) ?f1 ?f2 ?f3
      case f3 => simp [sizeLine_eq]
      case f2 => exact ev_rep (a := 0) (k := 14) (ev_ints (l := [0]) (evs_cons ev_int evs_nil) rfl (by decide)) ev_int (by decide) (by decide)
      refine ev_as_ints (ts := [.int (x2), .int (x3)]) ?_ rfl
      have pl : ∀ {names loc σ} {p : Pos} {es : List PySem.Expr}, EvsTo c 12 names loc σ es (places.map T.int) σ → EvTo c 12 names loc σ (.List es p) (.ints places) σ := fun h => ev_ints h rfl (by show 6 ≤ _; decide)
      refine ev_comp (bs := [[("at", .int 0)], [("at", .int 1)]]) (iter_range1 T0.range.1 T0.range.2 rfl (k := 2) ev_int (by decide) (by decide)) (compOk_of (cap := [("feed", .feed)]) rfl (by intro p hp; obtain rfl := List.mem_singleton.mp hp; exact ⟨rfl, rfl, rfl⟩))
          (.keep (.inl ⟨rfl, rfl⟩) (ev_pick ?e1 (ev_draw T0 hd2 ev_c (by decide) (z t2 (by decide)) rfl) b2.1 c2 l6 hx2)
            (.keep (.inl ⟨rfl, rfl⟩) (ev_pick ?e2 (ev_draw T0 hd3 ev_c (by decide) (z t3 (by decide)) rfl) b3.1 c3 l6 hx3) .nil))
          (fun b hb => by
            simp only [List.mem_cons, List.not_mem_nil, or_false] at hb
            rcases hb with rfl | rfl <;> exact ⟨.inl rfl, trivial⟩) (by show 2 ≤ _; decide)
      case e1 => exact pl (evs_cons ev_int (evs_cons ev_int (evs_cons ev_int (evs_cons ev_int (evs_cons ev_int (evs_cons ev_int evs_nil))))))
      case e2 => exact pl (evs_cons ev_int (evs_cons ev_int (evs_cons ev_int (evs_cons ev_int (evs_cons ev_int (evs_cons ev_int evs_nil))))))
    refine ex_ret (ev_cat (ev_cat (ev_cat (ev_ints (l := [d0.fmod 2]) (evs_cons (ev_mod ev_l ev_int (by decide)) evs_nil) rfl (by show 1 ≤ _; decide)) ev_l (by simp [sizeLine_eq]))
      (ev_ints (l := [d4, 0, 0, d5]) (evs_cons (ev_draw T0 hd4 ev_c (by decide) (z t4 (by decide)) rfl) (evs_cons ev_int (evs_cons ev_int (evs_cons (ev_draw T0 hd5 ev_c (by decide) (z t5 (by decide)) rfl) evs_nil)))) rfl (by show 4 ≤ _; decide)) (by simp [sizeLine_eq])) ev_l (by simp [sizeLine_eq])) ?_
    show Out.ret _ _ = _
    unfold entD; rw [if_neg hf]; dsimp only; rw [hd0, hd1, hd2, hd3, hd4, hd5, hx1, hx2, hx3]
end
end Mine
end
section
namespace Mine
section
variable {c : Cfg} {n : Nat} {σ : St} (T0 : Top0 c) (RO : RaiseOk c)
include T0 RO
/-- record_place: beyond -/
theorem c_30x {b i : Int} (h : ¬ (0 ≤ b ∧ b < 8)) : CallP c 10 (.ref (fa c 30)) [.disk, .int b, .int i] σ (fun r => r = .exc "range" σ) :=
  fn_call T0 30 (ex_if (b := (!(decide ((0 : Int) ≤ b) && decide (b < 8))) || ((!(decide ((0 : Int) ≤ i) && decide (i < 2))) || false)) (ts_bool (any_cons (ts_not (ts_chain (t₂ := .int b) ev_int ev_l (ev_blocks T0.DA ev_l) cmp_le cmp_lt)) (fun _ => any_cons (ts_not (ts_chain (t₂ := .int i) ev_int ev_l (ev_fn T0 11 (c_11 T0) (evs_cons ev_l evs_nil)) cmp_le cmp_lt)) (fun _ => any_nil))))
    (fun _ => RO 1 _ _ _ _ _ _ _ _ _ _ _ rfl rfl) (fun hf => by simp at hf; (first | lia | omega))) (hk := bnd_of rfl)
/-- write_record: beyond -/
theorem c_32x {b i : Int} {o : List Int} (h : ¬ (0 ≤ b ∧ b < 8)) : CallP c 11 (.ref (fa c 32)) [.disk, .int b, .int i, .ints o] σ (fun r => r = .exc "range" σ) :=
  fn_call T0 32 (ex_step (st_expr (ev_fn T0 14 (c_14 T0) (evs_cons ev_l evs_nil)))
    (ex_assign_call (T0.fn 30 rfl).1 (T0.fn 30 rfl).2.isFn rfl (evs_cons ev_l (evs_cons ev_l (evs_cons ev_l evs_nil))) (c_30x T0 RO h) (.inl rfl) (fun t σ' e => nomatch e) (fun w σ' e => e))) (hk := bnd_of rfl)
/-- allocate -/
theorem c_29 {near : Nat} (hD : σ.data.length = 256) : CallP c 17 (.ref (fa c 29)) [.disk, .int near] σ (fun o => o = .exc "full" σ ∨ ∃ k : Nat, 4 ≤ k ∧ k < 8 ∧ o = .ret (.int k) σ) :=
  fn_call T0 29 (ex_assign_call (T0.fn 28 rfl).1 (T0.fn 28 rfl).2.isFn rfl (evs_cons (ev_fn T0 25 (c_25 T0 hD) (evs_cons ev_l evs_nil)) (evs_cons (t := .int near) ev_l evs_nil)) ((c_28 T0 (near := near) usedL_8).up (by decide)) (.inl rfl)
    (fun t σ' e => by
      obtain ⟨r, e, hr⟩ := e
      cases e
      cases r with
      | none => exact ex_if (ts_cmp ev_l ev_none (cmp_is_none none_is)) (fun _ => RO 8 _ _ _ _ _ _ _ _ _ _ _ rfl (.inl rfl)) (fun h => absurd h (by decide))
      | some k =>
        have := usedL_dir (hr k rfl)
        exact ex_if (ts_cmp ev_l ev_none (cmp_is_none int_not_none)) (fun h => absurd h (by decide)) (fun _ => ex_nil (ex_ret (t := .int (k : Int)) ev_l (.inr ⟨k, this.1, this.2, rfl⟩))))
    (fun w σ' e => by obtain ⟨r, e, _⟩ := e; cases e)) (hk := bnd_of rfl)
/-- make_extent -/
theorem c_42 {u x : Int} {raw : List Int} (hr : raw.length = 11) (hD : σ.data.length = 256) : CallP c 14 (.ref (fa c 42)) [.disk, .int u, .ints raw, .int x] σ
    (fun o => (freeE σ.data = none ∧ o = .exc "directory full" σ) ∨ ∃ k, freeE σ.data = some k ∧ k < 4 ∧ o = .ret (.int (k : Nat)) (σ.put (32 * k) (octs u raw x 0 0 (List.replicate 16 0)))) :=
  fn_call T0 42 (ex_step (st_expr (ev_fn T0 14 (c_14 T0) (evs_cons ev_l evs_nil))) (ex_step (st_assign (ev_fn T0 23 (c_23 T0 hD) (evs_cons ev_l evs_nil)) (.inl rfl)) (by
    cases hf : freeE σ.data with
    | none => exact ex_if (ts_cmp ev_l ev_none (cmp_is_none none_is)) (fun _ => RO 5 _ _ _ _ _ _ _ _ _ _ _ rfl (.inl ⟨rfl, rfl⟩)) (fun h => absurd h (by decide))
    | some k =>
      have hk : k < 4 := by unfold freeE at hf; simpa using List.mem_of_find?_eq_some hf
      exact ex_if (ts_cmp ev_l ev_none (cmp_is_none int_not_none)) (fun h => absurd h (by decide)) (fun _ => ex_nil (ex_step (st_expr (ev_fn T0 20 (c_20 T0 hk hD hr (by simp)) (evs_cons ev_l (evs_cons (ev_l (t := .int (k : Int))) (evs_cons (ev_fn T0 15 (c_15 T0 (by (first | lia | omega))) (evs_cons ev_l (evs_cons ev_l (evs_cons ev_l (evs_cons ev_l evs_nil))))) evs_nil))))) (ex_ret (t := .int (k : Int)) ev_l (.inr ⟨k, rfl, hk, rfl⟩))))))) (hk := bnd_of rfl)
end
end Mine
end
section
namespace Mine
noncomputable abbrev lc2 (elt t1 i1 t2 i2 : PySem.Expr) (scope : Scope) (pos : Pos) : PySem.Expr := .ListComp elt [⟨t1, i1, [], 0⟩, ⟨t2, i2, [], 0⟩] scope pos
theorem turn_two0 (elt t1 i1 t2 i2 : PySem.Expr) (scope : Scope) (pos : Pos) (it acc : Value) (env : Env) :
    compTurn (lc2 elt t1 i1 t2 i2 scope pos) 0 it acc env = (standAt i1.pos >>= fun _ => pyNext it >>= fun r => match r with
      | none => pure (.done .next)
      | some v => letOwnedTupleGo t1 it v >>= fun _ => assign t1 env v >>= fun _ => eval i2 env >>= fun x => standAt i2.pos >>= fun _ => foldedSetIterable i2 env x >>= fun y =>
          holding [y] (pyIter y) >>= fun it2 => runOwn (.compStart (lc2 elt t1 i1 t2 i2 scope pos) 1 it2 acc env) env >>= fun _ => again (.compLoop (lc2 elt t1 i1 t2 i2 scope pos) 0 it acc env)) := by rfl
theorem turn_two1 (elt t1 i1 t2 i2 : PySem.Expr) (scope : Scope) (pos : Pos) (it acc : Value) (env : Env) :
    compTurn (lc2 elt t1 i1 t2 i2 scope pos) 1 it acc env = (standAt i2.pos >>= fun _ => pyNext it >>= fun r => match r with
      | none => pure (.done .next)
      | some v => letOwnedTupleGo t2 it v >>= fun _ => assign t2 env v >>= fun _ => (eval elt env >>= fun x => call (.builtin "list.append") [acc, x] >>= fun _ => pure ()) >>= fun _ => again (.compLoop (lc2 elt t1 i1 t2 i2 scope pos) 1 it acc env)) := by rfl
section
variable {prog : Program} {w : World} {A : Around} {R : Result → Shared → Prop} {s : Shared} {elt t1 i1 t2 i2 : PySem.Expr} {scope : Scope} {pos : Pos} {it acc : Value} {env : Env}
theorem loop_two1 (I : Nat → Shared → Prop)
    (turn : ∀ n s, I n s → wpAny (model prog w) A (pyNext it) (fun r s₁ => match r with
      | none => R (.ok .next) s₁
      | some v => wpAny (model prog w) A (letOwnedTupleGo t2 it v) (fun _ s₁' => wpAny (model prog w) A (assign t2 env v) (fun _ s₂ =>
          wpAny (model prog w) A (eval elt env) (fun x s₄ => wpAny (model prog w) A (call (.builtin "list.append") [acc, x]) (fun _ s₅ => ∃ m, m < n ∧ I m s₅) (notedBy (model prog w) A env fun e s' => R (.error e) s') s₄) (notedBy (model prog w) A env fun e s' => R (.error e) s') s₂)
          (notedBy (model prog w) A env fun e s' => R (.error e) s') s₁') (notedBy (model prog w) A env fun e s' => R (.error e) s') s₁) (notedBy (model prog w) A env fun e s' => R (.error e) s') s)
    (n : Nat) (h : I n s) : codeAny (model prog w) A (.compLoop (lc2 elt t1 i1 t2 i2 scope pos) 1 it acc env) R s := by
  refine codeAny_loop rfl I (fun n s hI => ?_) n h
  show wpAny _ A ((compTurn (lc2 elt t1 i1 t2 i2 scope pos) 1 it acc env).onRaise (fun x => do noteFrame x env; theTreesLotGoes x)) _ _ s
  refine wpAny_noted ?_
  rw [turn_two1]
  refine wpAny_bind (wpAny_standAt (wpAny_bind (wpAny_mono (turn n s hI) (fun r s₁ h₁ => ?_) fun _ _ h' => h')))
  cases r with
  | none => exact wpAny_pure h₁
  | some v =>
    refine wpAny_bind (wpAny_mono h₁ (fun _ s₁' h₁' => ?_) fun _ _ h' => h')
    refine wpAny_bind (wpAny_mono h₁' (fun _ s₂ h₂ => ?_) fun _ _ h' => h')
    exact wpAny_bind (wpAny_bind (wpAny_mono h₂ (fun x s₄ h₄ => wpAny_bind (wpAny_mono h₄ (fun _ s₅ h₅ => wpAny_pure (wpAny_pure ⟨rfl, h₅⟩)) fun _ _ h' => h')) fun _ _ h' => h'))
theorem start_two1 (h0 : codeAny (model prog w) A (.compLoop (lc2 elt t1 i1 t2 i2 scope pos) 1 it acc env) R s)
    (h : wpAny (model prog w) A (pyIter it) (fun it' s' => codeAny (model prog w) A (.compLoop (lc2 elt t1 i1 t2 i2 scope pos) 1 it' acc env) R s') (fun _ _ => False) s) :
    codeAny (model prog w) A (.compStart (lc2 elt t1 i1 t2 i2 scope pos) 1 it acc env) R s := by
  refine codeAny_of_tree ?_
  show wpAny _ _ ((compStart (lc2 elt t1 i1 t2 i2 scope pos) 1 it acc env).onRaise (fun x => do noteFrame x env; standAt theWindowsPlace)) _ _ s
  refine wpAny_notedAt ?_
  unfold compStart
  show wpAny _ _ (ask >>= _) _ _ s
  refine wpAny_bind (wpAny_askSetting (wpAny_ite ?_))
  have hstep : ∀ {E : Value → Shared → Prop}, wpAny (model prog w) A (pyIter it >>= fun it' => again (.compLoop (lc2 elt t1 i1 t2 i2 scope pos) 1 it' acc env)) (fun fin s' => match fin with | .done f => R (.ok f) s' | .again c' => c'.quiet = true ∧ codeAny (model prog w) A c' R s') E s := fun {E} =>
    wpAny_bind (wpAny_mono h (fun it' s' h' => wpAny_pure ⟨rfl, h'⟩) fun _ _ z => z.elim)
  split
  · first | exact wpAny_bind (wpAny_pure (wpAny_pure ⟨rfl, h0⟩)) | exact wpAny_pure ⟨rfl, h0⟩
  · refine wpAny_bind (wpAny_rule ?_)
    first
      | exact wpAny_bind (wpAny_standAt hstep)
      | (show wpAny _ _ (standAt i2.pos >>= _) _ _ s; exact wpAny_bind (wpAny_standAt hstep))
theorem loop_two0 (I : Nat → Shared → Prop) (hs : ∀ x, foldedSetIterable i2 env x = pure x)
    (turn : ∀ n s, I n s → wpAny (model prog w) A (pyNext it) (fun r s₁ => match r with
      | none => R (.ok .next) s₁
      | some v => wpAny (model prog w) A (letOwnedTupleGo t1 it v) (fun _ s₁' => wpAny (model prog w) A (assign t1 env v) (fun _ s₂ =>
          wpAny (model prog w) A (eval i2 env) (fun x s₃ => wpAny (model prog w) A (pyIter x) (fun it2 s₄ => codeAny (model prog w) A (.compStart (lc2 elt t1 i1 t2 i2 scope pos) 1 it2 acc env) (fun r s₅ => ∃ f, r = .ok f ∧ ∃ m, m < n ∧ I m s₅) s₄) (fun _ _ => False) s₃) (fun _ _ => False) s₂)
          (notedBy (model prog w) A env fun e s' => R (.error e) s') s₁') (notedBy (model prog w) A env fun e s' => R (.error e) s') s₁) (notedBy (model prog w) A env fun e s' => R (.error e) s') s)
    (n : Nat) (h : I n s) : codeAny (model prog w) A (.compLoop (lc2 elt t1 i1 t2 i2 scope pos) 0 it acc env) R s := by
  refine codeAny_loop rfl I (fun n s hI => ?_) n h
  show wpAny _ A ((compTurn (lc2 elt t1 i1 t2 i2 scope pos) 0 it acc env).onRaise (fun x => do noteFrame x env; theTreesLotGoes x)) _ _ s
  refine wpAny_noted ?_
  rw [turn_two0]
  refine wpAny_bind (wpAny_standAt (wpAny_bind (wpAny_mono (turn n s hI) (fun r s₁ h₁ => ?_) fun _ _ h' => h')))
  cases r with
  | none => exact wpAny_pure h₁
  | some v =>
    refine wpAny_bind (wpAny_mono h₁ (fun _ s₁' h₁' => ?_) fun _ _ h' => h')
    refine wpAny_bind (wpAny_mono h₁' (fun _ s₂ h₂ => ?_) fun _ _ h' => h')
    refine wpAny_bind (wpAny_mono h₂ (fun x s₃ h₃ => wpAny_bind (wpAny_standAt (wpAny_bind (wpAny_of_eq (hs x) ?_)))) fun _ _ h' => h'.elim)
    refine wpAny_bind (wpAny_holding (wpAny_mono h₃ (fun it2 s₄ h₄ => ?_) fun _ _ h' => h'.elim))
    refine wpAny_bind (wpAny_runOwn (codeAny_mono h₄ fun r s₅ h₅ => ?_))
    obtain ⟨f, rfl, h₅⟩ := h₅
    exact wpAny_pure ⟨rfl, h₅⟩
end
end Mine
end
section
namespace Mine
section
variable {c : Cfg} {n : Nat} {names : List (Str × NameKind)} {loc cap : Loc} {σ σ₁ σ₂ : St} {X ow : Addr → Prop} {A : Around} {env : Env}
theorem emit2 {elt t1 i1 t2 i2 : PySem.Expr} {scope : Scope} {pos : Pos} {bs : List Loc} {us us₀ : List T} {D : Addr} {vs : List Value} {s : Shared} {E : Value → Shared → Prop} {Q : Shared → Prop}
    (h₁ : IterTo c n names loc σ i2 t2 bs σ₁) (ht : TgtLoc names t2) (hel : ElsTo c n names loc [] elt bs σ₁ us σ₂) (hsub : ∀ b ∈ bs, Sub (b ++ loc) loc)
    (K : CfgOk c) (hX : ∀ a, c.Mut a → X a) (W : Act c X ow A n env names loc σ s.heap) (hDW : WrOk c X env A [D]) (hD : s.heap.PlainList D vs.toArray) (hvs : RepL c (Un X ow) s.heap us₀ vs) (hsz : us₀.length + bs.length ≤ sizeLine)
    (hQ : ∀ h' tk vs', Act c X ow A n env names loc σ₂ h' → Kp (fun a => c.Mut a ∨ a = D ∨ a = env.locals) s.heap h' → h'.PlainList D vs'.toArray → RepL c (Un X ow) h' (us₀ ++ us) vs' → Q { s with heap := h', toks := tk }) :
    wpAny (model c.prog c.w) A (eval i2 env) (fun x s₁ => wpAny (model c.prog c.w) A (pyIter x) (fun it s₂ => codeAny (model c.prog c.w) A (.compStart (lc2 elt t1 i1 t2 i2 scope pos) 1 it (.ref D) env) (fun r s' => ∃ f, r = .ok f ∧ Q s') s₂) E s₁) E s := by
  refine h₁ K X ow A env s _ E hX W fun h₂ tk I wr Sv R k hw hS => ?_
  obtain ⟨S, st0⟩ := hS (· ∈ wr) (fun a q => q) (fun a q => .inl q)
  have hXN : ∀ a, c.Mut a → Un X (· ∈ wr) a := fun a q => .inl (hX a q)
  have W0 : Act c (Un X (· ∈ wr)) ow A n env names loc σ₁ h₂ := W.grow k R hX fun a q => hw a q
  have WR : WrOk c (Un X (· ∈ wr)) env A wr := W.wrOk fun a q => ⟨q, (hw a q).1⟩
  have hdis : ∀ a, Un X ow a → a ∉ wr := fun a q z => let ⟨o, e⟩ := W.rel.live a q; off_none e (hw a z).1
  obtain ⟨dX, dM, dL, dC, dF⟩ := hDW D (by simp)
  have Dw : D ∉ wr := hdis D (.inl dX)
  have WD : WrOk c (Un X (· ∈ wr)) env A [D] := fun a q => by obtain rfl := List.mem_singleton.mp q; exact ⟨.inl dX, dM, dL, dC, dF⟩
  have plD : ∀ {h h' : Heap} {M : Addr → Prop} {vs : List Value}, Kp M h h' → ¬ M D → h.PlainList D vs.toArray → h'.PlainList D vs.toArray := fun k hm ⟨j, e⟩ => ⟨j, k.get hm e list_cls⟩
  have sw : ∀ a, Un (Un X (· ∈ wr)) ow a → Un X ow a ∨ s.heap.get? a = none := fun a z => z.elim (fun z => z.elim (fun z => .inl (.inl z)) fun z => .inr (hw a z).1) fun z => .inl (.inr z)
  have loop : codeAny (model c.prog c.w) A (.compLoop (lc2 elt t1 i1 t2 i2 scope pos) 1 (.ref I) (.ref D) env) (fun r s' => ∃ f, r = .ok f ∧ Q s') { s with heap := h₂, toks := tk } := by
    refine loop_two1 (fun m s' => ∃ i σ h tk vs us₁ us₂, s' = { s with heap := h, toks := tk } ∧ i ≤ bs.length ∧ m = bs.length + 1 - i ∧ us = us₁ ++ us₂ ∧ us₁.length ≤ i ∧ ElsTo c n names loc [] elt (bs.drop i) σ us₂ σ₂ ∧
        Act c (Un X (· ∈ wr)) ow A n env names loc σ h ∧ Sv (· ∈ wr) i h ∧ h.PlainList D vs.toArray ∧ RepL c (Un (Un X (· ∈ wr)) ow) h (us₀ ++ us₁) vs ∧ Kp (fun a => (c.Mut a ∨ a = D ∨ a = env.locals) ∨ a ∈ wr) s.heap h) ?_ (bs.length + 1)
      ⟨0, σ₁, h₂, tk, vs, [], us, rfl, Nat.zero_le _, rfl, rfl, Nat.zero_le _, by simpa using hel, W0, st0, plD k dM hD, by rw [List.append_nil]; exact RepL.kp k (fun a q => .inl (hXN a q)) _ _ (RepL.more sw _ _ hvs), k.mono fun a q => .inl (.inl q)⟩
    rintro m s' ⟨i, σ, h, tk, vs, us₁, us₂, rfl, hi, rfl, rfl, hul, hel, Wi, sti, hD, hvs, ki⟩
    by_cases hlt : i < bs.length
    · have hbi : bs[i]? = some bs[i] := List.getElem?_eq_getElem hlt
      refine S.go hbi (fun v s₁ => rfl) sti hXN WR Wi ht.ok fun h1 tk1 W1 st1 k1 kl => ?_
      have kl := kl ht
      rw [List.drop_eq_getElem_cons hlt] at hel
      cases hel with
      | keep e1 e2 e3 =>
        rename_i a₁ t us'
        refine e2 K (Un X (· ∈ wr)) ow A _ _ _ _ hXN W1 fun y h3 tk3 R3 k3 r3 => ?_
        have W3 : Act c (Un X (· ∈ wr)) ow A n env names loc a₁ h3 := (W1.kp k3 R3 hXN).sub (hsub _ (List.getElem_mem hlt))
        have pl1 := plD kl (fun z => z.elim Dw dL) hD
        have pl3 := plD k3 dM pl1
        have rl1 : RepL c (Un (Un X (· ∈ wr)) ow) h1 (us₀ ++ us₁) vs := RepL.kp kl (fun a z => z.elim (fun z => .inl (.inr z)) fun z => .inl (.inl (W.excl a (.inl z)))) _ _ hvs
        have rl3 : RepL c (Un (Un X (· ∈ wr)) ow) h3 (us₀ ++ us₁) vs := RepL.kp k3 (fun a z => .inl (hXN a z)) _ _ rl1
        have hys : vs.toArray.size ≤ sizeLine := by
          have e1 := RepL.length _ _ hvs
          rw [List.size_toArray, e1, List.length_append]; (first | lia | omega)
        refine wpAny_list_append_plain (hsz := hys) pl3 fun h4 hl4 hs4 => ?_
        have k4 : Kp (· = D) h3 h4 := .of_keeps fun a o hm e => hs4.extBut a o hm e
        have uD : ∀ a, a = D → Un (Un X (· ∈ wr)) ow a := fun a z => by rw [z]; exact .inl (.inl dX)
        have R4 : RelH c (Un (Un X (· ∈ wr)) ow) _ h4 := rel_upd R3 (M := (· = D)) (fun a o hm e => hs4.extBut a o hm e) (fun a z => ⟨uD a z, by rw [z]; exact dM⟩) (fun a z => by subst z; obtain ⟨j, e⟩ := hl4; exact ⟨_, e⟩)
        have W4 : Act c (Un X (· ∈ wr)) ow A n env names loc a₁ h4 := W3.kpN WD (k4.mono fun a z => .inr (by rw [z]; simp)) R4 hXN
        have k34 : Kp (fun a => c.Mut a ∨ a = D) h1 h4 := (k3.mono fun a z => .inl z).trans (k4.mono fun a z => .inr z)
        refine ⟨bs.length + 1 - (i + 1), by (first | lia | omega), i + 1, _, h4, tk3, vs ++ [y], us₁ ++ [t], us', rfl, hlt, rfl, by simp, by simp; (first | lia | omega), e3, W4, S.stable _ _ _ _ (fun a z => z.elim (fun z => ⟨.inl (hXN a z), fun q => (WR a q).2.1 z⟩) fun z => ⟨uD a z, by rw [z]; exact Dw⟩) k34 st1, by simpa using hl4, ?_, ?_⟩
        · rw [← List.append_assoc]
          exact RepL.append _ _ _ _ (RepL.kp k4 uD _ _ rl3) (by simp only [RepL]; exact ⟨y, [], rfl, Rep.kp k4 uD _ _ r3, rfl⟩)
        · exact (ki.trans (kl.mono fun a z => z.elim .inr fun z => .inl (.inr (.inr z)))).trans (k34.mono fun a z => z.elim (fun z => .inl (.inl z)) fun z => .inl (.inr (.inl z)))
      | drop e1 e3 => rcases e1 with ⟨_, e⟩ | ⟨_, e, _⟩ <;> cases e
    · obtain rfl : i = bs.length := Nat.le_antisymm hi (Nat.not_lt.mp hlt)
      rw [List.drop_length] at hel
      cases hel
      refine S.done _ _ _ sti fun h1 tk1 k1 => ⟨_, rfl, ?_⟩
      have W1 : Act c X ow A n env names loc σ₂ h1 := Wi.off hX W.excl WR hdis (fun a z q => let ⟨o, e⟩ := W.rel.epl a q; off_none e (hw a z).1) k1
      refine hQ h1 tk1 vs W1 (Kp.fresh (M' := fun a => (c.Mut a ∨ a = D ∨ a = env.locals) ∨ a ∈ wr) (ki.trans (k1.kp.mono fun a z => .inr z)) fun a z => z.imp id fun z => (hw a z).1) (plD k1.kp Dw hD) ?_
      rw [List.append_nil]
      exact RepL.anti (fun a z => z.elim (fun z => .inl (.inl z)) .inr) _ _ (RepL.kp k1.kp (fun a z => .inl (.inr z)) _ _ hvs)
  exact start_two1 loop (S.self 0 _ _ _ st0 loop)

theorem flat_len {g : Loc → List T} {m : Nat} : ∀ (l : List Loc), (∀ b ∈ l, (g b).length ≤ m) → (l.flatMap g).length ≤ m * l.length
  | [], _ => by simp
  | b :: l, h => by
    rw [List.flatMap_cons, List.length_append, List.length_cons, Nat.mul_succ]
    have := h b (by simp)
    have := flat_len l fun b hb => h b (by simp [hb])
    (first | lia | omega)

/-- [e for t1 in i1 for t2 in i2] -/
theorem ev_comp2 {elt t1 i1 t2 i2 : PySem.Expr} {scope : Scope} {pos : Pos} {cnames : List (Str × NameKind)} {bs : List Loc} {f : Loc → List Loc} {g : Loc → List T}
    (h₁ : IterTo c n names loc σ i1 t1 bs σ) (O : CompOk names cnames scope loc cap t1) (ht2 : TgtLoc cnames t2)
    (hin : ∀ b ∈ bs, IterTo c n cnames (b ++ cap) σ i2 t2 (f b) σ ∧ ElsTo c n cnames (b ++ cap) [] elt (f b) σ (g b) σ ∧ (∀ b2 ∈ f b, Sub (b2 ++ (b ++ cap)) (b ++ cap)) ∧ (f b).length ≤ 100)
    (hsz : bs.length ≤ 100)
    (hs : ∀ env x, foldedSetIterable i1 env x = pure x := by intro _ _; rfl) (hs2 : ∀ env x, foldedSetIterable i2 env x = pure x := by intro _ _; rfl) :
    EvTo c n names loc σ (lc2 elt t1 i1 t2 i2 scope pos) (.list (bs.flatMap g)) σ := fun K X ow A env s Q E hX W hfin => by
  rw [eval_ListComp]
  have hko : ∀ y, env.kindOf y = names.lookup y := fun y => by show env.scope.names.lookup y = _; rw [W.names]
  obtain ⟨cl, c1, c2, c3, c4⟩ := closure_ok (env := env) (scope := scope) (fun x hx hf => W.fr.has x.1 (by rw [hko]; exact O.free x hx hf)) O.nodup
  refine wpAny_comprehension_free (use := none) (cl := cl) rfl (hs env) c4 O.kind O.nm (h₁ K X ow A env s _ E hX W fun h₂ tk I wr Sv R k hw hS => ?_)
  refine wpAny_newObj_type (wpAny_newFunctionEnv O.cell (by intro y hy; simp at hy) (fun h₃ hns₃ hsb₃ => ?_) O.kind)
  dsimp only at hns₃ hsb₃ ⊢
  generalize hH2 : h₂.push { cls := .type "list", dict := none, data := .seq ([] : List Value).toArray } = H2 at hns₃ hsb₃ ⊢
  have hC : H2.objs.size = h₂.objs.size + 1 := by rw [← hH2, Heap.size_push]
  generalize hCe : H2.objs.size = C at hns₃ hsb₃ hC ⊢
  generalize hDe : h₂.objs.size = D at hC ⊢
  have hDC : D ≠ C := by rw [hC]; exact ane (Nat.ne_of_lt (Nat.lt_succ_self _))
  have nD : h₂.get? D = none := ge_none (Nat.le_of_eq hDe)
  have nC : h₂.get? C = none := ge_none (by rw [hC, hDe]; exact Nat.le_succ _)
  have old : ∀ b o, h₂.get? b = some o → h₃.get? b = some o := fun b o e => hsb₃.extBut b o (fun z => off_none (z ▸ e) nC) (Heap.get?_push_of_some _ (hH2 ▸ Heap.get?_push_of_some _ e))
  have hacc : h₃.PlainList D #[] := ⟨_, hsb₃.extBut _ _ hDC (Heap.get?_push_of_some _ (hH2 ▸ hDe ▸ Heap.get?_push_size _ rfl))⟩
  have oC : ∃ o, h₃.get? C = some o := let ⟨o, _, _, e, _⟩ := hns₃; ⟨o, e⟩
  have oD : ∃ o, h₃.get? D = some o := let ⟨_, e⟩ := hacc; ⟨_, e⟩
  let N : Addr → Prop := fun a => a ∈ C :: D :: wr
  obtain ⟨S, st₂⟩ := hS N (fun a q => List.mem_cons_of_mem _ (List.mem_cons_of_mem _ q)) (fun a q => by
    rcases List.mem_cons.mp q with rfl | q
    · exact .inr nC
    · rcases List.mem_cons.mp q with rfl | q
      · exact .inr nD
      · exact .inl q)
  have bC : s.heap.get? C = none := fresh_back W.rel R k nC
  have bD : s.heap.get? D = none := fresh_back W.rel R k nD
  have hN : ∀ a, N a → s.heap.get? a = none := fun a q => by
    rcases List.mem_cons.mp q with rfl | q
    · exact bC
    · rcases List.mem_cons.mp q with rfl | q
      · exact bD
      · exact (hw a q).1
  have k₃ : Kp c.Mut s.heap h₃ := k.trans (.of_keeps fun a o _ e => old a o e)
  have R₃ : RelH c (Un X ow) σ h₃ := rel_keeps R old
  have W₃ : Act c (Un X N) ow A n env names loc σ h₃ := W.grow k₃ R₃ hX fun a q => ⟨hN a q, by
    rcases List.mem_cons.mp q with rfl | q
    · exact oC
    · rcases List.mem_cons.mp q with rfl | q
      · exact oD
      · obtain ⟨o, e⟩ := (hw a q).2; exact ⟨o, old a o e⟩⟩
  have hXN : ∀ a, c.Mut a → Un X N a := fun a q => .inl (hX a q)
  have Cw : C ∉ wr := fun q => let ⟨o, e⟩ := (hw C q).2; off_none e nC
  have Dw : D ∉ wr := fun q => let ⟨o, e⟩ := (hw D q).2; off_none e nD
  have WR₀ : WrOk c (Un X N) env A (C :: D :: wr) := W.wrOk fun a q => ⟨q, hN a q⟩
  have WR : WrOk c (Un X N) (compEnvC scope cl C env) A wr := fun a q => by
    obtain ⟨z1, z2, z3, z4, z5⟩ := WR₀ a (List.mem_cons_of_mem _ (List.mem_cons_of_mem _ q))
    exact ⟨z1, z2, fun z => by subst z; exact Cw q, fun x z => z4 x (mem_of_lookup (c1 _ z).1), z5⟩
  have WD : WrOk c (Un X N) (compEnvC scope cl C env) A [D] := fun a q => by
    obtain rfl := List.mem_singleton.mp q
    obtain ⟨z1, z2, z3, z4, z5⟩ := WR₀ a (List.mem_cons_of_mem _ List.mem_cons_self)
    exact ⟨z1, z2, hDC, fun x z => z4 x (mem_of_lookup (c1 _ z).1), z5⟩
  have st₃ : Sv N 0 h₃ := S.stable _ _ _ No (fun _ q => q.elim) (.of_keeps fun a o _ e => old a o e) st₂
  have hdis : ∀ a, Un X ow a → a ∉ C :: D :: wr := fun a q z => let ⟨o, e⟩ := W.rel.live a q; off_none e (hN a z)
  have mD : N D := List.mem_cons_of_mem _ List.mem_cons_self
  have mC' : N C := List.mem_cons_self
  have mW : ∀ a, a ∈ wr → N a := fun a z => List.mem_cons_of_mem _ (List.mem_cons_of_mem _ z)
  have DNm : ¬ c.Mut D := (WR₀ D (by simp)).2.1
  have CNm : ¬ c.Mut C := (WR₀ C (by simp)).2.1
  have loop : ∀ s₃ : Shared, s₃ = { s with heap := h₃, toks := tk + ([] : List (Str × Value)).length } →
      codeAny (model c.prog c.w) A (.compLoop (lc2 elt t1 i1 t2 i2 scope pos) 0 (.ref I) (.ref D) (compEnvC scope cl C env)) (compPost (model c.prog c.w) A E none Q (.ref D) C) s₃ := by
    rintro s₃ rfl
    refine loop_two0 (fun m s' => ∃ i h tk vs, s' = { s with heap := h, toks := tk } ∧ i ≤ bs.length ∧ m = bs.length + 1 - i ∧ (∃ mC, h.Ns C mC) ∧
        Act c (Un X N) ow A n env names loc σ h ∧ Sv N i h ∧ h.PlainList D vs.toArray ∧ RepL c (Un (Un X N) ow) h ((bs.take i).flatMap g) vs ∧ Kp (fun a => c.Mut a ∨ N a) s.heap h) (hs2 _) ?_ (bs.length + 1)
      ⟨0, h₃, _, [], rfl, Nat.zero_le _, rfl, ⟨_, hns₃⟩, W₃, st₃, hacc, by simp only [List.take_zero, List.flatMap_nil, RepL], k₃.mono fun a q => .inl q⟩
    rintro m s' ⟨i, h, tk, vs, rfl, hi, rfl, ⟨mC, hnC⟩, Wi, sti, hD, hvs, ki⟩
    have WCi : Act c (Un X N) ow A n (compEnvC scope cl C env) cnames cap σ h := comp_act Wi W.excl O c1 c2 c3 List.mem_cons_self hnC
    by_cases hlt : i < bs.length
    · have hbi : bs[i]? = some bs[i] := List.getElem?_eq_getElem hlt
      refine S.go hbi (fun v s₁ => rfl) sti hXN WR WCi O.tgt.ok fun h1 tk1 W1 st1 k1 kl => ?_
      have kl := kl O.tgt
      obtain ⟨g1, g2, g3, g4⟩ := hin bs[i] (List.getElem_mem hlt)
      have fl : ((bs.take i).flatMap g).length ≤ 100 * i := by
        refine Nat.le_trans (flat_len (m := 100) _ fun b hb => ?_) (Nat.mul_le_mul_left _ (by rw [List.length_take]; exact Nat.min_le_left _ _))
        obtain ⟨q1, q2, q3, q4⟩ := hin b (List.mem_of_mem_take hb)
        exact Nat.le_trans q2.len q4
      have pl1 : h1.PlainList D vs.toArray := let ⟨j, e⟩ := hD; ⟨j, kl.get (fun z => z.elim Dw hDC) e list_cls⟩
      refine emit2 g1 ht2 g2 g3 K hXN W1 WD pl1 (us₀ := (bs.take i).flatMap g) (RepL.kp kl (fun a z => z.elim (fun z => .inl (.inr (mW a z))) fun z => .inl (.inr (by rw [z]; exact mC'))) _ _ hvs) (by rw [sizeLine_eq]; (first | lia | omega)) fun h2 tk2 vs2 W2 k2 pl2 rl2 => ?_
      have k12 : Kp (fun a => c.Mut a ∨ N a) h h2 := (kl.mono fun a z => .inr (z.elim (mW a) fun z => by rw [z]; exact mC')).trans (k2.mono fun a z => z.imp id fun z => z.elim (fun z => by rw [z]; exact mD) fun z => by rw [z]; exact mC')
      refine ⟨bs.length + 1 - (i + 1), by (first | lia | omega), i + 1, h2, tk2, vs2, rfl, hlt, rfl, let ⟨m, a, _⟩ := W2.fr.ns; ⟨m, a⟩, Wi.kpN WR₀ k12 W2.rel hXN, S.stable _ _ _ _ (fun a z => ?_) k2 st1, pl2, ?_, ki.trans k12⟩
      · rcases z with z | rfl | z
        · exact ⟨.inl (hXN a z), fun q => (WR a q).2.1 z⟩
        · exact ⟨.inl (.inr mD), Dw⟩
        · exact ⟨.inl (.inr (by rw [z]; exact mC')), by rw [z]; exact Cw⟩
      · have e : bs.take (i + 1) = bs.take i ++ [bs[i]] := by rw [List.take_add_one, hbi]; rfl
        rw [e, List.flatMap_append]
        have : [bs[i]].flatMap g = g bs[i] := by simp
        rw [this]; exact rl2
    · obtain rfl : i = bs.length := Nat.le_antisymm hi (Nat.not_lt.mp hlt)
      refine S.done _ _ _ sti fun h1 tk1 k1 => ⟨mC, ns_kp k1.kp Cw hnC, fun h'' hs'' => ?_⟩
      have kC : Kx [C] h1 h'' := fun b o hb e => hs''.extBut b o (fun z => hb (by simp [z])) e
      have kA : Kx (C :: wr) h h'' := fun b o hb e => kC b o (fun z => hb (by obtain rfl := List.mem_singleton.mp z; simp)) (k1 b o (fun z => hb (List.mem_cons_of_mem _ z)) e)
      have hdA : ∀ a, Un X ow a → a ∉ C :: wr := fun a z q => hdis a z (by
        rcases List.mem_cons.mp q with rfl | q
        · simp
        · simp [q])
      have hA : ∀ a, a ∈ C :: wr → N a := fun a q => by
        rcases List.mem_cons.mp q with rfl | q
        · exact mC'
        · exact mW a q
      have R'' : RelH c (Un X ow) σ h'' := Wi.rel.off kA (fun a z => ⟨.inl (.inr (hA a z)), (WR₀ a (hA a z)).2.1⟩) (fun a z => ⟨z.elim (fun z => .inl (.inl z)) .inr, hdA a z⟩) (fun a z => .inl (hX a z)) (fun a z q => by obtain ⟨o, e⟩ := W.rel.epl _ q; exact off_none e (hN a (hA a z)))
      refine hfin _ h'' tk1 R'' (Kp.fresh (M' := fun a => c.Mut a ∨ N a) (ki.trans (kA.kp.mono fun a z => .inr (hA a z))) fun a z => z.imp id (hN a)) ?_
      obtain ⟨j, e⟩ := hD
      simp only [Rep]
      refine ⟨D, vs, j, rfl, fun z => hdis D z mD, kA.kp.get (fun z => by
        rcases List.mem_cons.mp z with z | z
        · exact hDC z
        · exact Dw z) e list_cls, ?_⟩
      rw [List.take_length] at hvs
      exact RepL.anti (fun a z => z.elim (fun z => .inl (.inl z)) .inr) _ _ (RepL.kp kA.kp (fun a z => .inl (.inr (hA a z))) _ _ hvs)
  exact codeAny_compStart_list (loop _ rfl) (S.self 0 _ _ _ st₃ (loop _ rfl))
end
end Mine
end
section
namespace Mine
noncomputable def lbF (b : Loc) : List Loc := match b with
  | (_, .ent _ _ _ _ _ mp) :: _ => mp.map fun i => [("block", .int i)]
  | _ => []
noncomputable def lbG (b : Loc) : List T := match b with
  | (_, .ent _ _ _ _ _ mp) :: _ => mp.map .int
  | _ => []
theorem lb_flat {x y : Str} {d : List Int} : ∀ ks : List Nat, (pbs x y d ks).flatMap lbG = (ks.flatMap (mapK d)).map T.int
  | [] => rfl
  | k :: ks => by
    have e : pbs x y d (k :: ks) = [(y, entT (row d k)), (x, T.int (k : Int))] :: pbs x y d ks := rfl
    rw [e, List.flatMap_cons, lb_flat ks, List.flatMap_cons, List.map_append]
    rfl
theorem pbs_mem {x y : Str} {d : List Int} {ks : List Nat} {b : Loc} (h : b ∈ pbs x y d ks) : ∃ k, k ∈ ks ∧ b = [(y, entT (row d k)), (x, .int (k : Int))] := by
  obtain ⟨i, hi, rfl⟩ := List.mem_iff_getElem.mp h
  obtain ⟨k, hk, e⟩ := pbs_get (List.getElem?_eq_getElem hi)
  exact ⟨k, List.mem_of_getElem? hk, e⟩
section
variable {c : Cfg} {n : Nat} {σ : St} (T0 : Top0 c)
include T0
/-- last_block -/
theorem c_48 {u : Int} {pat : List Int} (hu : u ≠ 229) (hp : pat.length ≤ 100) (hD : σ.data.length = 256) : ∃ k : Nat, CallP c 15 (.ref (fa c 48)) [.disk, .int u, .ints pat] σ (fun o => o = .ret (.int k) σ) :=
  let ks := findK σ.data u pat 4
  let l := ks.flatMap (mapK σ.data)
  have hl : ((pbs "number" "entry" σ.data ks).flatMap lbG).length ≤ 100 * (pbs "number" "entry" σ.data ks).length := flat_len _ fun b hb => by
    obtain ⟨k, hk, rfl⟩ := pbs_mem hb
    show (List.map T.int (mapK σ.data k)).length ≤ 100
    rw [List.length_map, mapK_len hD (findK_lt hk)]; decide
  ⟨(Mine.top ([0] ++ l)).toNat, fn_call T0 48 (ex_ret (ev_bi T0.max (b_max_list (l := [0] ++ l) (by simp)) (evs_cons (ev_cat (ev_ints (l := [0]) (evs_cons ev_int evs_nil) rfl (by show 1 ≤ _; decide))
    (ev_as_ints (ev_comp2 (cap := []) (g := lbG) (f := lbF) (bs := pbs "number" "entry" σ.data ks) (iter_pairs (ps := ks.map (pairQ σ.data)) (by rw [← pairs_eq]; exact ev_fn T0 39 (c_39 T0 hu hp hD) (evs_cons ev_l (evs_cons ev_l (evs_cons ev_l evs_nil)))))
        (compOk_of (cap := []) rfl (by simp)) (show List.lookup _ _ = _ from rfl)
        (fun b hb => by
          obtain ⟨k, hk, rfl⟩ := pbs_mem hb
          refine ⟨iter_ints (l := mapK σ.data k) (ev_map T0.DA (ev_l (t := entT (row σ.data k)))), els_one _ fun a _ => ev_l, fun b2 hb2 => ?_, ?_⟩
          · obtain ⟨i, _, rfl⟩ := List.mem_map.mp hb2
            exact ⟨.inl rfl, .inl rfl, trivial⟩
          · show (List.map _ (mapK σ.data k)).length ≤ 100
            rw [List.length_map, mapK_len hD (findK_lt hk)]; decide)
        (by rw [pbs_len]; exact Nat.le_trans findK_len (by decide))) (lb_flat ks))
    (by
      have e := congrArg List.length (lb_flat (x := "number") (y := "entry") (d := σ.data) ks)
      rw [List.length_map] at e
      have := findK_len (d := σ.data) (u := u) (pat := pat)
      rw [pbs_len] at hl
      show 1 + (ks.flatMap (mapK σ.data)).length ≤ _
      rw [sizeLine_eq]
      have h4 : ks.length ≤ 4 := this
      (first | lia | omega))) evs_nil)) (by
      have : 0 ≤ Mine.top ([0] ++ l) := top_ge _ 0 (by simp)
      show Out.ret _ _ = _
      rw [Int.toNat_of_nonneg this])) (hk := bnd_of rfl)⟩
/-- read_at: it stands and is filled -/
theorem c_49 {u : Int} {pat : List Int} {r k b : Nat} (hu : u ≠ 229) (hp : pat.length ≤ 100) (hD : σ.data.length = 256) (he : extK σ.data u pat ((r / 32 : Nat) : Int) = some k) (hk4 : k < 4) (hc : ((r % 32 : Nat) : Int) < (row σ.data k).getD 15 0)
    (hb : (mapK σ.data k).getD (r % 32 / 2) 0 = (b : Int)) (h0 : b ≠ 0) (h8 : b < 8) : CallP c 16 (.ref (fa c 49)) [.disk, .int u, .ints pat, .int r] σ (fun o => o = .ret (.ints (recd σ.data (32 * b + 16 * (r % 32 % 2)))) σ) := by
  have hE : pairO σ.data (extK σ.data u pat ((r / 32 : Nat) : Int)) = .tup [.int (k : Int), entT (row σ.data k)] := by rw [he]; rfl
  refine fn_call T0 49 (ex_step (st_unpack (t := .int ((r / 32 : Nat) : Int)) (u := .int ((r % 32 : Nat) : Int)) (ev_fn T0 47 (c_47 T0) (evs_cons ev_l (evs_cons ev_l evs_nil))) (.inl rfl) (.inl rfl) (hw := fun env h1 h2 => by
        obtain ⟨⟨k, ns, g, co, mo⟩, a1, a2, a3, a4, a5, a6, a7, a8⟩ := env
        have h1 : k = .function := h1
        have h2 : ns = nm 49 := h2
        subst h1 h2; rfl))
    (ex_step (st_assign (t := .tup [.int (k : Int), entT (row σ.data k)]) (by rw [← hE]; exact ev_fn T0 40 (c_40 T0 hu hp hD) (evs_cons ev_l (evs_cons ev_l (evs_cons ev_l (evs_cons ev_l evs_nil))))) (.inl rfl))
    (ex_if (b := false || (decide ((row σ.data k).getD 15 0 ≤ ((r % 32 : Nat) : Int)) || false)) (ts_bool (any_cons (ts_cmp ev_l ev_none (cmp_is_none tup_not_none)) (fun _ => any_cons (ts_cmp (t₁ := .int ((r % 32 : Nat) : Int)) ev_l (ev_count T0.DA (ev_titem (j := 1) (ts := [.int (k : Int), entT (row σ.data k)]) ev_l ev_int rfl (by show 2 < _; decide))) cmp_ge) (fun _ => any_nil))))
      (fun h => by simp at h; rw [List.getD_eq_getElem?_getD] at hc; (first | lia | omega)) (fun _ => ex_nil ?_)))) (hk := bnd_of rfl)
  have hm := mapK_len hD hk4
  have hi : ((r % 32 : Nat) : Int).fdiv 2 = ((r % 32 / 2 : Nat) : Int) := by rw [Int.fdiv_eq_ediv_of_nonneg _ (by decide)]; (first | lia | omega)
  have hi2 : ((r % 32 : Nat) : Int).fmod 2 = ((r % 32 % 2 : Nat) : Int) := by rw [Int.fmod_eq_emod_of_nonneg _ (by decide)]; (first | lia | omega)
  refine ex_step (st_assign (t := .int (b : Int)) (by
    rw [← hb]
    exact ev_item (l := mapK σ.data k) (i := ((r % 32 / 2 : Nat) : Int)) (ev_map T0.DA (ev_titem (j := 1) (ts := [.int (k : Int), entT (row σ.data k)]) ev_l ev_int rfl (by show 2 < _; decide))) (by rw [← hi]; exact ev_fdiv (a := ((r % 32 : Nat) : Int)) ev_l (ev_fn T0 11 (c_11 T0) (evs_cons ev_l evs_nil)) (by decide) (by decide)) (by (first | lia | omega)) (by rw [hm]; (first | lia | omega)) (by rw [hm]; decide)) (.inl rfl)) (ex_ret (ev_if (b := (b : Int) == 0) (ts_cmp ev_l ev_int cmp_eq) (fun h => by simp at h; (first | lia | omega)) (fun _ => ev_fn T0 31 (c_31 T0 (i := r % 32 % 2) h8 (by (first | lia | omega)) hD) (evs_cons ev_l (evs_cons (t := .int (b : Int)) ev_l (evs_cons (by rw [← hi2]; exact ev_mod (a := ((r % 32 : Nat) : Int)) ev_l (ev_fn T0 11 (c_11 T0) (evs_cons ev_l evs_nil)) (by decide)) evs_nil))))) rfl)
end
end Mine
end
section
namespace Mine
noncomputable def Cfg.at (c : Cfg) (e : Addr → Prop) : Cfg := { c with ep := e }
/-- nothing in it speaks of ep -/
noncomputable def oldT : T → Bool
  | .none => true
  | .bool _ => true
  | .int _ => true
  | .str _ => true
  | .ints _ => true
  | .disk => true
  | .data => true
  | .feed => true
  | .dead => true
  | .ptr _ => true
  | _ => false
section
variable {c : Cfg} {n : Nat} {names : List (Str × NameKind)} {loc loc' loc₁ : Loc} {σ σ' σ₁ σ₂ σ₃ : St} {P : SO → Prop} {rest : List Stmt} {X ow : Addr → Prop} {A : Around} {env : Env} {h h' h₀ : Heap} {s : Shared} {E : Value → Shared → Prop} {e : Addr → Prop}
theorem rep_at {Y : Addr → Prop} {t : T} {v : Value} (ht : oldT t = true) (r : Rep c Y h t v) : Rep (c.at e) Y h t v := by
  cases t <;> first | (cases ht; done) | (simp only [Rep] at r ⊢; exact r) | simp only [Rep]
theorem oldT_own {t : T} (ht : oldT t = true) : isOwn t = false := by cases t <;> first | rfl | (cases ht; done)
theorem vrep_at {t : T} {v : Value} (ht : oldT t = true) (r : VRep c X ow h t v) : VRep (c.at e) X ow h t v := VRep.of (rep_at ht (r.plain (oldT_own ht)))
theorem RelH.at {Y : Addr → Prop} (R : RelH c Y σ h) (he : ∀ a, e a → ∃ o, h.get? a = some o) : RelH (c.at e) Y σ h :=
  ⟨R.base, R.live, R.muts, R.ne, R.data, R.feed, R.cells, R.given, R.obj, R.dict, R.fresh, R.stay, he⟩
theorem RelH.unat {Y : Addr → Prop} (R : RelH (c.at e) Y σ h) (he : ∀ a, c.ep a → ∃ o, h.get? a = some o) : RelH c Y σ h :=
  ⟨R.base, R.live, R.muts, R.ne, R.data, R.feed, R.cells, R.given, R.obj, R.dict, R.fresh, R.stay, he⟩
theorem CfgOk.at (K : CfgOk c) : CfgOk (c.at e) := ⟨K.X, K.g, K.b, K.nolimit⟩
theorem Act.at (W : Act c X ow A n env names loc σ h) (ho : (loc.all fun p => oldT p.2) = true) (he : ∀ a, e a → ∃ o, h.get? a = some o) : Act (c.at e) X ow A n env names loc σ h where
  ok := W.ok
  frs := W.frs
  kind := W.kind
  names := W.names
  glob := W.glob
  blt := W.blt
  excl := W.excl
  fr := by
    have old : ∀ x t, loc.lookup x = some t → oldT t = true := fun x t q => List.all_eq_true.mp ho _ (mem_of_lookup q)
    refine ⟨?_, fun x t q d k => ?_, W.fr.cellAt, W.fr.apart, W.fr.has⟩
    · obtain ⟨m, a, b⟩ := W.fr.ns
      exact ⟨m, a, fun x t q d k => let ⟨v, r, z⟩ := b x t q d k; ⟨v, r, vrep_at (old x t q) z⟩⟩
    · obtain ⟨a, v, r, z, u⟩ := W.fr.cells x t q d k
      exact ⟨a, v, r, z, vrep_at (old x t q) u⟩
  rel := W.rel.at he
theorem Kp.live {M : Addr → Prop} (k : Kp M h h') (hm : ∀ a, M a → ∃ o, h'.get? a = some o) (a : Addr) (q : ∃ o, h.get? a = some o) : ∃ o, h'.get? a = some o := by
  by_cases z : M a
  · exact hm a z
  · obtain ⟨o, e⟩ := q; obtain ⟨sl, e', _⟩ := k a o z e; exact ⟨_, e'⟩
theorem RelH.mlive {Y : Addr → Prop} (R : RelH c Y σ h) (a : Addr) (q : c.Mut a) : ∃ o, h.get? a = some o := R.live a (R.muts a q)
theorem RelH.back {Y Z : Addr → Prop} (R₀ : RelH c Y σ h) (R : RelH c Z σ' h') (k : Kp c.Mut h h') : RelH c Y σ' h' :=
  ⟨R.base, fun a q => k.live R.mlive a (R₀.live a q), R₀.muts, R.ne, R.data, R.feed, ⟨R₀.cells.1, R.cells.2⟩, ⟨R₀.given.1, R.given.2⟩, ⟨R₀.obj.1, R.obj.2⟩, ⟨R₀.dict.1, R.dict.2⟩, R.fresh, R₀.stay, R.epl⟩

/-- no list, tuple or other sequence among O -/
noncomputable def NoSeq (O : Addr → Prop) (h : Heap) : Prop := ∀ a o vs k, O a → h.get? a = some o → o.data ≠ .seq vs k
theorem NoSeq.not {O : Addr → Prop} (N : NoSeq O h) {a : Addr} {o : Obj} {vs : Array Value} {k : Nat} (e : h.get? a = some o) (q : o.data = .seq vs k) : ¬ O a := fun z => N a o vs k z e q

noncomputable def entP (u : Int) (raw : List Int) (x sp k : Int) (m : T) : List (Str × T) := [("user", .int u), ("raw", .ints raw), ("extent", .int x), ("spare", .int sp), ("count", .int k), ("map", m)]
theorem entAt_dict {Y : Addr → Prop} {a d : Addr} {u x sp k : Int} {raw mp : List Int} (q : EntAt c Y h a d u raw x sp k mp) : ∃ es n r m, h.get? a = some (instObj c.EntC d) ∧ h.get? d = some (dictOf es n) ∧ es.length ≤ 6 ∧ EntFs es u x sp k r m ∧ ¬ Y r ∧ IntsAt h r raw ∧ ¬ Y m ∧ IntsAt h m mp ∧ ¬ c.ep a ∧ ¬ c.ep d ∧ ¬ c.ep m := q
theorem inst_data {C d : Addr} {vs : Array Value} {j : Nat} : (instObj C d).data ≠ .seq vs j := by intro e; cases e
theorem dict_data {es : List DictEntry} {k : Nat} {vs : Array Value} {j : Nat} : (dictOf es k).data ≠ .seq vs j := by intro e; cases e
theorem list_data {is : Array Value} {k : Nat} : ∃ vs j, (listOf is k).data = .seq vs j := ⟨_, _, rfl⟩
theorem IntsAt.seq {a : Addr} {l : List Int} (q : IntsAt h a l) : ∃ o vs k, h.get? a = some o ∧ o.data = .seq vs k := by
  obtain ⟨vs, k, e, _⟩ := q
  exact ⟨_, _, _, e, rfl⟩
theorem ints_fun {vs : List Value} {l l' : List Int} (q : IntsAre vs l) (q' : IntsAre vs l') : l = l' := by
  induction q generalizing l' with
  | nil => cases q'; rfl
  | cons x t r ih => cases q' with
    | cons y u r' => rw [ih r']
theorem IntsAt.fun {a : Addr} {l l' : List Int} (q : IntsAt h a l) (q' : IntsAt h a l') : l = l' := by
  obtain ⟨vs, k, e, i⟩ := q
  obtain ⟨vs', k', e', i'⟩ := q'
  have e2 : (vs.toArray : Array Value) = vs'.toArray := by
    have : listOf vs.toArray k = listOf vs'.toArray k' := Option.some.inj (e.symm.trans e')
    injection this with _ _ hd
    injection hd
  have : vs = vs' := by simpa using congrArg Array.toList e2
  subst this
  exact ints_fun i i'
theorem fsOk_ent {Y : Addr → Prop} {es : List DictEntry} {u x sp k : Int} {r m : Addr} {raw : List Int} {tm : T} (q : EntFs es u x sp k r m) (hl : es.length ≤ 6) (hr : Rep c Y h (.ints raw) (.ref r)) (hm : Rep c Y h tm (.ref m)) : FsOk c Y h (entP u raw x sp k tm) es := by
  obtain ⟨q0, ⟨t1, q1⟩, q2, ⟨t3, q3⟩, ⟨t4, q4⟩, ⟨t5, q5⟩, q6⟩ := q
  refine ⟨hl, q0, fun p hp => ?_⟩
  simp only [entP, List.mem_cons, List.not_mem_nil, or_false] at hp
  rcases hp with rfl | rfl | rfl | rfl | rfl | rfl
  · exact ⟨_, q1, rfl, by simp only [Rep]; exact ⟨_, rfl⟩⟩
  · exact ⟨_, q2, rfl, hr⟩
  · exact ⟨_, q3, rfl, by simp only [Rep]; exact ⟨_, rfl⟩⟩
  · exact ⟨_, q4, rfl, by simp only [Rep]; exact ⟨_, rfl⟩⟩
  · exact ⟨_, q5, rfl, by simp only [Rep]; exact ⟨_, rfl⟩⟩
  · exact ⟨_, q6, rfl, hm⟩
/-- the entry's parts -/
theorem ent_parts {Y : Addr → Prop} {es : List DictEntry} {u x sp k : Int} {raw : List Int} {tm : T} (q : FsOk c Y h (entP u raw x sp k tm) es) :
    ∃ r v, (∀ m', v = .ref m' → EntFs es u x sp k r m') ∧ es.length ≤ 6 ∧ ¬ Y r ∧ IntsAt h r raw ∧ Rep c Y h tm v := by
  obtain ⟨z1, z2, z3⟩ := q
  obtain ⟨v1, g1, _, r1⟩ := z3 ("user", .int u) (by simp [entP])
  obtain ⟨v2, g2, _, r2⟩ := z3 ("raw", .ints raw) (by simp [entP])
  obtain ⟨v3, g3, _, r3⟩ := z3 ("extent", .int x) (by simp [entP])
  obtain ⟨v4, g4, _, r4⟩ := z3 ("spare", .int sp) (by simp [entP])
  obtain ⟨v5, g5, _, r5⟩ := z3 ("count", .int k) (by simp [entP])
  obtain ⟨v6, g6, _, r6⟩ := z3 ("map", tm) (by simp [entP])
  simp only [Rep] at r1 r2 r3 r4 r5
  obtain ⟨t1, rfl⟩ := r1; obtain ⟨b2, rfl, x2, i2⟩ := r2; obtain ⟨t3, rfl⟩ := r3; obtain ⟨t4, rfl⟩ := r4; obtain ⟨t5, rfl⟩ := r5
  exact ⟨b2, v6, fun m' e => ⟨z2, ⟨t1, g1⟩, g2, ⟨t3, g3⟩, ⟨t4, g4⟩, ⟨t5, g5⟩, by rw [← e]; exact g6⟩, z1, x2, i2, r6⟩
/-- the frame's own entry as a callee sees it -/
theorem ownE_f {a d : Addr} {u x sp k : Int} {raw mp : List Int} (q : OwnE c X ow h a d (entP u raw x sp k (.fints mp))) : Rep c X h (.ent u raw x sp k mp) (.ref a) := by
  obtain ⟨⟨oa, od, xa, xd, pa, pd, ne⟩, es, n, h1, h2, h3⟩ := q
  obtain ⟨r, v, e, z1, xr, ir, rm⟩ := ent_parts h3
  simp only [Rep] at rm
  obtain ⟨m, rfl, xm, ym, im⟩ := rm
  simp only [Rep]
  exact ⟨a, d, rfl, xa, xd, es, n, r, m, h1, h2, z1, e m rfl, fun q => xr (.inl q), ir, fun q => xm (.inl q), im, pa, pd, ym⟩
theorem ownE_p {a d m : Addr} {u x sp k : Int} {raw mp : List Int} (q : OwnE c X ow h a d (entP u raw x sp k (.ptr m))) (l : OwnL c X ow h m (mp.map .int)) : Rep c X h (.ent u raw x sp k mp) (.ref a) := by
  obtain ⟨⟨oa, od, xa, xd, pa, pd, ne⟩, es, n, h1, h2, h3⟩ := q
  obtain ⟨r, v, e, z1, xr, ir, rm⟩ := ent_parts h3
  simp only [Rep] at rm
  obtain ⟨om, xm, pm, vs, kk, em, rl⟩ := l
  simp only [Rep]
  exact ⟨a, d, rfl, xa, xd, es, n, r, m, h1, h2, z1, e m rm, fun q => xr (.inl q), ir, xm, ⟨vs, kk, em, repL_ints _ _ rl⟩, pa, pd, pm⟩
end
end Mine
end
section
namespace Mine
section
variable {c : Cfg} {n : Nat} {names : List (Str × NameKind)} {loc loc' loc₁ : Loc} {σ σ' σ₁ σ₂ σ₃ : St} {P : SO → Prop} {rest : List Stmt} {X ow : Addr → Prop} {A : Around} {env : Env} {h h' h₀ : Heap} {s : Shared} {E : Value → Shared → Prop} {e : Addr → Prop}
theorem list_ne_dict {is : Array Value} {k : Nat} {es : List DictEntry} {j : Nat} (q : listOf is k = dictOf es j) : False := absurd (show Value.type "list" = Value.type "dict" from congrArg Obj.cls q) (by decide)
theorem inst_ne_dict {C d : Addr} {es : List DictEntry} {j : Nat} (q : instObj C d = dictOf es j) : False := absurd (show Value.ref C = Value.type "dict" from congrArg Obj.cls q) (by intro h; cases h)
theorem inst_ne_list {C d : Addr} {is : Array Value} {j : Nat} (q : instObj C d = listOf is j) : False := absurd (show Value.ref C = Value.type "list" from congrArg Obj.cls q) (by intro h; cases h)
noncomputable abbrev Os := List (Addr × Addr × List (Str × T))
noncomputable abbrev Ls := List (Addr × List T)
/-- a name of the frame's that holds a group -/
theorem ev_own {x : Str} {p : Pos} {t : T} {os : Os} {ls : Ls} (hl : loc.lookup x = some (.ownG t os ls) := by rfl) (hk : names.lookup x = some .local := by rfl) (hd : (x == ("__debug__" : Str)) = false := by decide) : EvTo c n names loc σ (.Name x p) t σ := fun _ X ow A env s Q E hX W h => by
  obtain ⟨m, hn, hm⟩ := W.fr.ns
  have hk' : env.kindOf x = some .local := by show env.scope.names.lookup x = _; rw [W.names]; exact hk
  obtain ⟨v, hv, r⟩ := hm x _ hl (by simp) hk'
  exact wpAny_Name (wpAny_loadName_local W.kind hk' hn hv (h _ s.heap s.toks W.rel (Kp.refl _ _) r.1)) hd
/-- what the frame owns by the name g -/
theorem Act.grp (W : Act c X ow A n env names loc σ h) {g : Str} {t : T} {os : Os} {ls : Ls} (hl : loc.lookup g = some (.ownG t os ls)) (hk : names.lookup g = some .local) : (∀ o ∈ os, OwnE c X ow h o.1 o.2.1 o.2.2) ∧ ∀ l ∈ ls, OwnL c X ow h l.1 l.2 := by
  obtain ⟨m, hn, hm⟩ := W.fr.ns
  have hk' : env.kindOf g = some .local := by show env.scope.names.lookup g = _; rw [W.names]; exact hk
  obtain ⟨v, hv, r⟩ := hm g _ hl (by simp) hk'
  exact r.2
/-- e.f, where e is an entry of the group g's -/
theorem ev_gattr (g : Str) {value : PySem.Expr} {f : Str} {p : Pos} {a d : Addr} {fs : List (Str × T)} {t tf : T} {os : Os} {ls : Ls} (ao : AttrOk c.K c.EntC f) (h₁ : EvTo c n names loc σ value (.ptr a) σ₁) (ho : (a, d, fs) ∈ os) (hf : (f, tf) ∈ fs)
    (hl : loc.lookup g = some (.ownG t os ls) := by rfl) (hk : names.lookup g = some .local := by rfl) (he : ∀ env, attributeBase value f env (eval value env) = eval value env := by intro _; rfl) : EvTo c n names loc σ (.Attribute value f p) tf σ₁ := fun K X ow A env s Q E hX W h =>
  attr_node (h₁ K X ow A env s _ E hX W fun v h' tk R k r => by
    simp only [Rep] at r
    subst r
    obtain ⟨hx, es, nn, e1, e2, fo⟩ := ((W.kp k R hX).grp hl hk).1 _ ho
    obtain ⟨v, gv, hh, rv⟩ := fo.2.2 _ hf
    exact getA (R.inK K) ao e1 e2 gv hh (h _ h' _ R k rv)) he
/-- l[i], where l is a list of the group g's -/
theorem ev_gitem (g : Str) {value slice : PySem.Expr} {p : Pos} {m : Addr} {i : Int} {l : List Int} {t : T} {os : Os} {ls : Ls} (h₁ : EvTo c n names loc σ value (.ptr m) σ₁) (h₂ : EvTo c n names loc σ₁ slice (.int i) σ₂) (ho : (m, l.map T.int) ∈ ls) (h0 : 0 ≤ i) (h1 : i < l.length) (hz : l.length < 2 ^ 62)
    (hl : loc.lookup g = some (.ownG t os ls) := by rfl) (hk : names.lookup g = some .local := by rfl) (hs : ∀ o i, subscripted slice false o i = operate [o, i] (getItem o i) := by intro _ _; rfl) : EvTo c n names loc σ (.Subscript value slice p) (.int (l.getD i.toNat 0)) σ₂ := fun K X ow A env s Q E hX W h =>
  sub_node (two (f := fun a b => subscriptTail value slice a b) h₁ h₂ K hX W fun v w h' tk R k r1 r2 => by
    simp only [Rep] at r1 r2
    subst r1; obtain ⟨t, rfl⟩ := r2
    obtain ⟨_, _, _, vs, kk, e, rl⟩ := ((W.kp k R hX).grp hl hk).2 _ ho
    exact item_ints hs ⟨vs, kk, e, repL_ints _ _ rl⟩ h0 h1 hz fun t => h _ h' tk R k (by simp only [Rep]; exact ⟨t, rfl⟩))
noncomputable def updE (d : Addr) (f : Str) (t : T) (o : Addr × Addr × List (Str × T)) : Addr × Addr × List (Str × T) := if o.2.1 = d then (o.1, o.2.1, putF f t o.2.2) else o
/-- e.f = v, where e is an entry of the group g's -/
theorem st_gattr (g : Str) {x f : Str} {xp p p' : Pos} {value : PySem.Expr} {a d : Addr} {fs : List (Str × T)} {t tf : T} {os : Os} {ls : Ls} (so : SetOk c.K c.EntC f) (h₁ : EvTo c n names loc σ value tf σ₁) (ht : tf ≠ .dead) (hx : loc.lookup x = some (.ptr a)) (hxk : names.lookup x = some .local) (ho : (a, d, fs) ∈ os)
    (hl : loc.lookup g = some (.ownG t os ls)) (hk : names.lookup g = some .local) (hdup : ∀ o ∈ os, (o.2.2.map (·.1)).Nodup) (hz : ∀ o ∈ os, o.2.2.length < 900) (hs : Sub loc loc') (hno : ∀ p ∈ loc', isOwn p.2 = false) (hd : (x == ("__debug__" : Str)) = false := by decide)
    (hsw : ∀ env, swapsWith value (some (.Attribute (.Name x xp) f p')) p.line env = pure false := by intro _; rfl) :
    St1 c n names loc σ (.Assign [.Attribute (.Name x xp) f p'] value p) ((g, .ownG t (os.map (updE d f tf)) ls) :: loc') σ₁ := fun K X ow A env s Q E hX W h => by
  have hxk' : env.kindOf x = some .local := by show env.scope.names.lookup x = _; rw [W.names]; exact hxk
  refine plainObj_wpAny_Assign_Attribute (h₁ K X ow A env s _ E hX W fun v h1 tk1 R1 k1 r1 => ?_) (hsw env)
  have W1 := W.kp k1 R1 hX
  obtain ⟨m, hn, hm⟩ := W1.fr.ns
  obtain ⟨v0, hv0, r0⟩ := hm x _ hx (by simp) hxk'
  have r0 : Rep c (Un X ow) h1 (.ptr a) v0 := r0
  simp only [Rep] at r0
  subst r0
  refine wpAny_Name (wpAny_loadName_local W.kind hxk' hn hv0 ?_) hd
  obtain ⟨⟨oa, od, xa, xd, pa, pd, ne⟩, es, k, e1, e2, fo⟩ := (W1.grp hl hk).1 _ ho
  refine setA (s := { s with heap := h1, toks := tk1 }) (R1.inK K) so e1 e2 (getL_some fo f) (Nat.lt_of_le_of_lt fo.1 (by have := hz _ ho; (first | lia | omega))) fun h2 tk2 hs2 tk' ed same => ?_
  have kx : ∀ b o, b ≠ d → h1.get? b = some o → h2.get? b = some o := fun b o hb e => (same b hb).trans e
  have kp : Kp (· = d) h1 h2 := .of_keeps fun b o hm e => kx b o hm e
  have uD : ∀ b, b = d → Un X ow b := fun b q => by rw [q]; exact .inr od
  refine h h2 tk2 (W1.chg hX kx od xd (fun o e => by rw [e2] at e; cases e; exact dict_cls) ⟨_, ed⟩ hk hl (by simp) (fun m' v' hn' hv' r' => ?_) hs hno) ((kpF k1).trans (kp.mono fun b q => .inr (.inr (.inr (by rw [q]; exact od)))))
  obtain ⟨q1, q2, q3⟩ := r'
  refine ⟨Rep.kp kp uD _ _ q1, fun o hoo => ?_, fun l hll => ?_⟩
  · obtain ⟨o', ho', rfl⟩ := List.mem_map.mp hoo
    obtain ⟨⟨oa', od', xa', xd', pa', pd', ne'⟩, es', k', e1', e2', fo'⟩ := q2 _ ho'
    unfold updE
    split
    · rename_i hd'
      rw [hd', e2] at e2'
      have : es = es' ∧ k = k' := by
        have : dictOf es k = dictOf es' k' := Option.some.inj e2'
        simpa [dictOf] using this
      obtain ⟨rfl, rfl⟩ := this
      refine ⟨⟨oa', od', xa', xd', pa', pd', ne'⟩, _, _, kx _ _ (fun z => ne' (z.trans hd'.symm)) e1', by rw [hd']; exact ed, ?_⟩
      exact (fo'.kp kp uD).put (rep_handed ht r1) (Rep.kp kp uD _ _ r1) (putF_dup (hdup _ ho'))
    · rename_i hd'
      refine ⟨⟨oa', od', xa', xd', pa', pd', ne'⟩, es', k', kx _ _ (fun z => ?_) e1', kx _ _ hd' e2', fo'.kp kp uD⟩
      rw [z, e2] at e1'
      exact inst_ne_dict (Option.some.inj e1').symm
  · obtain ⟨om, xm, pm, vs, kk, em, rl⟩ := q3 _ hll
    refine ⟨om, xm, pm, vs, kk, kx _ _ (fun z => ?_) em, RepL.kp kp uD _ _ rl⟩
    rw [z, e2] at em
    exact list_ne_dict (Option.some.inj em).symm
/-- f(args): the callee sees the group's entries as entries -/
theorem st_gcall (g : Str) {f : Str} {fp p q : Pos} {a : Addr} {args : List PySem.Expr} {ts ts' : List T} {t t' : T} {os : Os} {ls : Ls} {e₀ : PySem.Expr} {er : List PySem.Expr} (hg : c.mg f = some (.ref a)) (hf : IsFn c a) (hkf : names.lookup f = some .globalImplicit) (h₁ : EvsTo c n names loc σ args ts σ₁)
    (h₂ : CallP c n (.ref a) ts' σ₁ (fun o => o = .ret t' σ₂)) (hl : loc.lookup g = some (.ownG t os ls)) (hk : names.lookup g = some .local)
    (conv : ∀ (X ow : Addr → Prop) (h : Heap) (vs : List Value), (∀ o ∈ os, OwnE c X ow h o.1 o.2.1 o.2.2) → (∀ l ∈ ls, OwnL c X ow h l.1 l.2) → RepL c (Un X ow) h ts vs → RepL c X h ts' vs)
    (ha : args = e₀ :: er := by rfl) (hs : ∀ env, starEach (e₀ :: er) env = (false, eval e₀ env) :: starEach er env := by intro _; rfl) (hd : (f == ("__debug__" : Str)) = false := by decide)
    (hsw : ∀ env, swapsWith (.Call (.Name f fp) args [] p) none q.line env = pure false := by intro _; rfl) : St1 c n names loc σ (.Expr (.Call (.Name f fp) args [] p) q) loc σ₂ := fun K X ow A env s Q E hX W h =>
  wpAny_Expr_any (call_node ha K hX W hg hf hkf h₁ (fun vs h' tk R k r => by
    have W' := W.kp k R hX
    obtain ⟨l, hl', hfr⟩ := W'.frs
    obtain ⟨g1, g2⟩ := W'.grp hl hk
    refine h₂ K X A l _ vs _ E hX W.ok hl' hfr (R.un hX) (conv X ow h' vs g1 g2 r) (fun t σ' v h'' tk' p R' k' r' => ?_) (fun w σ' e h'' tk' p => by cases p)
    cases p
    have R2 := RelH.back R R' k'
    exact h h'' tk' (W'.kp k' R2 hX) (kpF (k.trans k'))) hd (hs env)) (by show (env.scope.kind == .module && _) = false; rw [W.kind]; rfl) (hsw env)
/-- two entries with one dict -/
theorem ex_alias (g : Str) {ss : List Stmt} {t : T} {os : Os} {ls : Ls} (hl : loc.lookup g = some (.ownG t os ls)) (hk : names.lookup g = some .local)
    (hr : (∀ o ∈ os, ∀ o' ∈ os, o.2.1 = o'.2.1 → ∀ l l', (("raw" : Str), T.ints l) ∈ o.2.2 → (("raw" : Str), T.ints l') ∈ o'.2.2 → l = l') → Ex c n names loc σ ss P) : Ex c n names loc σ ss P := fun K X ow A env s Q E hX W PR => by
  refine hr (fun o ho o' ho' hd l l' hm hm' => ?_) K X ow A env s Q E hX W PR
  obtain ⟨_, es, k, _, e2, fo⟩ := (W.grp hl hk).1 o ho
  obtain ⟨_, es', k', _, e2', fo'⟩ := (W.grp hl hk).1 o' ho'
  rw [hd, e2'] at e2
  have : es' = es ∧ k' = k := by
    have : dictOf es' k' = dictOf es k := Option.some.inj e2
    simpa [dictOf] using this
  obtain ⟨rfl, rfl⟩ := this
  obtain ⟨v, g1, _, r1⟩ := fo.2.2 _ hm
  obtain ⟨v', g2, _, r2⟩ := fo'.2.2 _ hm'
  rw [g1] at g2; cases g2
  simp only [Rep] at r1 r2
  obtain ⟨b, rfl, _, i1⟩ := r1
  obtain ⟨b', e, _, i2⟩ := r2
  cases e
  exact i1.fun i2
end
end Mine
end
section
namespace Mine
section
variable {c : Cfg} {n : Nat} {names : List (Str × NameKind)} {loc loc' loc₁ : Loc} {σ σ' σ₁ σ₂ σ₃ : St} {P : SO → Prop} {rest : List Stmt} {X ow ow' : Addr → Prop} {A : Around} {env : Env} {h h' h₀ : Heap} {s : Shared} {E : Value → Shared → Prop} {e : Addr → Prop}
theorem Act.dropO (W : Act c X ow' A n env names [] σ h) (hoo : ∀ a, ow a → ow' a) (hX : ∀ a, c.Mut a → X a) : Act c X ow A n env names [] σ h where
  ok := W.ok
  frs := W.frs
  kind := W.kind
  names := W.names
  glob := W.glob
  blt := W.blt
  excl := W.excl
  fr := by
    obtain ⟨m, a, _⟩ := W.fr.ns
    exact ⟨⟨m, a, fun x t q => (by cases q)⟩, fun x t q => (by cases q), W.fr.cellAt, W.fr.apart, W.fr.has⟩
  rel := W.rel.anti (fun a q => q.imp id (hoo a)) fun a q => .inl (hX a q)
/-- as Post.own, where the end may be the body's last row -/
theorem Post.own2 {h₁ : Heap} {tk : Nat} {Q : Flow → Shared → Prop} (PR : Post c n names X ow A env h₀ s P Q E) (hX : ∀ a, c.Mut a → X a) (hn : ∀ loc σ, P (.next loc σ) → P (.next [] σ)) (hoo : ∀ a, ow a → ow' a) (ho : ∀ a, ow' a → ow a ∨ h₀.get? a = none) (k : Kp (MutF c env ow') h₀ h₁) (live : ∀ a o, h₀.get? a = some o → ∃ o', h₁.get? a = some o') :
    Post c n names X ow' A env h₁ { s with heap := h₁, toks := tk } P Q E := by
  have kk : ∀ {h' : Heap}, Kp (MutF c env ow') h₁ h' → Kp (MutF c env ow) h₀ h' := fun {h'} k' => Kp.fresh (k.trans k') fun a q => by
    rcases q with q | q | q | q
    · exact .inl (.inl q)
    · exact .inl (.inr (.inl q))
    · exact .inl (.inr (.inr (.inl q)))
    · exact (ho a q).imp (fun z => .inr (.inr (.inr z))) id
  refine ⟨fun loc' σ' h' tk' p W' k' => PR.next [] σ' h' tk' (hn _ _ p) ((W'.sub (loc' := []) trivial).dropO hoo hX) (kk k'), fun t σ' v h' tk' p R' k' r => PR.ret t σ' v h' tk' p R' (kk k') r, fun w σ' e h' tk' p R' k' F nx => PR.exc w σ' e h' tk' p R' (kk k') F ?_⟩
  have old : ∀ b, h₁.get? b = none → h₀.get? b = none := fun b z => by
    cases q : h₀.get? b with
    | none => rfl
    | some o => obtain ⟨o', y⟩ := live b o q; exact (off_none y z).elim
  exact ⟨old _ nx.1, fun oe vs T e1 e2 e3 => old _ (nx.2 oe vs T e1 e2 e3)⟩

/-- a new value of that shape may be held as a group of the frame's own -/
noncomputable def Splits (c : Cfg) (t : T) (Good : T → Os → Ls → Prop) : Prop := ∀ (e X ow : Addr → Prop) (h : Heap) (v : Value), (∀ a, c.ep a → e a) → Rep (c.at e) (Un X ow) h t v →
  ∃ tg os ls O, Good tg os ls ∧ (∀ a, O a → ¬ e a ∧ ∃ o, h.get? a = some o) ∧ VRep c X (Un ow O) h (.ownG tg os ls) v
theorem off_un {O : Addr → Prop} {a : Addr} (h1 : ¬ Un X ow a) (h2 : ¬ O a) : ¬ Un X (Un ow O) a := fun q => q.elim (fun z => h1 (.inl z)) fun z => z.elim (fun z => h1 (.inr z)) h2
theorem splits_pair {k : Int} {u x sp kk : Int} {raw mp : List Int} (hne : raw.length ≠ mp.length) : Splits c (.tup [.int k, .ent u raw x sp kk mp])
    (fun tg os ls => ∃ a d m, tg = .tup [.int k, .ptr a] ∧ os = [(a, d, entP u raw x sp kk (.ptr m))] ∧ ls = [(m, mp.map .int)]) := fun e X ow h v hep r => by
  simp only [Rep, RepL] at r
  obtain ⟨b, vs, rfl, hb, hob, v1, r', rfl, ⟨t1, rfl⟩, v2, r'', rfl, ⟨a, d, rfl, xa, xd, q⟩, rfl⟩ := r
  obtain ⟨es, nn, r, m, e1, e2, e3, e4, e5, e6, e7, e8, pa, pd, pm⟩ := entAt_dict q
  have hrm : r ≠ m := fun z => hne (by rw [z] at e6; rw [e6.fun e8])
  obtain ⟨orr, vr, kr, er, sr⟩ := e6.seq
  have am : a ≠ d := fun z => by rw [z, e2] at e1; exact inst_ne_dict (Option.some.inj e1).symm
  let O : Addr → Prop := fun z => z = a ∨ z = d ∨ z = m
  have nO : ∀ y o vs k, h.get? y = some o → o.data = .seq vs k → y ≠ m → ¬ O y := fun y o vs k ey sy ym z => by
    rcases z with z | z | z
    · rw [z, e1] at ey; cases ey; exact inst_data sy
    · rw [z, e2] at ey; cases ey; exact dict_data sy
    · exact ym z
  obtain ⟨vm, km, em, im⟩ := e8
  refine ⟨_, _, _, O, ⟨a, d, m, rfl, rfl, rfl⟩, fun y z => ?_, ?_, fun o ho => ?_, fun l hl => ?_⟩
  · rcases z with z | z | z
    · rw [z]; exact ⟨pa, _, e1⟩
    · rw [z]; exact ⟨pd, _, e2⟩
    · rw [z]; exact ⟨pm, _, em⟩
  · simp only [Rep, RepL]
    refine ⟨b, _, rfl, off_un hb (nO _ _ _ _ hob rfl fun z => ?_), hob, _, _, rfl, ⟨t1, rfl⟩, _, _, rfl, rfl, rfl⟩
    rw [z, em] at hob
    exact absurd (show Value.type "list" = Value.type "tuple" from congrArg Obj.cls (Option.some.inj hob)) (by decide)
  · obtain rfl := List.mem_singleton.mp ho
    refine ⟨⟨.inr (.inl rfl), .inr (.inr (.inl rfl)), fun z => xa (.inl z), fun z => xd (.inl z), fun z => pa (hep _ z), fun z => pd (hep _ z), am⟩, es, nn, e1, e2, fsOk_ent e4 e3 ?_ (by simp only [Rep])⟩
    simp only [Rep]
    exact ⟨r, rfl, off_un e5 (nO r _ _ _ er sr hrm), e6⟩
  · obtain rfl := List.mem_singleton.mp hl
    exact ⟨.inr (.inr (.inr rfl)), fun z => e7 (.inl z), fun z => pm (hep _ z), vm, km, em, ints_repL im⟩
/-- the k-th row's entry, its name turned to raw -/
noncomputable def entR (d : List Int) (k : Nat) (raw : List Int) : List (Str × T) := entP ((row d k).getD 0 0) raw (entX (row d k)) ((row d k).getD 13 0) ((row d k).getD 15 0) (.fints (mapK d k))
noncomputable def rawK (d : List Int) (k : Nat) : List Int := cut (row d k) (some 1) (some 12)
noncomputable def ptrT (o : Nat × Addr × Addr) : T := .tup [.int (o.1 : Int), .ptr o.2.1]
theorem splits_list {dd : List Int} {ks : List Nat} : Splits c (.list (ks.map (pairT dd))) (fun tg os ls => ∃ l : List (Nat × Addr × Addr), l.map (·.1) = ks ∧ tg = .list (l.map ptrT) ∧ os = l.map (fun o => (o.2.1, o.2.2, entR dd o.1 (rawK dd o.1))) ∧ ls = []) := fun e X ow h v hep r => by
  simp only [Rep] at r
  obtain ⟨b, vs, nb, rfl, hb, hob, rl⟩ := r
  have go : ∀ (ks : List Nat) (vs : List Value), RepL (c.at e) (Un X ow) h (ks.map (pairT dd)) vs → ∃ l : List (Nat × Addr × Addr), l.map (·.1) = ks ∧ (∀ O : Addr → Prop, NoSeq O h → RepL c (Un X (Un ow O)) h (l.map ptrT) vs) ∧
      ∀ o ∈ l, ¬ Un X ow o.2.1 ∧ ¬ Un X ow o.2.2 ∧ EntAt (c.at e) (Un X ow) h o.2.1 o.2.2 ((row dd o.1).getD 0 0) (rawK dd o.1) (entX (row dd o.1)) ((row dd o.1).getD 13 0) ((row dd o.1).getD 15 0) (mapK dd o.1) := by
    intro ks
    induction ks with
    | nil => intro vs r; simp only [List.map_nil, RepL] at r; exact ⟨[], rfl, fun O _ => by simp only [List.map_nil, RepL]; exact r, by simp⟩
    | cons k ks ih =>
      intro vs r
      rw [List.map_cons] at r
      unfold RepL at r
      obtain ⟨v, r', rfl, h1, h2⟩ := r
      obtain ⟨l, l1, l2, l3⟩ := ih r' h2
      unfold pairT entT at h1
      simp only [Rep, RepL] at h1
      obtain ⟨b, vs, rfl, hb, hob, v1, r', rfl, ⟨t1, rfl⟩, v2, r'', rfl, ⟨a, d, rfl, xa, xd, q⟩, rfl⟩ := h1
      refine ⟨(k, a, d) :: l, by rw [List.map_cons, l1], fun O hO => ?_, fun o ho => ?_⟩
      · rw [List.map_cons]
        unfold RepL
        refine ⟨_, _, rfl, ?_, l2 O hO⟩
        simp only [ptrT, Rep, RepL]
        exact ⟨b, _, rfl, off_un hb (hO.not hob rfl), hob, _, _, rfl, ⟨t1, rfl⟩, _, _, rfl, rfl, rfl⟩
      · rcases List.mem_cons.mp ho with rfl | ho
        · exact ⟨xa, xd, q⟩
        · exact l3 o ho
  obtain ⟨l, l1, l2, l3⟩ := go ks vs rl
  let O : Addr → Prop := fun z => ∃ o ∈ l, z = o.2.1 ∨ z = o.2.2
  have hO : NoSeq O h := fun a o vs k z ea sa => by
    obtain ⟨o', ho', z⟩ := z
    obtain ⟨_, _, q⟩ := l3 o' ho'
    obtain ⟨es, nn, r, m, e1, e2, _⟩ := entAt_dict q
    rcases z with z | z
    · rw [z, e1] at ea; cases ea; exact inst_data sa
    · rw [z, e2] at ea; cases ea; exact dict_data sa
  refine ⟨_, _, _, O, ⟨l, l1, rfl, rfl, rfl⟩, fun y z => ?_, ?_, fun o ho => ?_, fun l hl => by cases hl⟩
  · obtain ⟨o', ho', z⟩ := z
    obtain ⟨_, _, q⟩ := l3 o' ho'
    obtain ⟨es, nn, r, m, e1, e2, e3, e4, e5, e6, e7, e8, pa, pd, pm⟩ := entAt_dict q
    rcases z with z | z
    · rw [z]; exact ⟨pa, _, e1⟩
    · rw [z]; exact ⟨pd, _, e2⟩
  · simp only [Rep]
    exact ⟨b, vs, nb, rfl, off_un hb (hO.not hob rfl), hob, l2 O hO⟩
  · obtain ⟨o', ho', rfl⟩ := List.mem_map.mp ho
    obtain ⟨xa, xd, q⟩ := l3 o' ho'
    obtain ⟨es, nn, r, m, e1, e2, e3, e4, e5, e6, e7, e8, pa, pd, pm⟩ := entAt_dict q
    obtain ⟨orr, vr, kr, er, sr⟩ := e6.seq
    obtain ⟨om, vm, km, em, sm⟩ := e8.seq
    have am : o'.2.1 ≠ o'.2.2 := fun z => by rw [z, e2] at e1; exact inst_ne_dict (Option.some.inj e1).symm
    refine ⟨⟨.inr ⟨o', ho', .inl rfl⟩, .inr ⟨o', ho', .inr rfl⟩, fun z => xa (.inl z), fun z => xd (.inl z), fun z => pa (hep _ z), fun z => pd (hep _ z), am⟩, es, nn, e1, e2, fsOk_ent e4 e3 ?_ ?_⟩
    · simp only [Rep]
      exact ⟨r, rfl, off_un e5 (hO.not er sr), e6⟩
    · simp only [Rep]
      exact ⟨m, rfl, off_un e7 (hO.not em sm), fun z => pm (hep _ z), e8⟩
/-- y = e, what comes of it the frame's own -/
theorem ex_grp {y : Str} {yp p : Pos} {ex : PySem.Expr} {t : T} {Good : T → Os → Ls → Prop} (sp : Splits c t Good) (h₁ : ∀ e, EvTo (c.at e) n names loc σ ex t σ₁) (hold : (loc.all fun p => oldT p.2) = true) (hy : Bnd names y) (hn : ∀ loc σ, P (.next loc σ) → P (.next [] σ))
    (hr : ∀ tg os ls, Good tg os ls → Ex c n names ((y, .ownG tg os ls) :: loc) σ₁ rest P) (hs : ∀ env, swapsWith ex (some (.Name y yp)) p.line env = pure false := by intro _; rfl) : Ex c n names loc σ (.Assign [.Name y yp] ex p :: rest) P := fun K X ow A env s Q E hX W PR => by
  let e : Addr → Prop := fun a => ∃ o, s.heap.get? a = some o
  refine wpAny_execs_cons (wpAny_Assign_Name (h₁ e K.at X ow A env s _ E hX (W.at hold fun a q => q) fun v h' tk R k r => ?_) (hs env))
  have hep : ∀ a, c.ep a → e a := W.rel.epl
  have lv : ∀ a, e a → ∃ o, h'.get? a = some o := fun a q => k.live (fun a z => R.mlive a z) a q
  have R' : RelH c (Un X ow) σ₁ h' := R.unat fun a q => lv a (hep a q)
  obtain ⟨tg, os, ls, O, good, hO, r'⟩ := sp e X ow h' v hep r
  have hO' : ∀ a, O a → s.heap.get? a = none ∧ ∃ o, h'.get? a = some o := fun a q => by
    refine ⟨?_, (hO a q).2⟩
    cases z : s.heap.get? a with
    | none => rfl
    | some o => exact absurd ⟨o, z⟩ (hO a q).1
  have W1 : Act c X (Un ow O) A n env names loc σ₁ h' := W.growO k R' hX hO'
  refine store_var (s := { s with heap := h', toks := tk }) hX W1 r' hy fun h2 tk2 W2 k2 _ => ?_
  have kf : Kp (MutF c env (Un ow O)) s.heap h2 := (kpF k).trans (kpL k2)
  refine hr tg os ls good K X _ A env _ Q E hX W2 (PR.own2 hX hn (fun a q => .inl q) (fun a q => q.imp id fun z => (hO' a z).1) kf fun a o e => ?_)
  obtain ⟨o', e'⟩ := lv a ⟨o, e⟩
  exact W2.liveF (fun a q => .inr q) (kpL k2) a o' e'
end
end Mine
end
section
namespace Mine
noncomputable def octsK (d : List Int) (k : Nat) (raw : List Int) : List Int := octs ((row d k).getD 0 0) raw (entX (row d k)) ((row d k).getD 13 0) ((row d k).getD 15 0) (mapK d k)
noncomputable def wrAt (dd : List Int) (f : List Int → List Int) (ks : List Nat) (d : List Int) : List Int := ks.foldl (fun d k => putAt d (32 * k) (octsK dd k (f (rawK dd k)))) d
theorem wrAt_len {dd : List Int} {f : List Int → List Int} : ∀ (ks : List Nat) (d : List Int), (wrAt dd f ks d).length = d.length
  | [], _ => rfl
  | k :: ks, d => by show (wrAt dd f ks (putAt d _ _)).length = _; rw [wrAt_len ks, putAt_len]
theorem rawK_len {d : List Int} (hd : d.length = 256) {k : Nat} (hk : k < 4) : (rawK d k).length = 11 := by
  unfold rawK cut; have := row_len hd hk; simp [this]
noncomputable def Fits (dd : List Int) (f : List Int → List Int) : List (Nat × Addr × Addr) → Os → Prop
  | [], os => os = []
  | o :: l, os => ∃ r os', os = (o.2.1, o.2.2, entR dd o.1 r) :: os' ∧ (r = rawK dd o.1 ∨ r = f (rawK dd o.1)) ∧ Fits dd f l os'
theorem Fits.init {dd : List Int} {f : List Int → List Int} : ∀ l : List (Nat × Addr × Addr), Fits dd f l (l.map (fun o => (o.2.1, o.2.2, entR dd o.1 (rawK dd o.1))))
  | [] => rfl
  | o :: l => ⟨_, _, rfl, .inl rfl, Fits.init l⟩
theorem Fits.get {dd : List Int} {f : List Int → List Int} : ∀ {l : List (Nat × Addr × Addr)} {os : Os} {o : Nat × Addr × Addr}, Fits dd f l os → o ∈ l → ∃ r, (o.2.1, o.2.2, entR dd o.1 r) ∈ os ∧ (r = rawK dd o.1 ∨ r = f (rawK dd o.1))
  | [], _, _, _, h => by cases h
  | o :: l, os, o', ⟨r, os', e, hr, q⟩, h => by
    rcases List.mem_cons.mp h with rfl | h
    · exact ⟨r, by rw [e]; simp, hr⟩
    · obtain ⟨r', h1, h2⟩ := q.get h
      exact ⟨r', by rw [e]; simp [h1], h2⟩
theorem Fits.mem {dd : List Int} {f : List Int → List Int} : ∀ {l : List (Nat × Addr × Addr)} {os : Os} {x : Addr × Addr × List (Str × T)}, Fits dd f l os → x ∈ os → ∃ o ∈ l, ∃ r, x = (o.2.1, o.2.2, entR dd o.1 r) ∧ (r = rawK dd o.1 ∨ r = f (rawK dd o.1))
  | [], os, x, e, h => by rw [show os = [] from e] at h; cases h
  | o :: l, os, x, ⟨r, os', e, hr, q⟩, h => by
    rw [e] at h
    rcases List.mem_cons.mp h with rfl | h
    · exact ⟨o, by simp, r, rfl, hr⟩
    · obtain ⟨o', h1, h2⟩ := q.mem h
      exact ⟨o', by simp [h1], h2⟩
theorem putF_raw {dd : List Int} {k : Nat} {r r' : List Int} : putF "raw" (.ints r') (entR dd k r) = entR dd k r' := by
  unfold entR entP
  simp only [putF, if_neg (show ¬ ("user" : Str) = "raw" by decide), if_true]
theorem Fits.upd {dd : List Int} {f : List Int → List Int} {d : Addr} {v : List Int} : ∀ {l : List (Nat × Addr × Addr)} {os : Os}, Fits dd f l os → (∀ o ∈ l, ∀ r, (o.2.1, o.2.2, entR dd o.1 r) ∈ os → o.2.2 = d → v = f (rawK dd o.1)) → Fits dd f l (os.map (updE d "raw" (.ints v)))
  | [], os, e, _ => by rw [show os = [] from e]; rfl
  | o :: l, os, ⟨r, os', e, hr, q⟩, h => by
    subst e
    have ih := q.upd fun o' ho' r' hr' hd => h o' (by simp [ho']) r' (by simp [hr']) hd
    rw [List.map_cons]
    by_cases hd : o.2.2 = d
    · refine ⟨v, _, ?_, .inr (h o (by simp) r (by simp) hd), ih⟩
      unfold updE
      dsimp only
      rw [if_pos hd, putF_raw]
    · refine ⟨r, _, ?_, hr, ih⟩
      unfold updE
      dsimp only
      rw [if_neg hd]
theorem entR_nodup {dd : List Int} {k : Nat} {r : List Int} : ((entR dd k r).map (·.1)).Nodup := by
  show (["user", "raw", "extent", "spare", "count", "map"] : List Str).Nodup
  exact nodup_of (by decide)
theorem raw_mem {dd : List Int} {k : Nat} {r : List Int} : (("raw" : Str), T.ints r) ∈ entR dd k r := by simp [entR, entP]
theorem sub_perm {loc₁ loc₂ : Loc} : ∀ {loc : Loc}, Sub loc₁ loc → (∀ x, loc₂.lookup x = loc₁.lookup x) → Sub loc₂ loc
  | [], _, _ => trivial
  | (x, t) :: r, ⟨h1, h2⟩, h => ⟨h1.imp (fun z => (h x).trans z) id, sub_perm h2 h⟩
section
variable {c : Cfg} {X ow : Addr → Prop} {h : Heap}
theorem conv_list {dd : List Int} : ∀ (l : List (Nat × Addr × Addr)) (vs : List Value), (∀ o ∈ l.map (fun o => (o.2.1, o.2.2, entR dd o.1 (rawK dd o.1))), OwnE c X ow h o.1 o.2.1 o.2.2) → RepL c (Un X ow) h (l.map ptrT) vs → RepL c X h ((l.map (·.1)).map (pairT dd)) vs
  | [], vs, _, r => by simp only [List.map_nil, RepL] at r ⊢; exact r
  | o :: l, vs, ho, r => by
    rw [List.map_cons] at r
    unfold RepL at r
    obtain ⟨v, r', rfl, h1, h2⟩ := r
    rw [List.map_cons, List.map_cons]
    unfold RepL
    refine ⟨v, r', rfl, ?_, conv_list l r' (fun o' q => ho o' (by rw [List.map_cons]; exact List.mem_cons_of_mem _ q)) h2⟩
    simp only [ptrT, Rep, RepL] at h1
    obtain ⟨b, _, rfl, hb, hob, v1, _, rfl, ⟨t1, rfl⟩, v2, _, rfl, rfl, rfl⟩ := h1
    have := ownE_f (ho (o.2.1, o.2.2, entR dd o.1 (rawK dd o.1)) (by simp))
    unfold pairT entT
    simp only [Rep, RepL] at this ⊢
    exact ⟨b, _, rfl, fun z => hb (.inl z), hob, _, _, rfl, ⟨t1, rfl⟩, _, _, rfl, this, rfl⟩
end
theorem Top0.at {c : Cfg} (T0 : Top0 c) {e : Addr → Prop} : Top0 (c.at e) where
  DA := ⟨T0.DA.blocks, T0.DA.block, T0.DA.record, T0.DA.entries, T0.DA.ro, T0.DA.given, T0.DA.data, T0.DA.user, T0.DA.raw, T0.DA.extent, T0.DA.spare, T0.DA.count, T0.DA.map⟩
  fn := fun i hi => T0.fn i hi
  ent := T0.ent
  mke := let ⟨fI, ⟨m1, m2, m3⟩, hf⟩ := T0.mke; ⟨fI, ⟨m1, m2, m3⟩, hf⟩
  set := T0.set
  min := T0.min
  max := T0.max
  len := T0.len
  all := T0.all
  any := T0.any
  abs := T0.abs
  int := T0.int
  list := T0.list
  range := T0.range
  enumerate := T0.enumerate
  zip := T0.zip
  FREE := T0.FREE
  ENTRY_SIZE := T0.ENTRY_SIZE
  NAME_SIZE := T0.NAME_SIZE
  MAP_AT := T0.MAP_AT
  MOST_RECORDS := T0.MOST_RECORDS
  EXTENTS_LOW := T0.EXTENTS_LOW
  ANY := T0.ANY
  READ_ONLY_AT := T0.READ_ONLY_AT
section
variable {c : Cfg} {n : Nat} {names : List (Str × NameKind)} {σ : St} {P : SO → Prop} {rest : List Stmt} (T0 : Top0 c)
include T0
/-- for number, entry in pairs: entry.raw = ...; write_entry(disk, number, entry) -/
theorem ents_loop {base : Loc} {comp : PySem.Expr} {f : List Int → List Int} {l : List (Nat × Addr × Addr)} {p1 p2 p3 p4 p5 p6 p7 p8 p9 p10 p11 p12 p13 p14 : Pos} {kk : Nat} (hn : 13 ≤ n) (hD : σ.data.length = 256) (hl4 : ∀ o ∈ l, o.1 < 4)
    (hf : ∀ r, r.length = 11 → (f r).length = 11 ∧ f (f r) = f r)
    (hne : names.lookup ("entry" : Str) = some .local) (hnn : names.lookup ("number" : Str) = some .local) (hnp : names.lookup ("pairs" : Str) = some .local) (hnd : names.lookup ("disk" : Str) = some .local) (hnw : names.lookup ("write_entry" : Str) = some .globalImplicit)
    (hsub : ∀ a b c : T, Sub (("entry", a) :: ("number", b) :: ("pairs", c) :: base) base) (hno : ∀ p ∈ base, isOwn p.2 = false) (hdisk : base.lookup ("disk" : Str) = some .disk)
    (hc : ∀ (k : Nat) (a d : Addr) (r : List Int) (os : Os) (σ' : St), (a, d, entR σ.data k r) ∈ os → r.length = 11 → EvTo c n names (("entry", .ptr a) :: ("number", .int (k : Int)) :: ("pairs", .ownG (.list (l.map ptrT)) os []) :: base) σ' comp (.ints (f r)) σ')
    (hsw : ∀ env, swapsWith comp (some (.Attribute (.Name "entry" p5) "raw" p6)) p7.line env = pure false)
    (hr : ∀ os, Ex c n names (("pairs", .ownG (.list (l.map ptrT)) os []) :: base) { σ with data := wrAt σ.data f (l.map (·.1)) σ.data } rest P) :
    Ex c n names (("pairs", .ownG (.list (l.map ptrT)) (l.map fun o => (o.2.1, o.2.2, entR σ.data o.1 (rawK σ.data o.1))) []) :: base) σ
      (.For (.Tuple [.Name "number" p1, .Name "entry" p2] kk p3) (.Name "pairs" p4) [.Assign [.Attribute (.Name "entry" p5) "raw" p6] comp p7, .Expr (.Call (.Name "write_entry" p8) [.Name "disk" p9, .Name "number" p10, .Name "entry" p11] [] p12) p13] [] p14 :: rest) P := by
  let ps : List (T × T) := l.map fun o => (T.int (o.1 : Int), T.ptr o.2.1)
  have hps : (l.map ptrT) = ps.map fun q => T.tup [q.1, q.2] := by simp only [ps, List.map_map]; rfl
  have h3 : ("entry" : Str) ≠ "pairs" := by decide
  have h4 : ("number" : Str) ≠ "pairs" := by decide
  have h5 : ("disk" : Str) ≠ "pairs" := by decide
  refine ex_for (iter_pairs (ps := ps) (by rw [← hps]; exact ev_own (lookup_cons_eq) hnp)) ⟨.inl hnn, .inl hne⟩ (fun i loc σ' => ∃ os, loc = (("pairs", .ownG (.list (l.map ptrT)) os []) :: base : Loc) ∧ Fits σ.data f l os ∧ σ' = { σ with data := wrAt σ.data f ((l.take i).map (·.1)) σ.data }) ⟨_, rfl, Fits.init l, rfl⟩
    (fun i b loc σ' hb hJ => ?_) (fun loc σ' hJ => ?_)
  · obtain ⟨os, rfl, hF, rfl⟩ := hJ
    rw [List.getElem?_zipWith, List.getElem?_map, List.getElem?_map] at hb
    simp only [ps, List.getElem?_map] at hb
    cases hi : l[i]? with
    | none => simp [hi] at hb
    | some o =>
    simp [hi] at hb
    subst hb
    have hol : o ∈ l := List.mem_of_getElem? hi
    obtain ⟨k, a, d⟩ := o
    obtain ⟨r, hm, hrr⟩ := hF.get hol
    dsimp only at hm hrr
    have hk4 : k < 4 := hl4 _ hol
    have hr11 : r.length = 11 := by
      rcases hrr with rfl | rfl
      · exact rawK_len hD hk4
      · exact (hf _ (rawK_len hD hk4)).1
    have hfr : f r = f (rawK σ.data k) := by
      rcases hrr with rfl | rfl
      · rfl
      · exact (hf _ (rawK_len hD hk4)).2
    refine ex_alias "pairs" (os := os) (t := .list (l.map ptrT)) (ls := []) rfl hnp fun al => ?_
    refine ex_step (st_gattr "pairs" (loc' := ("entry", .ptr a) :: ("number", .int (k : Int)) :: base) T0.set.2.1 (hc k a d r os _ hm hr11) (by simp) rfl hne hm rfl hnp (fun o ho => ?_) (fun o ho => ?_) ⟨.inl rfl, .inl rfl, ?_⟩ (fun p hp => ?_) (hsw := hsw)) ?_
    · obtain ⟨o', _, r', rfl, _⟩ := hF.mem ho; exact entR_nodup
    · obtain ⟨o', _, r', rfl, _⟩ := hF.mem ho; show 6 < 900; decide
    · exact hsub _ _ _
    · rcases List.mem_cons.mp hp with rfl | hp
      · rfl
      · rcases List.mem_cons.mp hp with rfl | hp
        · rfl
        · exact hno p hp
    have hF' : Fits σ.data f l (os.map (updE d "raw" (.ints (f r)))) := hF.upd fun o ho r' hr' hd => by
      have e : r' = r := (al _ hr' _ hm hd _ _ raw_mem raw_mem)
      obtain ⟨o2, ho2, r2, e2, hr2⟩ := hF.mem hr'
      obtain ⟨r3, hm3, hr3⟩ := hF.get ho
      have e3 : r3 = r := (al _ hm3 _ hm hd _ _ raw_mem raw_mem)
      rw [← e3]
      rcases hr3 with z | z
      · rw [z]
      · rw [z]; exact (hf _ (rawK_len hD (hl4 _ ho))).2
    obtain ⟨r4, hm4, hr4⟩ := hF'.get hol
    have hm5 : (a, d, entR σ.data k (f r)) ∈ os.map (updE d "raw" (.ints (f r))) := by
      refine List.mem_map.mpr ⟨_, hm, ?_⟩
      unfold updE
      dsimp only
      rw [if_pos rfl, putF_raw]
    refine ex_step (st_gcall "pairs" (T0.fn 20 rfl).1 (T0.fn 20 rfl).2.isFn hnw (ts := [.disk, .int (k : Int), .ptr a]) (ts' := [.disk, .int (k : Int), .ent ((row σ.data k).getD 0 0) (f r) (entX (row σ.data k)) ((row σ.data k).getD 13 0) ((row σ.data k).getD 15 0) (mapK σ.data k)])
      (evs_cons (ev_loc (by rw [lookup_cons_ne h5, lookup_cons_ne (by decide), lookup_cons_ne (by decide)]; exact hdisk) hnd) (evs_cons (ev_loc rfl hnn) (evs_cons (ev_loc rfl hne) evs_nil)))
      ((c_20 T0 hk4 (by show (wrAt _ _ _ _).length = 256; rw [wrAt_len, hD]) (hf _ hr11).1 (mapK_len hD hk4)).up hn) rfl hnp (fun X ow h vs go _ r => ?_)) (ex_nil ⟨(("pairs", .ownG (.list (l.map ptrT)) (os.map (updE d "raw" (.ints (f r)))) []) :: base : Loc), ⟨.inl rfl, ?_⟩, _, rfl, hF', ?_⟩)
    · have hh := ownE_f (go _ hm5)
      simp only [RepL] at r ⊢
      obtain ⟨v1, r1, rfl, q1, v2, r2, rfl, q2, v3, r3, rfl, q3, rfl⟩ := r
      simp only [Rep] at q1 q2 q3
      subst q3
      exact ⟨_, _, rfl, by simp only [Rep]; exact q1, _, _, rfl, by simp only [Rep]; exact q2, _, _, rfl, hh, rfl⟩
    · have hs := hsub (.ptr a) (.int (k : Int)) (.ownG (.list (l.map ptrT)) (os.map (updE d "raw" (.ints (f r)))) [])
      refine sub_perm hs fun x => ?_
      by_cases z1 : x = "pairs"
      · subst z1; rw [lookup_cons_eq, lookup_cons_ne (by decide), lookup_cons_ne (by decide), lookup_cons_eq]
      · rw [lookup_cons_ne z1]
        by_cases z2 : x = "entry"
        · subst z2; rw [lookup_cons_eq, lookup_cons_eq]
        · rw [lookup_cons_ne z2, lookup_cons_ne z2]
          by_cases z3 : x = "number"
          · subst z3; rw [lookup_cons_eq, lookup_cons_eq]
          · rw [lookup_cons_ne z3, lookup_cons_ne z3, lookup_cons_ne z1]
    · have : (l.take (i + 1)) = l.take i ++ [(k, a, d)] := by rw [List.take_add_one, hi]; rfl
      rw [this, List.map_append]
      unfold St.put wrAt
      rw [List.foldl_append, hfr]
      rfl
  · obtain ⟨os, rfl, hF, rfl⟩ := hJ
    have : (List.zipWith (fun t u => [((Str.ofString "entry"), u), ((Str.ofString "number"), t)]) (ps.map (·.1)) (ps.map (·.2))).length = l.length := by simp [ps]
    rw [this, List.take_length]
    exact hr os
end
end Mine
end
section
namespace Mine
noncomputable def renF (nw r : List Int) : List Int := List.zipWith (fun a b => Builtin.bitOr (band a 128) (band b 127)) (r.take (min r.length nw.length)) (nw.take (min r.length nw.length))
noncomputable def setF (nw r : List Int) : List Int := List.zipWith (fun a b => Builtin.bitOr (band a 127) (band b 128)) (r.take (min r.length nw.length)) (nw.take (min r.length nw.length))
section
variable {c : Cfg} {n : Nat} {σ : St} (T0 : Top0 c)
include T0
/-- rename: none of the found is flagged -/
theorem c_45 {u : Int} {pat nw : List Int} (hu : u ≠ 229) (hp : pat.length ≤ 100) (hnw : nw.length = 11) (hD : σ.data.length = 256) (hno : ∀ k ∈ findK σ.data u pat 4, (cut (row σ.data k) (some 1) (some 12)).getD 8 0 < 128)
    (hid : ∀ r, r.length = 11 → renF nw (renF nw r) = renF nw r) :
    CallP c 16 (.ref (fa c 45)) [.disk, .int u, .ints pat, .ints nw] σ (fun r => r = .ret (.int (findK σ.data u pat 4).length) { σ with data := wrAt σ.data (renF nw) (findK σ.data u pat 4) σ.data }) := by
  refine fn_call T0 45 (ex_step (st_expr (ev_fn T0 14 (c_14 T0) (evs_cons ev_l evs_nil))) (ex_grp splits_list (fun e => ev_fn (T0.at (e := e)) 39 (c_39 T0.at hu hp hD) (evs_cons ev_l (evs_cons ev_l (evs_cons ev_l evs_nil)))) rfl (.inl rfl) (fun _ _ h => h) fun tg os ls good => ?_)) (hk := bnd_of rfl)
  obtain ⟨l, hl, rfl, rfl, rfl⟩ := good
  have hmem : ∀ o ∈ l, o.1 ∈ findK σ.data u pat 4 := fun o ho => hl ▸ List.mem_map_of_mem ho
  refine ex_step (st_gcall "pairs" (T0.fn 43 rfl).1 (T0.fn 43 rfl).2.isFn rfl (ts' := [.list ((l.map (·.1)).map (pairT σ.data))]) (evs_cons ev_own evs_nil) ((c_43 T0 (ks := l.map (·.1)) (by rw [hl]; exact Nat.le_trans findK_len (by decide)) hD (fun k hk => findK_lt (hl ▸ hk)) (fun k hk => hno k (hl ▸ hk))).up (by decide)) rfl rfl (fun X ow h vs go _ r => ?_)) ?_
  · simp only [RepL] at r ⊢
    obtain ⟨v1, r1, rfl, q1, rfl⟩ := r
    simp only [Rep] at q1
    obtain ⟨b, vs, nb, rfl, hb, hob, rl⟩ := q1
    exact ⟨_, _, rfl, by simp only [Rep]; exact ⟨b, vs, nb, rfl, fun z => hb (.inl z), hob, conv_list l vs go rl⟩, rfl⟩
  · refine ents_loop T0 (f := renF nw) (base := [("new", .ints nw), ("old", .ints pat), ("user", .int u), ("disk", .disk)]) (by decide) hD (fun o ho => findK_lt (hmem o ho)) (fun r hr => ⟨by unfold renF; simp [hr, hnw], hid r hr⟩) rfl rfl rfl rfl rfl (fun _ _ _ => ⟨.inl rfl, .inl rfl, .inl rfl, .inl rfl, trivial⟩) (hno_of rfl) rfl (fun k a d r os σ' hm hr => ?_) (fun env => rfl) (fun os => ?_)
    · refine ev_as_ints (ev_comp (us := List.zipWith (fun a b => T.int (Builtin.bitOr (band a 128) (band b 127))) (r.take (min r.length nw.length)) (nw.take (min r.length nw.length))) (iter_zip T0.zip.1 T0.zip.2 rfl (ev_gattr "pairs" T0.DA.raw ev_l hm raw_mem) ev_l) (compOk_of (cap := []) rfl (by simp)) (els_zip _ _ fun a b => ev_or (ev_and ev_l ev_int) (ev_and ev_l ev_int)) (fun _ _ => trivial) (by simp [sizeLine_eq]; (first | lia | omega))) ?_
      unfold renF; rw [List.map_zipWith]
    · rw [hl]
      refine ex_ret (ev_bi T0.len (b_len_list (l := l.map ptrT) ?_) (evs_cons ev_own evs_nil)) ?_
      · rw [List.length_map, ← List.length_map (f := (·.1)), hl]; exact Nat.lt_of_le_of_lt findK_len (by decide)
      · show Out.ret _ _ = _
        rw [List.length_map, ← List.length_map (f := (·.1)) (as := l), hl]
/-- set_attributes -/
theorem c_46 {u : Int} {nw : List Int} (hu : u ≠ 229) (hnw : nw.length = 11) (hD : σ.data.length = 256)
    (hid : ∀ r, r.length = 11 → setF nw (setF nw r) = setF nw r) :
    CallP c 16 (.ref (fa c 46)) [.disk, .int u, .ints nw] σ (fun r => r = .ret (.int (findK σ.data u (nw.map fun a => band a 127) 4).length) { σ with data := wrAt σ.data (setF nw) (findK σ.data u (nw.map fun a => band a 127) 4) σ.data }) := by
  refine fn_call T0 46 (ex_step (st_expr (ev_fn T0 14 (c_14 T0) (evs_cons ev_l evs_nil))) (ex_grp splits_list (fun e => ev_fn (T0.at (e := e)) 39 (c_39 T0.at hu (pat := nw.map fun a => band a 127) (by rw [List.length_map]; (first | lia | omega)) hD) (evs_cons ev_l (evs_cons ev_l (evs_cons (ev_fn T0.at 36 (c_36 T0.at (by (first | lia | omega))) (evs_cons ev_l evs_nil)) evs_nil)))) rfl (.inl rfl) (fun _ _ h => h) fun tg os ls good => ?_)) (hk := bnd_of rfl)
  obtain ⟨l, hl, rfl, rfl, rfl⟩ := good
  have hmem : ∀ o ∈ l, o.1 ∈ findK σ.data u (nw.map fun a => band a 127) 4 := fun o ho => hl ▸ List.mem_map_of_mem ho
  refine ents_loop T0 (f := setF nw) (base := [("raw", .ints nw), ("user", .int u), ("disk", .disk)]) (by decide) hD (fun o ho => findK_lt (hmem o ho)) (fun r hr => ⟨by unfold setF; simp [hr, hnw], hid r hr⟩) rfl rfl rfl rfl rfl (fun _ _ _ => ⟨.inl rfl, .inl rfl, .inl rfl, trivial⟩) (hno_of rfl) rfl (fun k a d r os σ' hm hr => ?_) (fun env => rfl) (fun os => ?_)
  · refine ev_as_ints (ev_comp (us := List.zipWith (fun a b => T.int (Builtin.bitOr (band a 127) (band b 128))) (r.take (min r.length nw.length)) (nw.take (min r.length nw.length))) (iter_zip T0.zip.1 T0.zip.2 rfl (ev_gattr "pairs" T0.DA.raw ev_l hm raw_mem) ev_l) (compOk_of (cap := []) rfl (by simp)) (els_zip _ _ fun a b => ev_or (ev_and ev_l ev_int) (ev_and ev_l ev_int)) (fun _ _ => trivial) (by simp [sizeLine_eq]; (first | lia | omega))) ?_
    unfold setF; rw [List.map_zipWith]
  · rw [hl]
    refine ex_ret (ev_bi T0.len (b_len_list (l := l.map ptrT) ?_) (evs_cons ev_own evs_nil)) ?_
    · rw [List.length_map, ← List.length_map (f := (·.1)), hl]; exact Nat.lt_of_le_of_lt findK_len (by decide)
    · show Out.ret _ _ = _
      rw [List.length_map, ← List.length_map (f := (·.1)) (as := l), hl]
end
end Mine
end
section
namespace Mine
section
variable {c : Cfg} {n : Nat} {names : List (Str × NameKind)} {loc loc' loc₁ : Loc} {σ σ' σ₁ σ₂ σ₃ : St} {P : SO → Prop} {rest b r : List Stmt} {X ow ow' : Addr → Prop} {A : Around} {env : Env} {h h' h₀ : Heap} {s : Shared} {E : Value → Shared → Prop} {e : Addr → Prop}
/-- the rows b of a branch, then the rows r behind the if -/
noncomputable def ExS (c : Cfg) (n : Nat) (names : List (Str × NameKind)) (loc : Loc) (σ : St) (b r : List Stmt) (P : SO → Prop) : Prop :=
  CfgOk c → ∀ (X ow : Addr → Prop) (A : Around) (env : Env) (s : Shared) (Q : Flow → Shared → Prop) (E : Value → Shared → Prop), (∀ a, c.Mut a → X a) → Act c X ow A n env names loc σ s.heap →
    Post c n names X ow A env s.heap s P Q E → wpAny (model c.prog c.w) A (execs b env) (fun f s' => match f with | .next => wpAny (model c.prog c.w) A (execs r env) Q E s' | f => Q f s') E s
theorem exS_nil (hr : Ex c n names loc σ r P) : ExS c n names loc σ [] r P := fun K X ow A env s Q E hX W PR => wpAny_execs_nil (hr K X ow A env s Q E hX W PR)
theorem ex_ifS {test : PySem.Expr} {body orelse : List Stmt} {p : Pos} {t : Bool} (h₁ : TsTo c n names loc σ test t σ₁) (h₂ : t = true → ExS c n names loc σ₁ body r P) (h₃ : t = false → ExS c n names loc σ₁ orelse r P) :
    Ex c n names loc σ (.If test body orelse p :: r) P := fun K X ow A env s Q E hX W R =>
  wpAny_execs_cons (wpAny_If (h₁ K X ow A env s _ E hX W fun h' tk R' k => by
    have W' := W.kp k R' hX
    have T := R.from (tk := tk) (kpF k) (W'.liveF (fun a q => .inr q) (kpF k))
    cases t with
    | true => exact h₂ rfl K X ow A env _ _ E hX W' T
    | false => exact h₃ rfl K X ow A env _ _ E hX W' T))
/-- if test: raise -/
theorem exS_if {test : PySem.Expr} {body : List Stmt} {p : Pos} {t : Bool} (h₁ : TsTo c n names loc σ test t σ₁) (h₂ : t = true → Ex c n names loc σ₁ body (fun o => match o with | .exc w σ => P (.exc w σ) | _ => False)) (h₃ : t = false → ExS c n names loc σ₁ b r P) :
    ExS c n names loc σ (.If test body [] p :: b) r P := fun K X ow A env s Q E hX W R =>
  wpAny_execs_cons (wpAny_If (h₁ K X ow A env s _ E hX W fun h' tk R' k => by
    have W' := W.kp k R' hX
    have T := R.from (tk := tk) (kpF k) (W'.liveF (fun a q => .inr q) (kpF k))
    cases t with
    | true => exact h₂ rfl K X ow A env _ _ E hX W' ⟨fun _ _ _ _ p => p.elim, fun _ _ _ _ _ p => p.elim, fun w σ' e h' tk p => T.exc w σ' e h' tk p⟩
    | false => exact wpAny_execs_nil (h₃ rfl K X ow A env _ _ E hX W' T)))
/-- x = f(args), where f may raise -/
theorem exS_assign_call {x f : Str} {xp fp p q : Pos} {a : Addr} {args : List PySem.Expr} {ts : List T} {P₁ : Out → Prop} {e₀ : PySem.Expr} {er : List PySem.Expr} (hg : c.mg f = some (.ref a)) (hf : IsFn c a) (hk : names.lookup f = some .globalImplicit) (h₁ : EvsTo c n names loc σ args ts σ₁)
    (h₂ : CallP c n (.ref a) ts σ₁ P₁) (hx : Bnd names x) (hr : ∀ t σ', P₁ (.ret t σ') → ExS c n names ((x, t) :: loc) σ' b r P) (he : ∀ w σ', P₁ (.exc w σ') → P (.exc w σ'))
    (ha : args = e₀ :: er := by rfl) (hs : ∀ env, starEach (e₀ :: er) env = (false, eval e₀ env) :: starEach er env := by intro _; rfl) (hd : (f == ("__debug__" : Str)) = false := by decide)
    (hsw : ∀ env, swapsWith (.Call (.Name f fp) args [] p) (some (.Name x xp)) q.line env = pure false := by intro _; rfl) : ExS c n names loc σ (.Assign [.Name x xp] (.Call (.Name f fp) args [] p) q :: b) r P := fun K X ow A env s Q E hX W PR =>
  wpAny_execs_cons (wpAny_Assign_Name (call_node ha K hX W hg hf hk h₁ (fun vs h' tk R k r => by
    have W' := W.kp k R hX
    obtain ⟨l, hl, hfr⟩ := W'.frs
    refine h₂ K (Un X ow) A l _ vs _ E (unX hX) W.ok hl hfr R r (fun t σ' v h'' tk' p R' k' r' => ?_) (fun w σ' e h'' tk' p R' k' F nx => ?_)
    · refine store_var (E := E) (s := { s with heap := h'', toks := tk' }) hX (W.kp (k.trans k') R' hX) (VRep.of r') hx fun h3 tk3 W3 k3 _ => ?_
      have kf : Kp (MutF c env ow) s.heap h3 := (kpF (k.trans k')).trans (kpL k3)
      exact hr t σ' p K X ow A env _ Q E hX W3 (PR.from kf (W3.liveF (fun a q => .inr q) kf))
    · have old : ∀ b, h'.get? b = none → s.heap.get? b = none := fun b z => fresh_back W.rel R k z
      exact PR.exc w σ' e h'' tk' (he w σ' p) (R'.un hX) (kpF (k.trans k')) (fun l' e' => by rw [hl] at e'; cases e'; exact F) ⟨old _ nx.1, fun oe vs T e1 e2 e3 => old _ (nx.2 oe vs T e1 e2 e3)⟩) hd (hs env)) (hsw env))
/-- y = e, what comes of it the frame's own -/
theorem exS_grp {y : Str} {yp p : Pos} {ex : PySem.Expr} {t : T} {Good : T → Os → Ls → Prop} (sp : Splits c t Good) (h₁ : ∀ e, EvTo (c.at e) n names loc σ ex t σ₁) (hold : (loc.all fun p => oldT p.2) = true) (hy : Bnd names y) (hn : ∀ loc σ, P (.next loc σ) → P (.next [] σ))
    (hr : ∀ tg os ls, Good tg os ls → ExS c n names ((y, .ownG tg os ls) :: loc) σ₁ b r P) (hs : ∀ env, swapsWith ex (some (.Name y yp)) p.line env = pure false := by intro _; rfl) : ExS c n names loc σ (.Assign [.Name y yp] ex p :: b) r P := fun K X ow A env s Q E hX W PR => by
  let e : Addr → Prop := fun a => ∃ o, s.heap.get? a = some o
  refine wpAny_execs_cons (wpAny_Assign_Name (h₁ e K.at X ow A env s _ E hX (W.at hold fun a q => q) fun v h' tk R k r => ?_) (hs env))
  have hep : ∀ a, c.ep a → e a := W.rel.epl
  have lv : ∀ a, e a → ∃ o, h'.get? a = some o := fun a q => k.live (fun a z => R.mlive a z) a q
  have R' : RelH c (Un X ow) σ₁ h' := R.unat fun a q => lv a (hep a q)
  obtain ⟨tg, os, ls, O, good, hO, r'⟩ := sp e X ow h' v hep r
  have hO' : ∀ a, O a → s.heap.get? a = none ∧ ∃ o, h'.get? a = some o := fun a q => by
    refine ⟨?_, (hO a q).2⟩
    cases z : s.heap.get? a with
    | none => rfl
    | some o => exact absurd ⟨o, z⟩ (hO a q).1
  have W1 : Act c X (Un ow O) A n env names loc σ₁ h' := W.growO k R' hX hO'
  refine store_var (s := { s with heap := h', toks := tk }) hX W1 r' hy fun h2 tk2 W2 k2 _ => ?_
  have kf : Kp (MutF c env (Un ow O)) s.heap h2 := (kpF k).trans (kpL k2)
  refine hr tg os ls good K X _ A env _ Q E hX W2 (PR.own2 hX hn (fun a q => .inl q) (fun a q => q.imp id fun z => (hO' a z).1) kf fun a o e => ?_)
  obtain ⟨o', e'⟩ := lv a ⟨o, e⟩
  exact W2.liveF (fun a q => .inr q) (kpL k2) a o' e'
/-- e.f[i] = f(args), where f may raise -/
theorem ex_gsub_call (g : Str) {o i : PySem.Expr} {p p' cp fp : Pos} {f : Str} {fa : Addr} {args : List PySem.Expr} {ts : List T} {P₁ : Out → Prop} {e₀ : PySem.Expr} {er : List PySem.Expr} {m : Addr} {l : List Int} {k : Int} {t : T} {os : Os}
    (hg : c.mg f = some (.ref fa)) (hf : IsFn c fa) (hkf : names.lookup f = some .globalImplicit) (h₁ : EvsTo c n names loc σ args ts σ₁) (hc : CallP c n (.ref fa) ts σ₁ P₁) (hint : ∀ t σ', P₁ (.ret t σ') → ∃ b, t = .int b)
    (h₂ : ∀ σ', EvTo c n names loc σ' o (.ptr m) σ') (h₃ : ∀ σ', EvTo c n names loc σ' i (.int k) σ') (h0 : 0 ≤ k) (hkl : k < l.length) (hz : l.length < 2 ^ 62)
    (hl : loc.lookup g = some (.ownG t os [(m, l.map T.int)])) (hk : names.lookup g = some .local) (hs : Sub loc loc') (hno : ∀ p ∈ loc', isOwn p.2 = false) (hr : ∀ b σ', P₁ (.ret (.int b) σ') → Ex c n names ((g, .ownG t os [(m, (l.set k.toNat b).map T.int)]) :: loc') σ' rest P) (he : ∀ w σ', P₁ (.exc w σ') → P (.exc w σ'))
    (ha : args = e₀ :: er := by rfl) (hst : ∀ env, starEach (e₀ :: er) env = (false, eval e₀ env) :: starEach er env := by intro _; rfl) (hd : (f == ("__debug__" : Str)) = false := by decide)
    (hsw : ∀ env, swapsWith (.Call (.Name f fp) args [] cp) (some (.Subscript o i p')) p.line env = pure false := by intro _; rfl) :
    Ex c n names loc σ (.Assign [.Subscript o i p'] (.Call (.Name f fp) args [] cp) p :: rest) P := fun K X ow A env s Q E hX W PR => by
  refine wpAny_execs_cons (wpAny_Assign_Subscript (call_node ha K hX W hg hf hkf h₁ (fun vs h' tk R kk r => ?_) hd (hst env)) (hsw env))
  have W' := W.kp kk R hX
  obtain ⟨l', hl', hfr⟩ := W'.frs
  refine hc K (Un X ow) A l' _ vs _ E (unX hX) W.ok hl' hfr R r (fun t σ' y h1 tk1 p R' k' r1 => ?_) (fun w σ' e h'' tk' p R' k' F nx => ?_)
  · obtain ⟨b, rfl⟩ := hint _ _ p
    have W1 := W'.kp k' R' hX
    refine h₂ σ' K X ow A env _ _ E hX W1 fun ov h2 tk2 R2 k2 r2 => ?_
    have W2 := W1.kp k2 R2 hX
    simp only [Rep] at r2
    subst r2
    refine h₃ σ' K X ow A env _ _ E hX W2 fun iv h3 tk3 R3 k3 r3 => ?_
    have W3 := W2.kp k3 R3 hX
    simp only [Rep] at r3 r1
    obtain ⟨ti, rfl⟩ := r3
    obtain ⟨tb, rfl⟩ := r1
    obtain ⟨om, xm, pm, vs, kq, em, rl⟩ := (W3.grp hl hk).2 _ (List.mem_singleton.mpr rfl)
    have hlen := RepL.length _ _ rl
    rw [List.length_map] at hlen
    refine ki_setAt em h0 (by (first | lia | omega)) (by rw [List.size_toArray, hlen]; exact hkl) ?_
    have e3 := Heap.get?_update_self (Obj.mapSeq (·.setIfInBounds k.toNat (.int b tb))) em (by rw [mapSeq_set]; rfl)
    rw [mapSeq_set] at e3
    have kx : ∀ a o, a ≠ m → h3.get? a = some o → (h3.update m (Obj.mapSeq (·.setIfInBounds k.toNat (.int b tb)))).get? a = some o := fun a o hne e => (Heap.get?_update_other _ _ (Ne.symm hne)).trans e
    have kp3 : Kp (· = m) h3 (h3.update m (Obj.mapSeq (·.setIfInBounds k.toNat (.int b tb)))) := .of_keeps fun a o hm e => kx a o hm e
    have uD : ∀ a, a = m → Un X ow a := fun a q => by rw [q]; exact .inr om
    have W4 : Act c X ow A n env names ((g, .ownG t os [(m, (l.set k.toNat b).map T.int)]) :: loc') σ' _ := W3.chg hX kx om xm (fun o e => by rw [em] at e; cases e; exact list_cls) ⟨_, e3⟩ hk hl (by simp) (fun m' v' hn' hv' r' => by
      obtain ⟨q1, q2, q3⟩ := r'
      refine ⟨Rep.kp kp3 uD _ _ q1, fun o hoo => ?_, fun l' hll => ?_⟩
      · obtain ⟨hx, es, k', e1', e2', fo'⟩ := q2 _ hoo
        refine ⟨hx, es, k', kx _ _ (fun z => ?_) e1', kx _ _ (fun z => ?_) e2', fo'.kp kp3 uD⟩
        · rw [z, em] at e1'; exact inst_ne_list (Option.some.inj e1').symm
        · rw [z, em] at e2'; exact list_ne_dict (Option.some.inj e2')
      · obtain rfl := List.mem_singleton.mp hll
        refine ⟨om, xm, pm, vs.set k.toNat (.int b tb), kq, by rw [e3]; simp, ?_⟩
        show RepL _ _ _ ((l.set k.toNat b).map T.int) _
        rw [List.map_set]
        exact RepL.set _ _ _ _ _ (RepL.kp kp3 uD _ _ rl) (by simp only [Rep]; exact ⟨_, rfl⟩)) hs hno
    have kf : Kp (MutF c env ow) s.heap _ := (kpF (((kk.trans k').trans k2).trans k3)).trans (kp3.mono fun a q => .inr (.inr (.inr (by rw [q]; exact om))))
    exact hr b σ' p K X ow A env _ Q E hX W4 (PR.from kf (W4.liveF (fun a q => .inr q) kf))
  · have old : ∀ b, h'.get? b = none → s.heap.get? b = none := fun b z => fresh_back W.rel R kk z
    exact PR.exc w σ' e h'' tk' (he w σ' p) (R'.un hX) (kpF (kk.trans k')) (fun l' e' => by rw [hl'] at e'; cases e'; exact F) ⟨old _ nx.1, fun oe vs T e1 e2 e3 => old _ (nx.2 oe vs T e1 e2 e3)⟩
end
end Mine
end
section
namespace Mine
theorem updP {a d : Addr} {u x sp cnt c' : Int} {raw : List Int} {tm : T} : List.map (updE d "count" (.int c')) [(a, d, entP u raw x sp cnt tm)] = [(a, d, entP u raw x sp c' tm)] := by
  simp only [List.map_cons, List.map_nil, updE, if_true, entP, putF, if_neg (show ¬ ("user" : Str) = "count" by decide), if_neg (show ¬ ("raw" : Str) = "count" by decide), if_neg (show ¬ ("extent" : Str) = "count" by decide), if_neg (show ¬ ("spare" : Str) = "count" by decide)]
theorem entP_nodup {u x sp cnt : Int} {raw : List Int} {tm : T} : ((entP u raw x sp cnt tm).map (·.1)).Nodup := by
  show (["user", "raw", "extent", "spare", "count", "map"] : List Str).Nodup
  exact nodup_of (by decide)
noncomputable def wBase (ix ex r : Nat) (o pat : List Int) (u : Int) : Loc := [("index", .int (ix : Int)), ("extent", .int (ex : Int)), ("octets", .ints o), ("record", .int (r : Int)), ("raw", .ints pat), ("user", .int u), ("disk", .disk)]
noncomputable def wGrp (k : Nat) (a d m : Addr) (u x sp cnt : Int) (raw mp : List Int) : T := .ownG (.tup [.int (k : Int), .ptr a]) [(a, d, entP u raw x sp cnt (.ptr m))] [(m, mp.map T.int)]
/-- what write_at leaves where it comes to its end -/
noncomputable def wEnd (σ : St) (ix b k : Nat) (o : List Int) (u x sp cnt : Int) (raw mp : List Int) : St := (σ.put (32 * b + 16 * (ix % 2)) o).put (32 * k) (octs u raw x sp (if (ix : Int) + 1 > cnt then (ix : Int) + 1 else cnt) mp)
section
variable {c : Cfg} {n : Nat} {σ : St} {P : SO → Prop} (T0 : Top0 c) (RO : RaiseOk c)
include T0 RO
theorem w_fin {ix ex r k : Nat} {a d m : Addr} {o pat raw mp : List Int} {u0 u x sp cnt : Int} (hix : ix < 32) (hk4 : k < 4) (hD : σ.data.length = 256) (ho : o.length = 16) (hr : raw.length = 11) (hm : mp.length = 16)
    (hx : ¬ (0 ≤ mp.getD (ix / 2) 0 ∧ mp.getD (ix / 2) 0 < 8) → P (.exc "range" σ)) (hn : ∀ b : Nat, mp.getD (ix / 2) 0 = (b : Int) → b < 8 → ∀ loc, P (.next loc (wEnd σ ix b k o u x sp cnt raw mp))) :
    Ex c 18 (nm 50) (("slot", .int ((ix / 2 : Nat) : Int)) :: ("entry", .ptr a) :: ("number", .int (k : Int)) :: ("pair", wGrp k a d m u x sp cnt raw mp) :: wBase ix ex r o pat u0) σ ((bd 50).drop 8) P := by
  let c' : Int := if (ix : Int) + 1 > cnt then (ix : Int) + 1 else cnt
  have hi2 : ((ix : Nat) : Int).fmod 2 = ((ix % 2 : Nat) : Int) := by rw [Int.fmod_eq_emod_of_nonneg _ (by decide)]; (first | lia | omega)
  refine ex_step (st_gattr "pair" (a := a) (d := d) (fs := entP u raw x sp cnt (.ptr m)) (t := .tup [.int (k : Int), .ptr a]) (os := [(a, d, entP u raw x sp cnt (.ptr m))]) (ls := [(m, mp.map T.int)]) (loc' := ("slot", .int ((ix / 2 : Nat) : Int)) :: ("entry", .ptr a) :: ("number", .int (k : Int)) :: wBase ix ex r o pat u0) (tf := .int c') T0.set.2.2.2.2.1
    (ev_bi T0.max b_max (evs_cons (ev_gattr "pair" (d := d) (fs := entP u raw x sp cnt (.ptr m)) (t := .tup [.int (k : Int), .ptr a]) (os := [(a, d, entP u raw x sp cnt (.ptr m))]) (ls := [(m, mp.map T.int)]) T0.DA.count (ev_l (t := .ptr a)) (by simp) (by simp [entP])) (evs_cons (ev_add (a := (ix : Int)) ev_l ev_int) evs_nil)))
    (by simp) rfl rfl (by simp) rfl rfl (fun o ho => by obtain rfl := List.mem_singleton.mp ho; exact entP_nodup) (fun o ho => by obtain rfl := List.mem_singleton.mp ho; show 6 < 900; decide) ⟨.inl rfl, .inl rfl, .inl rfl, .inl rfl, .inl rfl, .inl rfl, .inl rfl, .inl rfl, .inl rfl, .inl rfl, trivial⟩ (hno_of rfl)) ?_
  rw [updP]
  have hit : ∀ (σ' : St) (p1 p2 p3 p4 : Pos), EvTo c 18 (nm 50) (("pair", wGrp k a d m u x sp c' raw mp) :: ("slot", .int ((ix / 2 : Nat) : Int)) :: ("entry", .ptr a) :: ("number", .int (k : Int)) :: wBase ix ex r o pat u0) σ'
      (.Subscript (.Attribute (.Name "entry" p1) "map" p2) (.Name "slot" p3) p4) (.int (mp.getD (ix / 2) 0)) σ' := fun σ' p1 p2 p3 p4 =>
    ev_gitem "pair" (m := m) (i := ((ix / 2 : Nat) : Int)) (l := mp) (t := .tup [.int (k : Int), .ptr a]) (os := [(a, d, entP u raw x sp c' (.ptr m))]) (ls := [(m, mp.map T.int)]) (ev_gattr "pair" (d := d) (fs := entP u raw x sp c' (.ptr m)) (t := .tup [.int (k : Int), .ptr a]) (os := [(a, d, entP u raw x sp c' (.ptr m))]) (ls := [(m, mp.map T.int)]) T0.DA.map (ev_l (t := .ptr a)) (by simp) (by simp [entP])) ev_l (by simp) (by (first | lia | omega)) (by (first | lia | omega)) (by (first | lia | omega))
  by_cases hb : 0 ≤ mp.getD (ix / 2) 0 ∧ mp.getD (ix / 2) 0 < 8
  · obtain ⟨b, hbe⟩ : ∃ b : Nat, mp.getD (ix / 2) 0 = (b : Int) := ⟨(mp.getD (ix / 2) 0).toNat, by (first | lia | omega)⟩
    have hb8 : b < 8 := by have := hb.2; rw [hbe] at this; (first | lia | omega)
    rw [hbe] at hit
    refine ex_step (st_expr (ev_fn T0 32 (c_32 T0 (b := b) (i := ix % 2) hb8 (by (first | lia | omega)) hD ho) (evs_cons ev_l (evs_cons (hit σ _ _ _ _) (evs_cons (by rw [← hi2]; exact ev_mod (a := (ix : Int)) ev_l (ev_fn T0 11 (c_11 T0) (evs_cons ev_l evs_nil)) (by decide)) (evs_cons ev_l evs_nil)))))) ?_
    refine ex_step (st_gcall "pair" (T0.fn 20 rfl).1 (T0.fn 20 rfl).2.isFn rfl (ts := [.disk, .int (k : Int), .ptr a]) (ts' := [.disk, .int (k : Int), .ent u raw x sp c' mp]) (evs_cons ev_l (evs_cons (ev_l (t := .int (k : Int))) (evs_cons (ev_l (t := .ptr a)) evs_nil)))
      ((c_20 T0 hk4 (by show (putAt _ _ _).length = 256; rw [putAt_len, hD]) hr hm).up (by decide)) (t := .tup [.int (k : Int), .ptr a]) (os := [(a, d, entP u raw x sp c' (.ptr m))]) (ls := [(m, mp.map T.int)]) rfl rfl (fun X ow h vs go gl r => ?_)) (ex_nil (hn b hbe hb8 _))
    have hh := ownE_p (go (a, d, entP u raw x sp c' (.ptr m)) (by simp)) (gl (m, mp.map T.int) (by simp))
    simp only [RepL] at r ⊢
    obtain ⟨v1, r1, rfl, q1, v2, r2, rfl, q2, v3, r3, rfl, q3, rfl⟩ := r
    simp only [Rep] at q1 q2 q3
    subst q3
    exact ⟨_, _, rfl, by simp only [Rep]; exact q1, _, _, rfl, by simp only [Rep]; exact q2, _, _, rfl, hh, rfl⟩
  · exact ex_expr_call (T0.fn 32 rfl).1 (T0.fn 32 rfl).2.isFn rfl (evs_cons ev_l (evs_cons (hit σ _ _ _ _) (evs_cons (ev_mod (a := (ix : Int)) ev_l (ev_fn T0 11 (c_11 T0) (evs_cons ev_l evs_nil)) (by decide)) (evs_cons ev_l evs_nil)))) ((c_32x T0 RO hb).up (by decide)) (fun t σ' e => nomatch e) (fun w σ' e => by cases e; exact hx hb)
/-- number, entry = pair, and what follows -/
theorem w_tail {ix ex r k : Nat} {a d m : Addr} {o pat raw mp : List Int} {u0 u x sp cnt : Int} (hu0 : u0 ≠ 229) (hpat : pat.length ≤ 100) (hix : ix < 32) (hk4 : k < 4) (hD : σ.data.length = 256) (ho : o.length = 16) (hr : raw.length = 11) (hm : mp.length = 16)
    (hfull : mp.getD (ix / 2) 0 = 0 → P (.exc "full" σ)) (hrange : mp.getD (ix / 2) 0 ≠ 0 → P (.exc "range" σ))
    (hn : ∀ b : Nat, 1 ≤ b → b < 8 → (mp.getD (ix / 2) 0 = 0 ∧ 4 ≤ b ∨ mp.getD (ix / 2) 0 = (b : Int)) → ∀ loc, P (.next loc (wEnd σ ix b k o u x sp cnt raw (mp.set (ix / 2) (b : Int))))) :
    Ex c 18 (nm 50) (("pair", wGrp k a d m u x sp cnt raw mp) :: wBase ix ex r o pat u0) σ ((bd 50).drop 5) P := by
  have hi : ((ix : Nat) : Int).fdiv 2 = ((ix / 2 : Nat) : Int) := by rw [Int.fdiv_eq_ediv_of_nonneg _ (by decide)]; (first | lia | omega)
  have hil : ix / 2 < mp.length := by (first | lia | omega)
  refine ex_step (st_unpack (t := .int (k : Int)) (u := .ptr a) (ev_own (t := .tup [.int (k : Int), .ptr a])) (.inl rfl) (.inl rfl) (hw := fun env h1 h2 => by
        obtain ⟨⟨k, ns, g, co, mo⟩, a1, a2, a3, a4, a5, a6, a7, a8⟩ := env
        have h1 : k = .function := h1
        have h2 : ns = nm 50 := h2
        subst h1 h2; rfl)) ?_
  refine ex_step (st_assign (t := .int ((ix / 2 : Nat) : Int)) (by rw [← hi]; exact ev_fdiv (a := (ix : Int)) ev_l (ev_fn T0 11 (c_11 T0) (evs_cons ev_l evs_nil)) (by decide) (by decide)) (.inl rfl)) ?_
  let os : Os := [(a, d, entP u raw x sp cnt (.ptr m))]
  let L : Loc := ("slot", .int ((ix / 2 : Nat) : Int)) :: ("entry", .ptr a) :: ("number", .int (k : Int)) :: ("pair", wGrp k a d m u x sp cnt raw mp) :: wBase ix ex r o pat u0
  have hmap : ∀ (σ' : St) (p1 p2 : Pos), EvTo c 18 (nm 50) L σ' (.Attribute (.Name "entry" p1) "map" p2) (.ptr m) σ' := fun σ' p1 p2 =>
    ev_gattr "pair" (d := d) (fs := entP u raw x sp cnt (.ptr m)) (t := .tup [.int (k : Int), .ptr a]) (os := os) (ls := [(m, mp.map T.int)]) T0.DA.map (ev_l (t := .ptr a)) (by simp [os]) (by simp [entP])
  refine ex_if (b := mp.getD (ix / 2) 0 == 0) (ts_cmp (ev_gitem "pair" (m := m) (i := ((ix / 2 : Nat) : Int)) (l := mp) (t := .tup [.int (k : Int), .ptr a]) (os := os) (ls := [(m, mp.map T.int)]) (hmap σ _ _) ev_l (by simp) (by (first | lia | omega)) (by (first | lia | omega)) (by (first | lia | omega))) ev_int cmp_eq) (fun hb => ?_) (fun hb => ?_)
  · have hb0 : mp.getD (ix / 2) 0 = 0 := by simpa only [beq_iff_eq] using hb
    obtain ⟨near, hnear⟩ := c_48 T0 (σ := σ) hu0 hpat hD
    refine ex_gsub_call "pair" (m := m) (l := mp) (k := ((ix / 2 : Nat) : Int)) (t := .tup [.int (k : Int), .ptr a]) (os := os) (loc' := ("slot", .int ((ix / 2 : Nat) : Int)) :: ("entry", .ptr a) :: ("number", .int (k : Int)) :: wBase ix ex r o pat u0) (T0.fn 29 rfl).1 (T0.fn 29 rfl).2.isFn rfl
      (evs_cons ev_l (evs_cons (ev_fn T0 48 hnear (evs_cons ev_l (evs_cons ev_l (evs_cons ev_l evs_nil)))) evs_nil)) ((c_29 T0 RO hD).up (by decide)) (fun t σ' p => ?_) (fun σ' => hmap σ' _ _) (fun σ' => ev_l) (by (first | lia | omega)) (by (first | lia | omega)) (by (first | lia | omega)) rfl rfl
      ⟨.inl rfl, .inl rfl, .inl rfl, .inl rfl, .inl rfl, .inl rfl, .inl rfl, .inl rfl, .inl rfl, .inl rfl, trivial⟩ (hno_of rfl) (fun b σ' p => ?_) (fun w σ' p => ?_)
    · rcases p with p | ⟨b, _, _, p⟩
      · cases p
      · cases p; exact ⟨_, rfl⟩
    · rcases p with p | ⟨b', h4, h8, p⟩
      · cases p
      · cases p
        refine ex_nil (ex_sub (loc' := ("slot", .int ((ix / 2 : Nat) : Int)) :: ("entry", .ptr a) :: ("number", .int (k : Int)) :: ("pair", wGrp k a d m u x sp cnt raw (mp.set (ix / 2) (b' : Int))) :: wBase ix ex r o pat u0) ⟨.inl rfl, .inl rfl, .inl rfl, .inl rfl, .inl rfl, .inl rfl, .inl rfl, .inl rfl, .inl rfl, .inl rfl, .inl rfl, trivial⟩
          (w_fin T0 RO hix hk4 hD ho hr (by rw [List.length_set]; exact hm) (fun hx => ?_) (fun b hbe hb8 loc => ?_)))
        · exfalso
          rw [List.getD_eq_getElem?_getD, List.getElem?_set_self hil] at hx
          simp at hx
          (first | lia | omega)
        · rw [List.getD_eq_getElem?_getD, List.getElem?_set_self hil] at hbe
          have hbb : b = b' := by simp at hbe; (first | lia | omega)
          subst hbb
          exact hn b (by (first | lia | omega)) hb8 (.inl ⟨hb0, h4⟩) loc
    · rcases p with p | ⟨b', h4, h8, p⟩
      · cases p; exact hfull hb0
      · cases p
  · have hb0 : mp.getD (ix / 2) 0 ≠ 0 := by simpa only [beq_eq_false_iff_ne, ne_eq] using hb
    refine ex_nil (w_fin T0 RO hix hk4 hD ho hr hm (fun _ => hrange hb0) (fun b hbe hb8 loc => ?_))
    have : mp.set (ix / 2) (b : Int) = mp := by
      rw [← hbe, List.getD_eq_getElem?_getD, List.getElem?_eq_getElem hil]
      simp
    have hq := hn b (by (first | lia | omega)) hb8 (.inr hbe) loc
    rw [this] at hq
    exact hq
end
end Mine
end
section
namespace Mine
theorem getD_set_int {d : List Int} {k i : Nat} {x : Int} (hk : k < d.length) : (d.set k x).getD i 0 = if i = k then x else d.getD i 0 := by
  rw [List.getD_eq_getElem?_getD, List.getElem?_set, List.getD_eq_getElem?_getD]
  by_cases h : k = i
  · subst h; rw [if_pos rfl, if_pos hk, if_pos rfl]; rfl
  · rw [if_neg h, if_neg (Ne.symm h)]
theorem putAt_getD : ∀ (o d : List Int) (p i : Nat), p + o.length ≤ d.length → (putAt d p o).getD i 0 = if p ≤ i ∧ i < p + o.length then o.getD (i - p) 0 else d.getD i 0
  | [], d, p, i, _ => by
    rw [putAt, if_neg (by simp only [List.length_nil]; (first | lia | omega))]
  | x :: o, d, p, i, h => by
    rw [List.length_cons] at h
    rw [putAt, putAt_getD o (d.set p x) (p + 1) i (by rw [List.length_set]; (first | lia | omega)), getD_set_int (by (first | lia | omega)), List.length_cons]
    by_cases h1 : i = p
    · subst h1
      rw [if_neg (by (first | lia | omega)), if_pos rfl, if_pos (by (first | lia | omega)), Nat.sub_self]
      rfl
    · rw [if_neg h1]
      by_cases h2 : p + 1 ≤ i ∧ i < p + 1 + o.length
      · rw [if_pos h2, if_pos (by (first | lia | omega))]
        have : i - p = (i - (p + 1)) + 1 := by (first | lia | omega)
        rw [this]
        simp
      · rw [if_neg h2, if_neg (by (first | lia | omega))]
theorem row_getD {d : List Int} {k j : Nat} : (row d k).getD j 0 = if j < 32 then d.getD (32 * k + j) 0 else 0 := by
  unfold row
  rw [List.getD_eq_getElem?_getD, List.getElem?_take, List.getElem?_drop, List.getD_eq_getElem?_getD]
  split
  · rfl
  · rfl
theorem getD_ext {a b : List Int} {m : Nat} (ha : a.length = m) (hb : b.length = m) (h : ∀ j, j < m → a.getD j 0 = b.getD j 0) : a = b := by
  refine List.ext_getElem (ha.trans hb.symm) fun i h1 h2 => ?_
  have := h i (by (first | lia | omega))
  rw [List.getD_eq_getElem?_getD, List.getD_eq_getElem?_getD, List.getElem?_eq_getElem h1, List.getElem?_eq_getElem h2] at this
  simpa using this
theorem row_eq {d d' : List Int} (hd : d.length = 256) (hd' : d'.length = 256) {k : Nat} (hk : k < 4) (h : ∀ j, j < 32 → d'.getD (32 * k + j) 0 = d.getD (32 * k + j) 0) : row d' k = row d k :=
  getD_ext (row_len hd' hk) (row_len hd hk) fun j hj => by rw [row_getD, row_getD, if_pos hj, if_pos hj, h j hj]
/-- a row put -/
theorem row_put {d o : List Int} {k n : Nat} (hd : d.length = 256) (hk : k < 4) (hn : n < 4) (ho : o.length = 32) : row (putAt d (32 * n) o) k = if k = n then o else row d k := by
  have hl : (putAt d (32 * n) o).length = 256 := by rw [putAt_len, hd]
  by_cases h : k = n
  · subst h
    rw [if_pos rfl]
    refine getD_ext (row_len hl hk) ho fun j hj => ?_
    rw [row_getD, if_pos hj, putAt_getD _ _ _ _ (by (first | lia | omega)), if_pos (by (first | lia | omega))]
    congr 1; (first | lia | omega)
  · rw [if_neg h]
    refine row_eq hd hl hk fun j hj => ?_
    rw [putAt_getD _ _ _ _ (by (first | lia | omega)), if_neg (by (first | lia | omega))]
/-- octets put behind the directory -/
theorem row_put_hi {d o : List Int} {k p : Nat} (hd : d.length = 256) (hk : k < 4) (hp : 128 ≤ p) (ho : p + o.length ≤ 256) : row (putAt d p o) k = row d k := by
  have hl : (putAt d p o).length = 256 := by rw [putAt_len, hd]
  refine row_eq hd hl hk fun j hj => ?_
  rw [putAt_getD _ _ _ _ (by (first | lia | omega)), if_neg (by (first | lia | omega))]
theorem octs_len {u x sp k : Int} {raw mp : List Int} (hr : raw.length = 11) (hm : mp.length = 16) : (octs u raw x sp k mp).length = 32 := by simp [octs, hr, hm]
theorem octs_0 {u x sp k : Int} {raw mp : List Int} : (octs u raw x sp k mp).getD 0 0 = u := rfl
theorem octs_raw {u x sp k : Int} {raw mp : List Int} (hr : raw.length = 11) (hm : mp.length = 16) : cut (octs u raw x sp k mp) (some 1) (some 12) = raw := by
  unfold cut
  rw [octs_len hr hm]
  show ((octs u raw x sp k mp).drop 1).take 11 = raw
  unfold octs
  rw [List.append_assoc, List.append_assoc]
  show (raw ++ _).take 11 = raw
  rw [List.take_append_of_le_length (by (first | lia | omega)), List.take_of_length_le (by (first | lia | omega))]
theorem octs_tail {u x sp k : Int} {raw mp : List Int} (hr : raw.length = 11) (j : Nat) : (octs u raw x sp k mp).getD (12 + j) 0 = ([x.fmod 32, sp, x.fdiv 32, k] ++ mp).getD j 0 := by
  unfold octs
  rw [List.append_assoc, List.getD_eq_getElem?_getD, List.getElem?_append_right (by simp; (first | lia | omega)), List.getD_eq_getElem?_getD]
  congr 2
  simp; (first | lia | omega)
theorem octs_12 {u x sp k : Int} {raw mp : List Int} (hr : raw.length = 11) : (octs u raw x sp k mp).getD 12 0 = x.fmod 32 := octs_tail hr 0
theorem octs_14 {u x sp k : Int} {raw mp : List Int} (hr : raw.length = 11) : (octs u raw x sp k mp).getD 14 0 = x.fdiv 32 := octs_tail hr 2
theorem octs_15 {u x sp k : Int} {raw mp : List Int} (hr : raw.length = 11) : (octs u raw x sp k mp).getD 15 0 = k := octs_tail hr 3
theorem octs_map {u x sp k : Int} {raw mp : List Int} (hr : raw.length = 11) (hm : mp.length = 16) : cut (octs u raw x sp k mp) (some 16) (some 32) = mp := by
  unfold cut
  rw [octs_len hr hm]
  show ((octs u raw x sp k mp).drop 16).take 16 = mp
  refine getD_ext (m := 16) (by simp [octs_len hr hm]) hm fun j hj => ?_
  rw [List.getD_eq_getElem?_getD, List.getElem?_take_of_lt hj, List.getElem?_drop]
  have := octs_tail (u := u) (x := x) (sp := sp) (k := k) (mp := mp) hr (4 + j)
  rw [List.getD_eq_getElem?_getD] at this
  rw [show 16 + j = 12 + (4 + j) by (first | lia | omega), this, List.getD_eq_getElem?_getD, List.getElem?_append_right (by simp), List.getD_eq_getElem?_getD]
  congr 2
  simp
theorem entX_octs {u x sp k : Int} {raw mp : List Int} (hr : raw.length = 11) : entX (octs u raw x sp k mp) = x := by
  unfold entX
  rw [octs_12 hr, octs_14 hr, Int.fmod_eq_emod_of_nonneg _ (by decide), Int.fdiv_eq_ediv_of_nonneg _ (by decide)]
  rw [Int.fmod_eq_emod_of_nonneg _ (by decide)]
  (first | lia | omega)
theorem freeE_some {d : List Int} {k : Nat} (h : freeE d = some k) : k < 4 ∧ d.getD (32 * k) 0 = 229 ∧ ∀ j, j < k → d.getD (32 * j) 0 ≠ 229 := by
  unfold freeE at h
  refine ⟨by simpa using List.mem_of_find?_eq_some h, by simpa using List.find?_some h, fun j hj hc => ?_⟩
  have h4 : k < 4 := by simpa using List.mem_of_find?_eq_some h
  rw [List.find?_eq_some_iff_append] at h
  obtain ⟨_, as, bs, e, hh⟩ := h
  have hl : as.length = k := by
    have := congrArg (fun l => l[as.length]?) e
    simp only [List.getElem?_append_right (Nat.le_refl _), Nat.sub_self, List.getElem?_cons_zero] at this
    rw [List.getElem?_range] at this
    · simpa using this
    · have := congrArg List.length e
      simp at this; (first | lia | omega)
  have : as[j]? = some j := by
    have := congrArg (fun l => l[j]?) e
    simp only [List.getElem?_append_left (show j < as.length by (first | lia | omega))] at this
    rw [List.getElem?_range (by (first | lia | omega))] at this
    exact this.symm
  have hm : j ∈ as := List.mem_of_getElem? this
  have := hh j hm
  simp at this
  exact this (by rw [List.getD_eq_getElem?_getD] at hc; exact hc)
theorem findK_mem {d : List Int} {u : Int} {pat : List Int} {k : Nat} : k ∈ findK d u pat 4 ↔ k < 4 ∧ (row d k).getD 0 0 = u ∧ matchB pat (rawK d k) = true := by
  unfold findK rawK
  rw [List.mem_filter, List.mem_range, Bool.and_eq_true, beq_iff_eq]
theorem rawK_of {d d' : List Int} {k : Nat} (h : row d' k = row d k) : rawK d' k = rawK d k := by unfold rawK; rw [h]
end Mine
end
section
namespace Mine
noncomputable def zeros : List Int := List.replicate 16 0
/-- what comes of the entry that is written through -/
noncomputable def WTail (σ : St) (ix k : Nat) (o : List Int) (u x sp cnt : Int) (raw mp : List Int) (out : Out) : Prop :=
  (mp.getD (ix / 2) 0 = 0 ∧ out = .exc "full" σ) ∨ (mp.getD (ix / 2) 0 ≠ 0 ∧ out = .exc "range" σ) ∨
    ∃ b : Nat, 1 ≤ b ∧ b < 8 ∧ (mp.getD (ix / 2) 0 = 0 ∧ 4 ≤ b ∨ mp.getD (ix / 2) 0 = (b : Int)) ∧ out = .ret .none (wEnd σ ix b k o u x sp cnt raw (mp.set (ix / 2) (b : Int)))
/-- what write_at does -/
inductive WOut (σ : St) (u : Int) (pat : List Int) (r : Nat) (o : List Int) (out : Out) : Prop
  | none (h1 : extK σ.data u pat ((r / 32 : Nat) : Int) = none) (h2 : findK σ.data u pat 4 = []) (h : out = .exc "no file" σ)
  | dir (h1 : extK σ.data u pat ((r / 32 : Nat) : Int) = none) (h2 : findK σ.data u pat 4 ≠ []) (h3 : freeE σ.data = none) (h : out = .exc "directory full" σ)
  | new (k0 k1 n : Nat) (σ1 : St) (h1 : extK σ.data u pat ((r / 32 : Nat) : Int) = none) (h2 : k0 ∈ findK σ.data u pat 4) (h3 : freeE σ.data = some n) (h4 : σ1 = σ.put (32 * n) (octs u (rawK σ.data k0) ((r / 32 : Nat) : Int) 0 0 zeros)) (h5 : k1 ∈ findK σ1.data u pat 4)
      (h : WTail σ1 (r % 32) n o u ((r / 32 : Nat) : Int) 0 0 (rawK σ1.data k1) zeros out)
  | old (k : Nat) (h1 : extK σ.data u pat ((r / 32 : Nat) : Int) = some k) (h2 : k < 4) (h : WTail σ (r % 32) k o ((row σ.data k).getD 0 0) (entX (row σ.data k)) ((row σ.data k).getD 13 0) ((row σ.data k).getD 15 0) (rawK σ.data k) (mapK σ.data k) out)
section
variable {c : Cfg} {n : Nat} {σ : St} (T0 : Top0 c) (RO : RaiseOk c)
include T0 RO
theorem c_50 {u : Int} {pat o : List Int} {r : Nat} (hu : u ≠ 229) (hp : pat.length ≤ 100) (ho : o.length = 16) (hD : σ.data.length = 256) (hno : ∀ k ∈ findK σ.data u pat 4, (cut (row σ.data k) (some 1) (some 12)).getD 8 0 < 128) :
    CallP c 19 (.ref (fa c 50)) [.disk, .int u, .ints pat, .int (r : Int), .ints o] σ (WOut σ u pat r o) := by
  let L : Loc := [("index", .int ((r % 32 : Nat) : Int)), ("extent", .int ((r / 32 : Nat) : Int)), ("octets", .ints o), ("record", .int (r : Int)), ("raw", .ints pat), ("user", .int u), ("disk", .disk)]
  refine fn_call T0 50 (ex_step (st_expr (ev_fn T0 14 (c_14 T0) (evs_cons ev_l evs_nil)))
    (ex_step (st_expr (ev_fn T0 43 (c_43 T0 (ks := findK σ.data u pat 4) (Nat.le_trans findK_len (by decide)) hD (fun k hk => findK_lt hk) hno) (evs_cons (ev_fn T0 39 (c_39 T0 hu hp hD) (evs_cons ev_l (evs_cons ev_l (evs_cons ev_l evs_nil)))) evs_nil)))
    (ex_step (st_unpack (t := .int ((r / 32 : Nat) : Int)) (u := .int ((r % 32 : Nat) : Int)) (ev_fn T0 47 (c_47 T0) (evs_cons ev_l (evs_cons ev_l evs_nil))) (.inl rfl) (.inl rfl) (hw := fun env h1 h2 => by
        obtain ⟨⟨k, ns, g, co, mo⟩, a1, a2, a3, a4, a5, a6, a7, a8⟩ := env
        have h1 : k = .function := h1
        have h2 : ns = nm 50 := h2
        subst h1 h2; rfl)) ?_))) (hk := bnd_of rfl)
  cases hx : extK σ.data u pat ((r / 32 : Nat) : Int) with
  | some k =>
    have hk4 : k < 4 := by
      unfold extK at hx; exact findK_lt (List.mem_of_find?_eq_some hx)
    have hraw := rawK_len hD hk4
    have hmap := mapK_len hD hk4
    have hE : pairO σ.data (extK σ.data u pat ((r / 32 : Nat) : Int)) = .tup [.int (k : Int), .ent ((row σ.data k).getD 0 0) (rawK σ.data k) (entX (row σ.data k)) ((row σ.data k).getD 13 0) ((row σ.data k).getD 15 0) (mapK σ.data k)] := by rw [hx]; rfl
    refine ex_grp (splits_pair (k := (k : Int)) (u := (row σ.data k).getD 0 0) (raw := rawK σ.data k) (x := entX (row σ.data k)) (sp := (row σ.data k).getD 13 0) (kk := (row σ.data k).getD 15 0) (mp := mapK σ.data k) (by rw [hraw, hmap]; decide))
      (fun e => by rw [← hE]; exact ev_fn (T0.at (e := e)) 40 (c_40 T0.at hu hp hD) (evs_cons ev_l (evs_cons ev_l (evs_cons ev_l (evs_cons ev_l evs_nil))))) rfl (.inl rfl) (fun _ _ h => h) fun tg os ls good => ?_
    obtain ⟨a, d, m, rfl, rfl, rfl⟩ := good
    have key : Ex c 18 (nm 50) (("pair", wGrp k a d m ((row σ.data k).getD 0 0) (entX (row σ.data k)) ((row σ.data k).getD 13 0) ((row σ.data k).getD 15 0) (rawK σ.data k) (mapK σ.data k)) :: wBase (r % 32) (r / 32) r o pat u) σ ((bd 50).drop 5) (soP (WOut σ u pat r o)) :=
      w_tail T0 RO hu hp (by (first | lia | omega)) hk4 hD ho hraw hmap (fun h0 => .old k hx hk4 (.inl ⟨h0, rfl⟩)) (fun h0 => .old k hx hk4 (.inr (.inl ⟨h0, rfl⟩))) (fun b h1 h8 hb loc => .old k hx hk4 (.inr (.inr ⟨b, h1, h8, hb, rfl⟩)))
    refine ex_ifS (t := false) (ts_cmp (ev_own (t := .tup [.int (k : Int), .ptr a])) ev_none (cmp_is_none tup_not_none)) (fun h => absurd h (by decide)) (fun _ => exS_nil ?_)
    exact ex_sub (loc' := ("pair", wGrp k a d m ((row σ.data k).getD 0 0) (entX (row σ.data k)) ((row σ.data k).getD 13 0) ((row σ.data k).getD 15 0) (rawK σ.data k) (mapK σ.data k)) :: wBase (r % 32) (r / 32) r o pat u) ⟨.inl rfl, .inl rfl, .inl rfl, .inl rfl, .inl rfl, .inl rfl, .inl rfl, .inl rfl, trivial⟩ key
  | none =>
    have hE : pairO σ.data (extK σ.data u pat ((r / 32 : Nat) : Int)) = .none := by rw [hx]; rfl
    refine ex_step (st_assign (t := .none) (by rw [← hE]; exact ev_fn T0 40 (c_40 T0 hu hp hD) (evs_cons ev_l (evs_cons ev_l (evs_cons ev_l (evs_cons ev_l evs_nil))))) (.inl rfl)) ?_
    refine ex_ifS (t := true) (ts_cmp (ev_l (t := .none)) ev_none (cmp_is_none none_is)) (fun _ => ?_) (fun h => absurd h (by decide))
    refine exS_if (ts_not (ts_val (ev_fn T0 41 (c_41 T0 hu hp hD) (evs_cons ev_l (evs_cons ev_l (evs_cons ev_l evs_nil)))))) (fun hf => RO 10 _ _ _ _ _ _ _ _ _ _ _ rfl (.none hx (by simpa using hf) rfl)) (fun hf => ?_)
    have hne : findK σ.data u pat 4 ≠ [] := fun z => by rw [z] at hf; simp at hf
    obtain ⟨k0, ks, hks⟩ : ∃ k0 ks, findK σ.data u pat 4 = k0 :: ks := by
      cases h : findK σ.data u pat 4 with
      | nil => exact absurd h hne
      | cons k0 ks => exact ⟨k0, ks, rfl⟩
    have hk0 : k0 ∈ findK σ.data u pat 4 := by rw [hks]; simp
    have hk04 := findK_lt hk0
    refine exS_assign_call (T0.fn 42 rfl).1 (T0.fn 42 rfl).2.isFn rfl (ts := [.disk, .int u, .ints (rawK σ.data k0), .int ((r / 32 : Nat) : Int)]) (evs_cons ev_l (evs_cons ev_l (evs_cons (ev_raw T0.DA (u := (row σ.data k0).getD 0 0) (x := entX (row σ.data k0)) (sp := (row σ.data k0).getD 13 0) (kk := (row σ.data k0).getD 15 0) (mp := mapK σ.data k0)
        (ev_titem (j := 1) (ts := [.int (k0 : Int), entT (row σ.data k0)]) (ev_litem (i := 0) (ts := (findK σ.data u pat 4).map (pairT σ.data)) (t := pairT σ.data k0) (ev_fn T0 39 (c_39 T0 hu hp hD) (evs_cons ev_l (evs_cons ev_l (evs_cons ev_l evs_nil)))) ev_int (by decide) (by rw [hks]; rfl) (by rw [List.length_map]; exact Nat.lt_of_le_of_lt findK_len (by decide))) ev_int rfl (by show 2 < _; decide))) (evs_cons ev_l evs_nil)))) ((c_42 T0 RO (rawK_len hD hk04) hD).up (by decide)) (.inl rfl) (fun t σ1 p => ?_) (fun w σ1 p => ?_)
    · rcases p with ⟨_, p⟩ | ⟨nn, hfr, hn4, p⟩
      · cases p
      · cases p
        let σ1 : St := σ.put (32 * nn) (octs u (rawK σ.data k0) ((r / 32 : Nat) : Int) 0 0 (List.replicate 16 0))
        have hD1 : σ1.data.length = 256 := by show (putAt _ _ _).length = 256; rw [putAt_len, hD]
        have hfree := freeE_some hfr
        have hk0m := findK_mem.mp hk0
        have hne0 : k0 ≠ nn := fun z => by
          have h1 := hk0m.2.1
          rw [row_getD, if_pos (by decide), z] at h1
          exact hu (by rw [← h1]; simpa using hfree.2.1)
        have hrow : row σ1.data k0 = row σ.data k0 := by
          show row (putAt _ _ _) k0 = _
          rw [row_put hD hk04 hn4 (octs_len (rawK_len hD hk04) (by simp)), if_neg hne0]
        have hk01 : k0 ∈ findK σ1.data u pat 4 := findK_mem.mpr ⟨hk04, by rw [hrow]; exact hk0m.2.1, by rw [rawK_of hrow]; exact hk0m.2.2⟩
        obtain ⟨k1, ks1, hks1⟩ : ∃ k1 ks, findK σ1.data u pat 4 = k1 :: ks := by
          cases h : findK σ1.data u pat 4 with
          | nil => rw [h] at hk01; cases hk01
          | cons k1 ks => exact ⟨k1, ks, rfl⟩
        have hk1 : k1 ∈ findK σ1.data u pat 4 := by rw [hks1]; simp
        have hk14 := findK_lt hk1
        have hraw1 := rawK_len hD1 hk14
        refine exS_grp (σ₁ := σ1) (splits_pair (k := (nn : Int)) (u := u) (raw := rawK σ1.data k1) (x := ((r / 32 : Nat) : Int)) (sp := 0) (kk := 0) (mp := List.replicate 16 0) (by rw [hraw1]; simp))
          (fun e => ev_tup (evs_cons (ev_l (t := .int (nn : Int))) (evs_cons (ev_fn (T0.at (e := e)) 15 (c_15 T0.at (raw := rawK σ1.data k1) (by (first | lia | omega))) (evs_cons ev_l (evs_cons ev_l (evs_cons (ev_raw T0.at.DA (u := (row σ1.data k1).getD 0 0) (x := entX (row σ1.data k1)) (sp := (row σ1.data k1).getD 13 0) (kk := (row σ1.data k1).getD 15 0) (mp := mapK σ1.data k1)
            (ev_titem (j := 1) (ts := [.int (k1 : Int), entT (row σ1.data k1)]) (ev_litem (i := 0) (ts := (findK σ1.data u pat 4).map (pairT σ1.data)) (t := pairT σ1.data k1) (ev_fn T0.at 39 (c_39 T0.at hu hp hD1) (evs_cons ev_l (evs_cons ev_l (evs_cons ev_l evs_nil)))) ev_int (by decide) (by rw [hks1]; rfl) (by rw [List.length_map]; exact Nat.lt_of_le_of_lt findK_len (by decide))) ev_int rfl (by show 2 < _; decide))) (evs_cons ev_l evs_nil))))) evs_nil)) (by show 2 ≤ _; decide)) rfl (.inl rfl) (fun _ _ h => h) fun tg os ls good => ?_
        obtain ⟨a, d, m, rfl, rfl, rfl⟩ := good
        have key : Ex c 18 (nm 50) (("pair", wGrp nn a d m u ((r / 32 : Nat) : Int) 0 0 (rawK σ1.data k1) zeros) :: wBase (r % 32) (r / 32) r o pat u) σ1 ((bd 50).drop 5) (soP (WOut σ u pat r o)) :=
          w_tail T0 RO hu hp (by (first | lia | omega)) hn4 hD1 ho hraw1 (by simp [zeros]) (fun h0 => .new k0 k1 nn σ1 hx hk0 hfr rfl hk1 (.inl ⟨h0, rfl⟩)) (fun h0 => .new k0 k1 nn σ1 hx hk0 hfr rfl hk1 (.inr (.inl ⟨h0, rfl⟩))) (fun b h1 h8 hb loc => .new k0 k1 nn σ1 hx hk0 hfr rfl hk1 (.inr (.inr ⟨b, h1, h8, hb, rfl⟩)))
        refine exS_nil (ex_sub (loc' := ("pair", wGrp nn a d m u ((r / 32 : Nat) : Int) 0 0 (rawK σ1.data k1) zeros) :: wBase (r % 32) (r / 32) r o pat u) ⟨.inl rfl, .inl rfl, .inl rfl, .inl rfl, .inl rfl, .inl rfl, .inl rfl, .inl rfl, trivial⟩ key)
    · rcases p with ⟨hfr, p⟩ | ⟨nn, hfr, hn4, p⟩
      · cases p; exact .dir hx hne hfr rfl
      · cases p
end
end Mine
end
section
namespace Mine
noncomputable def wid (form : Int) : Nat := if form = 1 then 1 else if form > 1 then 13 else 0
noncomputable def accL (form : Int) (ks : List Nat) : List Int := ks.flatMap fun k : Nat => rng (32 * (k : Int)) (wid form)
noncomputable def letL (d : List Int) (form : Int) (ks : List Nat) (ex : Int) : List Int :=
  match (if form = 0 then ks.find? (fun k => entX (row d k) == ex) else none) with
  | some k => rng (32 * (k : Int)) 32
  | none => if form = 0 ∧ ks ≠ [] then (match freeE d with | some n => rng (32 * (n : Int)) 32 | none => accL form ks) else accL form ks
theorem wid_le {form : Int} : wid form ≤ 13 := by unfold wid; split; · decide
                                                  split <;> decide
theorem accL_len {form : Int} : ∀ ks : List Nat, (accL form ks).length ≤ 13 * ks.length
  | [] => by simp [accL]
  | k :: ks => by
    have := accL_len (form := form) ks
    have h2 := wid_le (form := form)
    unfold accL at this ⊢
    rw [List.flatMap_cons, List.length_append, rng_len, List.length_cons]
    (first | lia | omega)
noncomputable def nats (ks : List Nat) : List Int := ks.map fun k : Nat => (k : Int)
section
variable {c : Cfg} {n : Nat} {σ : St} (T0 : Top0 c)
include T0
/-- _law_let -/
theorem c_56 {form : Int} {ks : List Nat} {r : Nat} (hf : 0 ≤ form) (hD : σ.data.length = 256) (hk : ks.length ≤ 4) (hlv : ∀ k ∈ ks, k < 4 ∧ (row σ.data k).getD 0 0 ≠ 229) :
    CallP c 15 (.ref (fa c 56)) [.disk, .int form, .ints (nats ks), .int (r : Int)] σ (fun o => o = .ret (.ints (letL σ.data form ks ((r / 32 : Nat) : Int))) σ) := by
  let base : Loc := [("record", .int (r : Int)), ("some", .ints (nats ks)), ("form", .int form), ("disk", .disk)]
  have hi : ((r : Nat) : Int).fdiv 32 = ((r / 32 : Nat) : Int) := by rw [Int.fdiv_eq_ediv_of_nonneg _ (by decide)]; (first | lia | omega)
  refine fn_call T0 56 (ex_step (st_assign (ev_ints (l := []) evs_nil rfl (by decide)) (.inl rfl)) (ex_for (iter_ints (l := nats ks) ev_l) (.inl rfl)
    (fun i loc σ' => loc = (("found", .ints (accL form (ks.take i))) :: base : Loc) ∧ σ = σ' ∧ (form = 0 → ∀ j k, j < i → ks[j]? = some k → entX (row σ.data k) ≠ ((r / 32 : Nat) : Int))) ⟨rfl, rfl, fun _ _ _ h => absurd h (by (first | lia | omega))⟩
    (fun i b loc σ' hb hJ => ?_) (fun loc σ' hJ => ?_))) (hk := bnd_of rfl)
  · obtain ⟨rfl, rfl, hJ⟩ := hJ
    rw [List.getElem?_map] at hb
    obtain ⟨z, hz, rfl⟩ := Option.map_eq_some_iff.mp hb
    unfold nats at hz
    rw [List.getElem?_map] at hz
    obtain ⟨k, hki, rfl⟩ := Option.map_eq_some_iff.mp hz
    obtain ⟨hk4, hl⟩ := hlv k (List.mem_of_getElem? hki)
    have he : entO (row σ.data k) = entT (row σ.data k) := by unfold entO; rw [if_neg hl]
    refine ex_if (b := (form == 0) && ((entX (row σ.data k) == ((r / 32 : Nat) : Int)) && true)) (ts_bool (all_cons (ts_cmp (t₁ := .int form) ev_l ev_int cmp_eq) (fun _ => all_cons (ts_cmp (ev_extent T0.DA (u := (row σ.data k).getD 0 0) (raw := rawK σ.data k) (x := entX (row σ.data k)) (sp := (row σ.data k).getD 13 0) (kk := (row σ.data k).getD 15 0) (mp := mapK σ.data k)
        (by show EvTo _ _ _ _ _ _ (entT (row σ.data k)) _; rw [← he]; exact ev_fn T0 19 (c_19 T0 hk4 hD) (evs_cons ev_l (evs_cons (ev_l (t := .int (k : Int))) evs_nil)))) (by rw [← hi]; exact ev_fdiv (a := (r : Int)) ev_l ev_int (by decide) (by decide)) cmp_eq) (fun _ => all_nil)))) (fun h => ?_) (fun h => ex_nil ?_)
    · have h : form = 0 ∧ entX (row σ.data k) = ((r / 32 : Nat) : Int) := by simpa using h
      refine ex_ret (ev_lrange T0.list.1 T0.list.2 rfl T0.range.1 T0.range.2 rfl (ev_mul (b := (k : Int)) ev_int ev_l (.of_left (by decide))) (ev_add (ev_mul (b := (k : Int)) ev_int ev_l (.of_left (by decide))) ev_int) (by (first | lia | omega)) (by (first | lia | omega)) (by (first | lia | omega))) ?_
      show Out.ret _ _ = _
      have hfi : ks.find? (fun k => entX (row σ.data k) == ((r / 32 : Nat) : Int)) = some k := by
        have hil := (List.getElem?_eq_some_iff.mp hki).1
        have hie := (List.getElem?_eq_some_iff.mp hki).2
        rw [List.find?_eq_some_iff_append]
        refine ⟨by simpa using h.2, ks.take i, ks.drop (i + 1), ?_, fun a ha => ?_⟩
        · rw [← hie, ← List.drop_eq_getElem_cons hil, List.take_append_drop]
        · obtain ⟨j, hj, rfl⟩ := List.mem_iff_getElem.mp ha
          rw [List.length_take] at hj
          have := hJ h.1 j ((ks.take i)[j]) (by (first | lia | omega)) (by rw [List.getElem_take, List.getElem?_eq_getElem])
          simpa using this
      unfold letL
      rw [if_pos h.1, hfi]
      have : (32 * (k : Int) + 32 - 32 * (k : Int)).toNat = 32 := by (first | lia | omega)
      rw [this]
    · have hl13 : (accL form (ks.take i)).length ≤ 13 * 4 := Nat.le_trans (accL_len _) (Nat.mul_le_mul_left _ (by rw [List.length_take]; (first | lia | omega)))
      refine ex_step (st_assign (ev_cat (a := accL form (ks.take i)) (b := rng (32 * (k : Int)) (wid form)) ev_l (by
        have e : (32 * (k : Int) + ((wid form : Nat) : Int) - 32 * (k : Int)).toNat = wid form := by (first | lia | omega)
        have hle := wid_le (form := form)
        rw [← e]
        refine ev_lrange (a := 32 * (k : Int)) (b := 32 * (k : Int) + ((wid form : Nat) : Int)) T0.list.1 T0.list.2 rfl T0.range.1 T0.range.2 rfl (ev_mul (b := (k : Int)) ev_int ev_l (.of_left (by decide))) (ev_add (ev_mul (b := (k : Int)) ev_int ev_l (.of_left (by decide))) ?_) (by (first | lia | omega)) (by (first | lia | omega)) (by (first | lia | omega))
        · refine ev_if (b := form == 1) (ts_cmp (t₁ := .int form) ev_l ev_int cmp_eq) (fun h1 => ?_) (fun h1 => ev_if (b := decide (1 < form)) (ts_cmp (t₁ := .int form) ev_l ev_int cmp_gt) (fun h2 => ?_) (fun h2 => ?_))
          · have : wid form = 1 := by unfold wid; rw [if_pos (by simpa using h1)]
            rw [this]; exact ev_int
          · have : wid form = 13 := by unfold wid; rw [if_neg (by simpa using h1), if_pos (by simpa using h2)]
            rw [this]; exact ev_int
          · have : wid form = 0 := by unfold wid; rw [if_neg (by simpa using h1), if_neg (by simpa using h2)]
            rw [this]; exact ev_int) (by rw [rng_len, sizeLine_eq]; have := wid_le (form := form); (first | lia | omega))) (.inl rfl)) (ex_nil ⟨(("found", .ints (accL form (ks.take (i + 1)))) :: base : Loc), ⟨.inl ?_, .inl rfl, .inl rfl, .inl rfl, .inl rfl, trivial⟩, rfl, rfl, fun h0 j k' hj hk' => ?_⟩)
      · show some _ = some _
        have : ks.take (i + 1) = ks.take i ++ [k] := by rw [List.take_add_one, hki]; rfl
        rw [this]
        unfold accL
        rw [List.flatMap_append]
        simp
      · rcases Nat.lt_succ_iff_lt_or_eq.mp hj with q | q
        · exact hJ h0 j k' q hk'
        · subst q; rw [hki] at hk'; cases hk'
          subst h0
          simpa using h
  · obtain ⟨rfl, rfl, hJ⟩ := hJ
    have hlen : (List.map (fun i => [((Str.ofString "number"), T.int i)]) (nats ks)).length = ks.length := by rw [List.length_map]; unfold nats; rw [List.length_map]
    rw [hlen] at hJ ⊢
    rw [List.take_length]
    have hnone : (if form = 0 then ks.find? (fun k => entX (row σ.data k) == ((r / 32 : Nat) : Int)) else none) = none := by
      split
      · rename_i h0
        rw [List.find?_eq_none]; intro a ha
        obtain ⟨j, hj, rfl⟩ := List.mem_iff_getElem.mp ha
        simpa using hJ h0 j _ hj (List.getElem?_eq_getElem hj)
      · rfl
    refine ex_if (b := (form == 0) && ((!decide (nats ks = [])) && ((!(freeE σ.data).isNone) && true))) (ts_bool (all_cons (ts_cmp (t₁ := .int form) ev_l ev_int cmp_eq) (fun _ => all_cons (ts_cmp (t₁ := .ints (nats ks)) ev_l (ev_ints (l := []) evs_nil rfl (by decide)) (cmp_ne_ints (by decide))) (fun _ => all_cons (ts_cmp (ev_fn T0 23 (c_23 T0 hD) (evs_cons ev_l evs_nil)) ev_none (cmp_isnot_none (b := (freeE σ.data).isNone) (fun X h v rr => by
        cases hq : freeE σ.data with
        | none => rw [hq] at rr; exact none_is X h v rr
        | some q => rw [hq] at rr; exact int_not_none X h v rr))) (fun _ => all_nil))))) (fun h => ?_) (fun h => ex_nil ?_)
    · cases hq : freeE σ.data with
      | none => rw [hq] at h; simp at h
      | some q =>
        have h : form = 0 ∧ ks ≠ [] := by
          rw [hq] at h
          simp at h
          exact ⟨h.1, fun z => h.2 (by rw [z]; rfl)⟩
        have hq4 := (freeE_some hq).1
        have hfr : ∀ (loc : Loc) (p1 p2 p3 : Pos), loc.lookup ("disk" : Str) = some .disk → EvTo c 14 (nm 56) loc σ (.Call (.Name "free_entry" p1) [.Name "disk" p2] [] p3) (.int (q : Int)) σ := fun loc p1 p2 p3 hl => by
          have e : optT (freeE σ.data) = T.int (q : Int) := by rw [hq]; rfl
          rw [← e]
          exact ev_fn T0 23 (c_23 T0 hD) (evs_cons (ev_loc hl rfl) evs_nil)
        refine ex_step (st_assign (ev_lrange T0.list.1 T0.list.2 rfl T0.range.1 T0.range.2 rfl (ev_mul (b := (q : Int)) ev_int (hfr _ _ _ _ rfl) (.of_left (by decide))) (ev_add (ev_mul (b := (q : Int)) ev_int (hfr _ _ _ _ rfl) (.of_left (by decide))) ev_int) (by (first | lia | omega)) (by (first | lia | omega)) (by (first | lia | omega))) (.inl rfl)) (ex_nil (ex_ret ev_l ?_))
        show Out.ret _ _ = _
        unfold letL
        rw [hnone, if_pos h, hq]
        have : (32 * (q : Int) + 32 - 32 * (q : Int)).toNat = 32 := by (first | lia | omega)
        rw [this]
    · refine ex_ret (t := .ints (accL form ks)) ev_l ?_
      show Out.ret _ _ = _
      unfold letL
      rw [hnone]
      dsimp only
      by_cases h1 : form = 0 ∧ ks ≠ []
      · rw [if_pos h1]
        cases hq : freeE σ.data with
        | none => rfl
        | some q =>
          rw [hq] at h
          simp at h
          exact absurd (h h1.1) (by unfold nats; simpa using h1.2)
      · rw [if_neg h1]
end
end Mine
end
section
namespace Mine
section
variable {c : Cfg} {n : Nat} {σ : St} (T0 : Top0 c)
include T0
/-- _law_is_written, where it is so -/
theorem c_57 {el o bl : List Int} {r b : Nat} (hD : σ.data.length = 256) (hel : el.length = 32) (ho : o.length = 16) (hbl : bl.length ≤ 1000) (hb : b < 8) (he0 : 0 ≤ el.getD (16 + r % 32 / 2) 0) (he1 : el.getD (16 + r % 32 / 2) 0 < 256) (hd : σ.data.getD (el.getD (16 + r % 32 / 2) 0).toNat 0 = (b : Int))
    (h1 : ∀ j, j < 16 → el.any (· == ((32 * b + 16 * (r % 2) + j : Nat) : Int)) = false → σ.data.getD (32 * b + 16 * (r % 2) + j) 0 = o.getD j 0)
    (h2 : ∀ x ∈ bl, ((32 * b + 16 * (r % 2) : Nat) : Int) ≤ x ∧ x < ((32 * b + 16 * (r % 2) : Nat) : Int) + 16) :
    CallP c 10 (.ref (fa c 57)) [.disk, .ints el, .int (r : Int), .ints o, .ints bl] σ (fun out => out = .ret (.bool true) σ) := by
  let p : Nat := 32 * b + 16 * (r % 2)
  have hp : p = 32 * b + 16 * (r % 2) := rfl
  let base : Loc := [("place", .int ((p : Nat) : Int)), ("beyond", .ints bl), ("octets", .ints o), ("record", .int (r : Int)), ("entry", .ints el), ("disk", .disk)]
  have hi : ((r : Int).fmod 32).fdiv 2 = ((r % 32 / 2 : Nat) : Int) := by
    rw [Int.fmod_eq_emod_of_nonneg _ (by decide), Int.fdiv_eq_ediv_of_nonneg _ (by decide)]; (first | lia | omega)
  have hi2 : ((r : Int).fmod 2) = ((r % 2 : Nat) : Int) := by rw [Int.fmod_eq_emod_of_nonneg _ (by decide)]; (first | lia | omega)
  refine fn_call T0 57 (ex_step (st_assign (t := .int ((p : Nat) : Int)) ?_ (.inr rfl)) (ex_for (iter_enum T0.enumerate.1 T0.enumerate.2 rfl (l := o) ev_l) ⟨.inl rfl, .inl rfl⟩ (fun i loc σ' => loc = base ∧ σ = σ') ⟨rfl, rfl⟩
    (fun j b' loc σ' hb' hJ => ?_) (fun loc σ' hJ => ?_))) (hk := bnd_of rfl)
  · have e : ((p : Nat) : Int) = 32 * σ.data.getD (el.getD (16 + r % 32 / 2) 0).toNat 0 + 16 * (r : Int).fmod 2 := by rw [hd, hi2]; (first | lia | omega)
    rw [e]
    refine ev_add (ev_mul ev_int (ev_ditem (i := el.getD (16 + r % 32 / 2) 0) (ev_data T0.DA ev_l) ?_ he0 (by rw [hD]; exact he1) (by rw [hD]; decide)) (.of_left (by decide))) (ev_mul ev_int (ev_mod (a := (r : Int)) ev_l ev_int (by decide)) (.of_left (by decide)))
    refine ev_item (l := el) (i := ((16 + r % 32 / 2 : Nat) : Int)) ev_l (by
      have e2 : ((16 + r % 32 / 2 : Nat) : Int) = 16 + ((r : Int).fmod 32).fdiv 2 := by rw [hi]; (first | lia | omega)
      rw [e2]
      exact ev_add ev_int (ev_fdiv (ev_mod (a := (r : Int)) ev_l ev_int (by decide)) ev_int (by decide) (by decide))) (by (first | lia | omega)) (by (first | lia | omega)) (by (first | lia | omega))
  · obtain ⟨hj, rfl⟩ := enum_get hb'
    obtain ⟨rfl, rfl⟩ := hJ
    have ec : ((p + j : Nat) : Int) = ((p : Nat) : Int) + (j : Int) := by (first | lia | omega)
    refine ex_if (b := (!(el.any (· == ((p + j : Nat) : Int)))) && ((σ.data.getD (p + j) 0 != o.getD j 0) && true)) (ts_bool (all_cons (ts_cmp (t₁ := .int ((p + j : Nat) : Int)) (by rw [ec]; exact ev_add (a := (p : Int)) (b := (j : Int)) ev_c ev_l) (ev_l (t := .ints el)) cmp_notin)
      (fun _ => all_cons (ts_cmp (ev_ditem (i := ((p + j : Nat) : Int)) (ev_data T0.DA ev_l) (by rw [ec]; exact ev_add (a := (p : Int)) (b := (j : Int)) ev_c ev_l) (by (first | lia | omega)) (by rw [hD]; (first | lia | omega)) (by rw [hD]; decide)) ev_l cmp_ne) (fun _ => all_nil)))) (fun h => ?_) (fun h => ex_nil (ex_nil ⟨base, ⟨.inl rfl, .inl rfl, .inl rfl, .inl rfl, .inl rfl, .inl rfl, trivial⟩, rfl, rfl⟩))
    exfalso
    rw [Bool.and_true, Bool.and_eq_true, Bool.not_eq_true'] at h
    have := h1 j (by (first | lia | omega)) h.1
    have h2 := h.2
    rw [show σ.data.getD (p + j) 0 = o.getD j 0 from this] at h2
    simp at h2
  · obtain ⟨rfl, rfl⟩ := hJ
    have hfil : bl.filter (fun x => !(decide (((p : Nat) : Int) ≤ x) && decide (x < ((p : Nat) : Int) + 16))) = [] := by
      rw [List.filter_eq_nil_iff]; intro x hx
      have := h2 x hx
      rw [decide_eq_true this.1, decide_eq_true this.2]
      decide
    refine ex_ret (ev_cmp (t₁ := .ints (bl.filter (fun x => !(decide (((p : Nat) : Int) ≤ x) && decide (x < ((p : Nat) : Int) + 16))))) (ev_as_ints (ev_comp (iter_ints (l := bl) ev_l) (compOk_of (cap := [("place", .int ((p : Nat) : Int))]) rfl (by intro q hq; obtain rfl := List.mem_singleton.mp hq; exact ⟨rfl, rfl, rfl⟩))
      (els_filter bl (fun a _ => ts_not (ts_chain (t₁ := .int ((p : Nat) : Int)) (t₂ := .int a) (t₃ := .int (((p : Nat) : Int) + 16)) ev_c ev_l (ev_add ev_c ev_int) cmp_le cmp_lt)) (fun a _ => ev_l)) (fun b hb => by
        obtain ⟨i, _, rfl⟩ := List.mem_map.mp hb
        exact ⟨.inl rfl, trivial⟩) (by rw [List.length_map, sizeLine_eq]; (first | lia | omega))) rfl) (ev_ints (l := []) evs_nil rfl (by decide)) (cmp_eq_ints (by decide))) ?_
    show Out.ret (.bool (decide _)) _ = _
    rw [hfil]
    rfl
end
end Mine
end
section
namespace Mine
noncomputable def bmE : List Value := [.type "Exception", .type "BaseException", .type "object"]
/-- an attribute of an own exception class's instances -/
structure ExAttr (K : Frag) (C : Addr) (x : Str) : Prop where
  ga : findIn K (.ref C) "__getattribute__" = some (some (.builtin "BaseException.__getattribute__"))
  ha : findIn K (.ref C) "__getattr__" = some none
  sa : findIn K (.ref C) "__setattr__" = some (some (.builtin "object.__setattr__"))
  cls : ∃ cd, clsIn K C = some cd ∧ cd.mro = .ref C :: bmE ∧ cd.hasDict = true
  nm : findIn K (.ref C) x = some none

section
variable {c : Cfg} {A : Around} {E : Value → Shared → Prop} {s : Shared}
theorem ExAttr.mro {K : Frag} {C : Addr} {x : Str} (ax : ExAttr K C x) {b : Value} (hb : bmE.contains b = true) : mroIn K C b = some true := by
  obtain ⟨cd, h1, h2, _⟩ := ax.cls
  unfold mroIn
  rw [h1, Option.bind_some, h2, if_neg (by simp), List.contains_cons, hb, Bool.or_true]
theorem getEx {Q : Value → Shared → Prop} {a d C : Addr} {oe : Obj} {es : List DictEntry} {k : Nat} {x : Str} {v : Value} {ex : Bool} (X : c.K.In s.heap) (ax : ExAttr c.K C x)
    (h1 : s.heap.get? a = some oe) (hc : oe.cls = .ref C) (hno : notCls oe = true) (hdd : oe.dict = some d) (h2 : s.heap.get? d = some (dictOf es k)) (hl : getL x es = some (some v)) (hh : handedIn v = true) (h : ∀ tk, Q v { s with toks := tk }) :
    wpAny (model c.prog c.w) A (getAttr (.ref a) x ex) Q E s := by
  have I : PySem.W.InstAt s.heap a oe C (some (dictOf es k)) := ⟨h1, hc, hno, by rw [hdd]; exact h2⟩
  have hd : hasDictIn c.K C = true := by
    obtain ⟨cd, h1, _, h3⟩ := ax.cls
    unfold hasDictIn; rw [h1]; exact h3
  have hf : findObj c.K C (some (dictOf es k)) x = some (.value v) := findObj_own hd ax.nm rfl (by rw [lookIn_dict]; exact hl)
  obtain ⟨hp, g, dr, t, os⟩ := s
  have L0 := I.type (M := model c.prog c.w)
  have L1 := looks_findIn (M := model c.prog c.w) X ax.ga
  have L2 := looks_findIn (M := model c.prog c.w) X ax.ha
  have L3 := looks_find (M := model c.prog c.w) X I hf
  have LI : Looks (model c.prog c.w) hp (isInstance (.ref a) (.type "BaseException")) true := L0.andThen (looks_mroIn X (ax.mro (by decide)))
  have FB := PySem.F.attrBase_Exception
  have hk : builtinKind "BaseException.__getattribute__" = some .slot := by decide +kernel
  have hsplit : splitId "BaseException.__getattribute__" = some ("BaseException", "__getattribute__") := by decide +kernel
  unfold getAttr getAttrBy
  refine wpAny_bind (wpAny_mkText (wpAny_holding (wpAny_bind (L0.at (wpAny_bind (L1.at ?_))))))
  show wpAny _ _ (getAttrByItsOwn _ _ _ _ _ _) _ _ _
  unfold getAttrByItsOwn hookBefore callGetattribute boundAndCalled
  refine wpAny_bind (L2.at ?_)
  refine wpAny_bind (wpAny_attempt (wpAny_holding ?_))
  rw [show (ex && onTheHeap (Value.builtin "BaseException.__getattribute__")) = false by cases ex <;> rfl, if_neg (by decide)]
  refine wpAny_bind (wpAny_of_eq (FB.ga.bind _) ?_)
  refine wpAny_mono (Q := fun r s' => r = v ∧ s' = ⟨hp, g, dr, t + 1, os⟩) (E := fun _ _ => False) (wpAny_call (codeAny_call_builtin FB.ga.plain PySem.F.entry_bexc_ga (@check_slot (model c.prog c.w) _ _ _ "BaseException.__getattribute__" "BaseException" "__getattribute__" (.ref a) [.str x t] [] _ hk hsplit LI (PySem.F.args_bexc_ga _ _) ?_))) (fun r s' hr => ?_) fun _ _ z => z.elim
  · refine wpAny_bind (wpAny_pure (wpAny_bind (wpAny_pure (wpAny_bind (L0.at (wpAny_bind (L3.at ?_)))))))
    exact wpAny_pure ⟨rfl, rfl⟩
  · obtain ⟨rfl, rfl⟩ := hr
    show wpAny _ _ (handedOut _) _ _ _
    rw [handedOut_of hh]
    exact wpAny_pure (h _)
/-- an attribute stored in an exception that has no dict yet -/
theorem setEx {Q : Unit → Shared → Prop} {e C : Addr} {vs : Array Value} {x : Str} {v : Value} (X : c.K.In s.heap) (ax : ExAttr c.K C x) (h1 : s.heap.get? e = some { cls := .ref C, data := .fields vs })
    (h : ∀ h' tk d es k, h'.get? e = some { cls := .ref C, dict := some d, data := .fields vs } → h'.get? d = some (dictOf es k) → getL x es = some (some v) → d ≠ e → s.heap.get? d = none → (∀ b o, b ≠ e → s.heap.get? b = some o → h'.get? b = some o) → Q () { s with heap := h', toks := tk }) :
    wpAny (model c.prog c.w) A (setAttr (.ref e) x v) Q E s := by
  have I : PySem.W.InstAt s.heap e { cls := .ref C, data := .fields vs } C none := ⟨h1, rfl, rfl, trivial⟩
  refine set_plain X I ax.sa ?_
  have SF := PySem.F.store_object
  obtain ⟨cd, hc, hmro, hdc⟩ := ax.cls
  have L0 := I.type (M := model c.prog c.w)
  have sub : Looks (model c.prog c.w) s.heap (isInstance (.ref e) (.type "object")) true := L0.andThen (looks_mroIn X (ax.mro (by decide)))
  have hm : Looks (model c.prog c.w) s.heap (mroOf (.ref C)) cd.mro := (looks_clsIn X hc).andThen .now
  refine codeAny_call_builtin SF.slot.plain SF.entry (@check_slot (model c.prog c.w) _ _ { s with toks := s.toks + 1 } "object.__setattr__" "object" "__setattr__" (.ref e) [.str x s.toks, v] [] _ SF.kind SF.split sub (SF.args (.ref e) (.str x s.toks) v) ?_)
  rw [osa_eq, PySem.refuse_eq]
  refine wpAny_bind (wpAny_bind (Looks.here (s := { s with toks := s.toks + 1 }) L0 (wpAny_bind (Looks.here (s := { s with toks := s.toks + 1 }) hm ?_))))
  rw [hmro, PySem.refuseLoop_ref, show bmE = [.type "Exception", .type "BaseException", .type "object"] from rfl, PySem.F.store_Exception.passes]
  refine wpAny_pure (wpAny_bind (Looks.here (s := { s with toks := s.toks + 1 }) L0 (wpAny_bind (Looks.here (s := { s with toks := s.toks + 1 }) (looks_findIn X ax.nm) ?_))))
  refine wpAny_bind (wpAny_pure ?_)
  show wpAny _ _ (Builtin.ObjectAttr.storeInOwnDict (.ref e) (.ref C) (.str x s.toks) x v false) _ _ _
  refine wpAny_bind (wpAny_pure (wpAny_bind (wpAny_bind (wpAny_loadPart h1 (wpAny_bind (Looks.here (s := { s with toks := s.toks + 1 }) (looks_clsIn X hc) ?_))))))
  rw [hdc]
  rw [if_neg (by decide)]
  have hx₁ : (s.heap.push { cls := .type "dict", data := .dict #[] }).get? e = some { cls := .ref C, data := .fields vs } := Heap.get?_push_of_some _ h1
  have hne : s.heap.objs.size ≠ e := Nat.ne_of_gt (Heap.lt_size h1)
  refine wpAny_bind (wpAny_alloc' ?_)
  refine wpAny_bind (wpAny_update' hx₁ ?_)
  refine wpAny_pure ?_
  have he := Heap.get?_update_self (fun o : Obj => { cls := o.cls, dict := some s.heap.objs.size, data := o.data, slots := o.slots }) hx₁ rfl
  have h2 : ((s.heap.push { cls := .type "dict", data := .dict #[] }).update e fun o => { cls := o.cls, dict := some s.heap.objs.size, data := o.data, slots := o.slots }).get? s.heap.objs.size = some (dictOf [] 0) :=
    (Heap.get?_update_other _ _ (Ne.symm hne)).trans (Heap.get?_push_at rfl rfl)
  have keep : ∀ b o, b ≠ e → s.heap.get? b = some o → ((s.heap.push { cls := .type "dict", data := .dict #[] }).update e fun o => { cls := o.cls, dict := some s.heap.objs.size, data := o.data, slots := o.slots }).get? b = some o := fun b o hb q =>
    (Heap.get?_update_other _ _ (Ne.symm hb)).trans (Heap.get?_push_of_some _ q)
  generalize ((s.heap.push { cls := .type "dict", data := .dict #[] }).update e fun o => { cls := o.cls, dict := some s.heap.objs.size, data := o.data, slots := o.slots }) = hp at he h2 keep ⊢
  show wpAny _ _ (Builtin.ObjectAttr.storeInDict s.heap.objs.size (.str x s.toks) x v) _ _ _
  unfold Builtin.ObjectAttr.storeInDict Builtin.ObjectAttr.newKeyGuard
  refine wpAny_bind (wpAny_pure (wpAny_bind ?_))
  unfold nsSet
  refine wpAny_bind (wpAny_bind (wpAny_askSetting (wpAny_pure (wpAny_bind (wpAny_mkText (wpAny_bind (wpAny_loadPart h2 ?_)))))))
  have em := putName_dict x (PyData.keyHash c.w.params x) (.str x (s.toks + 1)) v [] 0
  have hf : (Obj.putName x (PyData.keyHash c.w.params x) (.str x (s.toks + 1)) v (dictOf [] 0)).isFreed = false := by rw [em]; rfl
  have D' := Heap.get?_update_self (Obj.putName x (PyData.keyHash c.w.params x) (.str x (s.toks + 1)) v) h2 hf
  rw [em] at D'
  have cc : (!([] : List DictEntry).toArray.any (·.key.isStr x) && ([] : List DictEntry).toArray.any (·.refKey)) = false := by simp
  dsimp only
  rw [aRefKeyMayBeTheName_at, cc]
  refine wpAny_updatePart h2 ?_
  refine wpAny_bind (wpAny_lookBehind D' (pastItsLine_dict (by simp [putL, sizeLine_eq])) ?_)
  obtain ⟨en, h5, h6⟩ := find_putL_same (name := x) (hs := PyData.keyHash c.w.params x) (tk := s.toks + 1) (v := v) []
  exact wpAny_pure (h _ _ s.heap.objs.size _ _ ((Heap.get?_update_other _ _ hne).trans he) D' (by unfold getL; rw [h5]; show some (some en.val) = _; rw [h6]) hne (ge_none (Nat.le_refl _)) fun b o hb q => (Heap.get?_update_other _ _ (fun z => by subst z; exact absurd (Heap.lt_size q) (Nat.lt_irrefl _))).trans (keep b o hb q))
end
end Mine
end
section
namespace Mine
theorem slot_wd_get : Slot "wrapper_descriptor" "__get__" "wrapper_descriptor.__get__" := .of (owner := "wrapper_descriptor") (n := "__get__") (by rw [typeLookup_type, builtinLookup_eq_fast]; kernel_rfl) (by decide +kernel) (by decide +kernel) (by decide +kernel)
  (by first | exact .inl (by decide +kernel) | exact .inr (by decide +kernel)) (by rw [isSubtype_type]; kernel_rfl)
theorem entry_wd_get : entryFor table "wrapper_descriptor.__get__" = some Builtin.«wrapper_descriptor.__get__» := entryFor_of_tree (by kernel_rfl)
theorem args_wd_get (a b c : Value) : argsOk "wrapper_descriptor.__get__" ⟨[a, b, c], []⟩ := by unfold argsOk; kernel_rfl
theorem typeOf_ei : typeOf (.builtin "Exception.__init__") = pure (.type "wrapper_descriptor") := by kernel_rfl

section
variable {prog : Program} {w : World} {M : Model} {A : Around} {E : Value → Shared → Prop} {h : Heap} {g : Array GenState} {d : Drawn} {t : Nat} {os : OsState}
/-- Exception.__init__, bound to x -/
theorem wd_get {x C : Addr} {Q : Fin → Shared → Prop} (hx : Looks (model prog w) h (isInstance (.ref x) (.type "Exception")) true)
    (hq : Q (.done (.ret (.ref h.objs.size))) ⟨h.push { cls := .type "method-wrapper", data := .fields #[.builtin "Exception.__init__", .ref x] }, g, d, t, os⟩) :
    wpAny (model prog w) A (Builtin.«wrapper_descriptor.__get__» ⟨[.builtin "Exception.__init__", .ref x, .ref C], []⟩) Q E ⟨h, g, d, t, os⟩ := by
  unfold Builtin.«wrapper_descriptor.__get__»
  refine wpAny_bind (wpAny_pure ?_)
  have e0 : "Exception.__init__".cutAt '.' = ["Exception", "__init__"] := by first | rfl | decide +kernel
  have e1 : (".".intercalate ("Exception.__init__".cutAt '.').dropLast) = "Exception" := by rw [e0]; decide +kernel
  refine wpAny_bind ?_
  refine wpAny_bind (wpAny_pure ?_)
  rw [← e1] at hx
  refine wpAny_bind (hx.at ?_)
  rw [if_neg (by decide)]
  refine wpAny_pure (wpAny_bind ?_)
  unfold newFields
  exact wpAny_newObj_type (wpAny_pure hq) (by size_fits)

noncomputable def supObj (D x C : Addr) : Obj := { cls := .type "super", dict := none, data := .fields #[.ref D, .ref x, .ref C], slots := #[] }
noncomputable def mwObj (x : Addr) : Obj := { cls := .type "method-wrapper", data := .fields #[.builtin "Exception.__init__", .ref x] }
theorem super_ga {so D x C : Addr} {l₀ l : List Value} {K : Frag} {tk : Tok} {Q : Fin → Shared → Prop}
    (hso : h.get? so = some (supObj D x C)) (hno : Looks (model prog w) h (opaqueClassAbove (.ref C)) none)
    (hC : Looks (model prog w) h (mroOf (.ref C)) l₀) (hl : (l₀.dropWhile (· != .ref D)).drop 1 = l) (X : K.In h)
    (hf : alongIn K "__init__" l = some (some (.builtin "Exception.__init__"))) (hxC : x ≠ C) (hx : Looks (model prog w) h (isInstance (.ref x) (.type "Exception")) true)
    (hq : Q (.done (.ret (.ref h.objs.size))) ⟨h.push (mwObj x), g, d, t, os⟩) :
    wpAny (model prog w) A (Builtin.«super.__getattribute__» ⟨[.ref so, .str "__init__" tk], []⟩) Q E ⟨h, g, d, t, os⟩ := by
  have hlk := slot_wd_get.lookup
  have hne : (Value.ref x == Value.ref C) = false := by simp [hxC]
  have hTf : (⟨h, g, d, t, os⟩ : Shared).TypeIs (.builtin "Exception.__init__") "wrapper_descriptor" := typeOf_ei
  have hdt : (supObj D x C).data = .fields #[.ref D, .ref x, .ref C] := rfl
  have f0 : (#[.ref D, .ref x, .ref C] : Array Value)[0]? = some (.ref D) := rfl
  have f1 : (#[.ref D, .ref x, .ref C] : Array Value)[1]? = some (.ref x) := rfl
  have f2 : (#[.ref D, .ref x, .ref C] : Array Value)[2]? = some (.ref C) := rfl
  have hn : (("__init__" : Str) == ("__class__" : Str)) = false := by decide
  unfold Builtin.«super.__getattribute__»
  repeat (first
    | (with_reducible refine wpAny_field hso hdt f0 ?_) | (with_reducible refine wpAny_field hso hdt f1 ?_) | (with_reducible refine wpAny_field hso hdt f2 ?_)
    | (with_reducible refine ks_wpAny_notOpaque hno ?_)
    | (with_reducible refine Looks.at hC ?_; rw [hl])
    | (refine ks_forIn_along X (fun _ _ => rfl) rfl ?_ hf)
    | (with_reducible refine wpAny_typeOf hTf ?_)
    | (with_reducible refine wpAny_call_entry slot_wd_get hTf entry_wd_get ?_ (args_wd_get _ _ _))
    | (with_reducible refine wd_get hx ?_)
    | (with_reducible refine ⟨_, rfl, ?_⟩)
    | (simp only [hn, hne, Bool.or_false, Bool.false_eq_true, if_false])
    | wp_step
    | dsimp only)
  all_goals exact hq

theorem super_method {so D x C : Addr} {l₀ l : List Value} {K : Frag} {pl : Sem Bool} {Q : Value × List Value → Shared → Prop}
    (hso : h.get? so = some (supObj D x C)) (hno : Looks (model prog w) h (opaqueClassAbove (.ref C)) none)
    (hC : Looks (model prog w) h (mroOf (.ref C)) l₀) (hl : (l₀.dropWhile (· != .ref D)).drop 1 = l) (X : K.In h)
    (hf : alongIn K "__init__" l = some (some (.builtin "Exception.__init__"))) (hxC : x ≠ C) (hx : Looks (model prog w) h (isInstance (.ref x) (.type "Exception")) true)
    (hq : Q (.ref h.objs.size, []) ⟨h.push (mwObj x), g, d, t + 1, os⟩) :
    wpAny (model prog w) A (getMethod (.ref so) "__init__" pl) Q E ⟨h, g, d, t, os⟩ := by
  have hlk := F.ks_slot_super_ga.lookup
  have hcan := F.ks_canon_super_ga
  have hT : ∀ t', (⟨h, g, d, t', os⟩ : Shared).TypeIs (.ref so) "super" := fun _ => ⟨_, hso, rfl⟩
  unfold getMethod
  refine wpAny_bind (wpAny_specialOf (hT _) hlk ?_)
  show wpAny _ _ (if (Manifest.canonical "super.__getattribute__" != "object.__getattribute__") = true then _ else _) _ _ _
  rw [if_pos hcan]
  unfold getAttr getAttrBy
  refine wpAny_bind (wpAny_bind (wpAny_mkText (wpAny_holding (wpAny_bind (wpAny_typeOf (hT _) (wpAny_bind (wpAny_of_eq hlk ?_)))))))
  show wpAny _ _ (getAttrByItsOwn (.ref so) (.str "__init__" t) (.type "super") (.builtin "super.__getattribute__") true false) _ _ _
  unfold getAttrByItsOwn hookBefore callGetattribute boundAndCalled
  refine wpAny_bind (wpAny_of_eq (show (if onTheHeap (.type "super") then typeLookup (.type "super") "__getattr__" else pure none) = pure none from rfl) ?_)
  refine wpAny_bind (wpAny_attempt (wpAny_holding ?_))
  show wpAny _ _ (bindSpecial (.builtin "super.__getattribute__") (.ref so) >>= _) _ _ _
  refine wpAny_bind (wpAny_of_eq (F.ks_slot_super_ga.bind _) ?_)
  refine wpAny_mono (Q := fun v s' => v = .ref h.objs.size ∧ s' = ⟨h.push (mwObj x), g, d, t + 1, os⟩) (E := fun _ _ => False)
    (wpAny_call_entry F.ks_slot_super_ga (hT _) F.ks_entry_super_ga (super_ga hso hno hC hl X hf hxC hx ⟨_, rfl, rfl, rfl⟩) (F.ks_gaArgs_super _ _)) (fun v s' hv => ?_) fun _ _ z => z.elim
  obtain ⟨rfl, rfl⟩ := hv
  exact wpAny_pure (wpAny_pure hq)
end
end Mine
end
section
namespace Mine
noncomputable def excO (C t0 : Addr) : Obj := { cls := .ref C, data := .fields #[.ref t0, .none, .none, .none, .bool false, .none] }
section
variable {prog : Program} {w : World} {M : Model} {A : Around} {E : Value → Shared → Prop} {h : Heap} {g : Array GenState} {d : Drawn} {t : Nat} {os : OsState} {s : Shared}
theorem callWith_mw {pos : Pos} {u x : Addr} {first : List Value} {args : List (Bool × Sem Value)} {Q : Value → Shared → Prop} (hplain : args.any (·.1) = false)
    (h : wpAny M A (evalArgs (.ref u) true args []) (fun a s₁ => s₁.heap.get? u = some (mwObj x) ∧ wpAny M A (call (.ref u) (first ++ a.pos) a.kw) Q E s₁) E s) : wpAny M A (callWith pos (.ref u) first args []) Q E s := by
  unfold callWith
  refine wpAny_bind (wpAny_holding (wpAny_mono h (fun a s₁ h₁ => wpAny_bind (wpAny_standAt ?_)) fun _ _ x => x))
  obtain ⟨ho, hcall⟩ := h₁
  simp only [hplain, List.any_nil, Bool.or_false]
  refine wpAny_bind (m := keeperOf (.ref u)) ?_
  unfold keeperOf
  refine wpAny_bind (wpAny_load ho ?_)
  simp only [mwObj, show (Value.type "method-wrapper" != Value.type "method") = true by decide, show (Value.type "method-wrapper" == Value.type "builtin_function_or_method" || Value.type "method-wrapper" == Value.type "method-wrapper") = true by decide, if_true]
  refine wpAny_pure ?_
  exact wpAny_bind (wpAny_mono hcall (fun r s₂ hr => wpAny_bind (wpAny_holding (wpAny_point (wpAny_pure hr)))) fun _ _ x => x)

section
variable {nm q : Str} {C N : Addr} {bs : List Value} {hdct : Bool} {sn : List Str} {sub : List Value} {ab : Bool} {col : Option Bool} {dd : Option Addr} {k0 k1 k2 k3 k5 : Option Value} {newId : String}
theorem check_init {v : Value} {x : Addr} {ox : Obj} {Q : Unit → Shared → Prop} (hC : h.get? C = some (excClassObj nm q C N bs bmE hdct sn sub ab col dd k0 k1 k2 k3 k5 newId)) (he : h.get? x = some ox) (hcls : ox.cls = .ref C)
    (hq : Q () ⟨h, g, d, t, os⟩) : wpAny M A (checkBoundCall "Exception.__init__" ⟨[.ref x, v], []⟩) Q E ⟨h, g, d, t, os⟩ := by
  have F := PySem.F.excCall_Exception
  have hshort := F.noStar
  unfold checkBoundCall
  rw [F.initRow]
  dsimp only
  rw [F.initKind]
  dsimp only
  rw [if_pos (by decide)]
  repeat (first | (with_reducible refine wpAny_loadPart_at he ?_; rw [hcls]) | with_reducible refine wpAny_loadPart_at hC ?_ | wp_step)
  all_goals exact hq
theorem call_mw {u x t0 : Addr} {v : Value} {Q : Value → Shared → Prop} (hC : h.get? C = some (excClassObj nm q C N bs bmE hdct sn sub ab col dd k0 k1 k2 k3 k5 newId)) (hu : h.get? u = some (mwObj x)) (hx : h.get? x = some (excO C t0))
    (hq : ∀ h' t1, h'.get? x = some (excO C t1) → h.get? t1 = none → (∀ b o, b ≠ x → h.get? b = some o → h'.get? b = some o) → Q .none ⟨h', g, d, t, os⟩) : wpAny (model prog w) A (call (.ref u) [v]) Q E ⟨h, g, d, t, os⟩ := by
  have F := PySem.F.excCall_Exception
  refine wpAny_call (codeAny_of_tree ?_)
  show wpAny _ A.in1 (callAny (.ref u) _) _ _ _
  unfold callAny
  refine wpAny_bind (wpAny_load hu ?_)
  refine wpAny_bind (check_init hC hx rfl (wpAny_pure ⟨Code.quiet_builtin _ (by decide +kernel), codeAny_builtin F.initEntry ?_⟩))
  show wpAny _ _ (do let r ← newTuple [v]; Builtin.BaseException.bexcPut (.ref x) 0 r; ret .none) _ _ _
  refine wpAny_bind (wpAny_newTuple ?_ (by simp [sizeLine_eq]))
  have hx' : (h.push { cls := .type "tuple", data := .seq #[v] }).get? x = some (excO C t0) := Heap.get?_push_of_some _ hx
  unfold Builtin.BaseException.bexcPut
  refine wpAny_bind (wpAny_bind (wpAny_field hx' rfl (x := .ref t0) rfl (wpAny_bind (wpAny_setField hx' rfl (by simp) ?_))))
  refine wpAny_letGo (wpAny_pure ?_)
  have e1 := Heap.get?_update_self (Obj.mapFields (·.setIfInBounds 0 (.ref h.objs.size))) hx' rfl
  exact hq _ h.objs.size e1 (ge_none (Nat.le_refl _)) fun b o hb e => (Heap.get?_update_other _ _ (Ne.symm hb)).trans (Heap.get?_push_of_some _ e)
end
end
end Mine
end
section
namespace Mine
/-- what the raising class is, at the beginning -/
structure ErrInit (c : Cfg) (fI cc cellA N : Addr) (fd : FuncData) (ar : Arg) (mN : Str → Option Value) : Prop where
  fn : ∃ o, c.B0.get? fI = some o ∧ o.data = .func fd ∧ o.cls = .type "function"
  body : fd.body = .stmts (ibd 7)
  names : fd.scope.names = inm 7
  kind : fd.scope.kind = .function
  co : fd.scope.isCoroutine = false
  gen : fd.scope.isGenerator = false
  clo : fd.closure = [(("__class__" : Str), cellA)]
  glob : fd.globals = mainGlobals
  bi : fd.builtins = builtinsNs
  code : fd.code = .ref cc
  cr : c.B0.CodeRec fd.code fd.qualname
  par : (fd.params.posonlyargs ++ fd.params.args).head? = some ar
  arg : ar.arg = "self"
  bind : ∀ a b : Value, bindArgs fd ⟨[a, b], []⟩ = pure [(("self" : Str), a), (("word" : Str), b)]
  cobj : ∃ oc vs tf, c.B0.get? cc = some oc ∧ oc.data = .fields vs ∧ vs[2]? = some (.str c.prog.main.file tf)
  cell : c.B0.IsCell cellA (some (.ref c.ErrC))
  sup : c.mg "super" = none ∧ c.mb "super" = some (.type "super")
  top : (c.prog.main.scope.names.lookup ("super" : Str)).isSome = false
  along : alongIn c.K "__init__" bmE = some (some (.builtin "Exception.__init__"))
  opq : nsIn c.K cStatics "thirdparty.any" = some none
  cls : ∃ nm q bs hdct sn sub ab col dd k0 k1 k2 k3 k5, c.B0.get? c.ErrC = some (excClassObj nm q c.ErrC N bs bmE hdct sn sub ab col dd k0 k1 k2 k3 k5 "Exception.__new__")
  subs : subIn c.K (.ref c.ErrC) (.ref c.ErrC) = some true
  ns : c.B0.Ns N mN
  ini : mN "__init__" = some (.ref fI)

section
variable {c : Cfg} {fI cc cellA N : Addr} {fd : FuncData} {ar : Arg} {mN : Str → Option Value} {A : Around} {s : Shared} {Q E : Value → Shared → Prop}
theorem loadName_glob {M : Model} {env : Env} {x : Str} (hk : env.scope.kind = .function) (hx : env.kindOf x = some .globalImplicit) (h : wpAny M A (loadGlobal env x) Q E s) : wpAny M A (loadName env x) Q E s := by
  unfold loadName
  simp only [Env.blockKind, hk, hx, ScopeKind.isAnnotationScope, Bool.false_and, Bool.false_eq_true, if_false]
  exact h
theorem init_at (EI : ErrInit c fI cc cellA N fd ar mN) (ax : ExAttr c.K c.ErrC "word") (K : CfgOk c) (base : ∀ a o, c.B0.get? a = some o → s.heap.get? a = some o) (hroom : A.depth < recursionLimit) {e t0 : Addr} {w : Str} {tw : Tok}
    (he : s.heap.get? e = some (excO c.ErrC t0)) (heB : c.B0.get? e = none)
    (hq : ∀ h' tk t1 d es k, h'.get? e = some { cls := .ref c.ErrC, dict := some d, data := .fields #[.ref t1, .none, .none, .none, .bool false, .none] } → h'.get? d = some (dictOf es k) → getL "word" es = some (some (.str w tw)) → d ≠ e → s.heap.get? d = none →
      (∀ b o, b ≠ e → s.heap.get? b = some o → h'.get? b = some o) → Q .none { s with heap := h', toks := tk }) :
    wpAny (model c.prog c.w) A (call (.ref fI) [.ref e, .str w tw]) Q E s := by
  obtain ⟨fo, hfo, hfd, hfc⟩ := EI.fn
  obtain ⟨nm', q, bs, hdct, sn, sub, ab, col, dd, k0, k1, k2, k3, k5, hC⟩ := EI.cls
  obtain ⟨oc, vs, tf, hcc, hoc, hvs⟩ := EI.cobj
  have eC : e ≠ c.ErrC := fun z => by rw [z, hC] at heB; cases heB
  refine wpAny_call (ks_codeAny_call_defAt hroom (base _ _ hfo) hfd (K.nolimit.keeps base) (EI.cr.keeps base) EI.body (BindsTo.of_eq (EI.bind _ _)) (fun x hx => ?_) (fun x hx => ?_) (fun h₀ hns k0 => ?_) EI.co EI.gen EI.kind)
  · rw [EI.names] at hx
    have : ((inm 7).all fun x => x.2 != .cell) = true := rfl
    simpa using List.all_eq_true.mp this x hx
  · rw [EI.names]
    simp only [List.mem_cons, List.not_mem_nil, or_false] at hx
    rcases hx with rfl | rfl <;> rfl
  have hk : ∀ x kd, (inm 7).lookup x = some kd → (callEnv fd s.heap.objs.size fI).kindOf x = some kd := fun x kd h => by
    show fd.scope.names.lookup x = _
    rw [EI.names]; exact h
  have hkind : (callEnv fd s.heap.objs.size fI).scope.kind = .function := EI.kind
  refine ks_wpAt_execs_cons (ks_wpAt_Expr_any (ks_wpAt_MethodCall (ks_wpAt_super_base (hk _ _ rfl) (hk _ _ rfl) (by decide) rfl (k0 _ _ (base _ _ hfo)) hfd EI.par EI.code (k0 _ _ (base _ _ hcc)) hoc hvs (by simp) EI.top ?_)) (by show (fd.scope.kind == .module && _) = false; rw [EI.kind]; rfl) rfl)
  have b0 : ∀ a o, c.B0.get? a = some o → h₀.get? a = some o := fun a o z => k0 _ _ (base _ _ z)
  refine loadName_glob hkind (hk _ _ rfl) (Calls.loadGlobal_builtin (by show h₀.Ns fd.globals _; rw [EI.glob]; exact K.g.keeps b0) EI.sup.1 (by show h₀.Ns fd.builtins _; rw [EI.bi]; exact K.b.keeps b0) EI.sup.2 ⟨rfl, ?_⟩)
  refine wpAny_loadName_free hkind (hk _ _ rfl) (by show fd.closure.lookup _ = _; rw [EI.clo]; rfl) (EI.cell.keeps b0) ?_
  rw [EI.arg]
  refine wpAny_loadName_local hkind (hk _ _ rfl) hns rfl ?_
  refine ks_wpAny_isType_cls (b0 _ _ hC) rfl ⟨rfl, ?_⟩
  have X0 : c.K.In h₀ := K.X.keeps b0
  have he0 := k0 _ _ he
  refine ks_wpAny_call_super (b0 _ _ hC) rfl he0 rfl (fun _ z => by cases z) (looks_subIn X0 EI.subs) fun h1 hso k1 => ?_
  obtain ⟨cd, hcd, hmro, hdc⟩ := ax.cls
  have X1 : c.K.In h1 := X0.keeps k1
  have he1 := k1 _ _ he0
  have L0 : Looks (model c.prog c.w) h1 (typeOf (.ref e)) (.ref c.ErrC) := (Looks.ld he1).andThen .now
  refine super_method hso (looks_opaque X1 EI.opq) ((looks_clsIn X1 hcd).andThen .now) (l := bmE) (by rw [hmro]; simp [bmE]) X1 EI.along eC (L0.andThen (looks_mroIn X1 (ax.mro (by decide)))) ?_
  have kp : ∀ b o, h₀.get? b = some o → (h1.push (mwObj e)).get? b = some o := fun b o z => Heap.get?_push_of_some _ (k1 _ _ z)
  have hu : (h1.push (mwObj e)).get? h1.objs.size = some (mwObj e) := Heap.get?_push_size _ rfl
  have hns2 := ns_kp (M := No) (.of_keeps fun b o _ z => kp b o z) (fun z => z.elim) hns
  have hLe : s.heap.objs.size ≠ e := Nat.ne_of_gt (Heap.lt_size he)
  refine callWith_mw (x := e) rfl (Calls.evalArgs_plain (wpAny_items_cons (wpAny_Name (wpAny_loadName_local hkind (hk _ _ rfl) hns2 (v := .str w tw) rfl (wpAny_items_nil ⟨hu, ?_⟩)) (by decide)) rfl))
  have hC2 := kp _ _ (b0 _ _ hC)
  refine call_mw (t0 := t0) hC2 hu (kp _ _ he0) fun h2 t1 he2 _ k2 => ?_
  have hns3 := ns_kp (M := (· = e)) (.of_keeps fun b o hb z => k2 b o hb z) hLe hns2
  have X2 : c.K.In h2 := K.X.keeps fun b o z => k2 b o (fun q => by rw [q, heB] at z; cases z) (kp _ _ (b0 _ _ z))
  refine ks_wpAt_execs_cons (wpAt_of_wpAny (plainObj_wpAny_Assign_Attribute (wpAny_Name (wpAny_loadName_local hkind (hk _ _ rfl) hns3 (v := .str w tw) rfl (wpAny_Name (wpAny_loadName_local hkind (hk _ _ rfl) hns3 (v := .ref e) rfl ?_) (by decide))) (by decide)) rfl))
  refine setEx X2 ax he2 fun h3 tk d es k q1 q2 q3 q4 q5 q6 => ?_
  refine wpAt_of_wpAny (wpAny_execs_nil ?_)
  have old : ∀ b o, s.heap.get? b = some o → b ≠ e → h2.get? b = some o := fun b o z hb => k2 b o hb (kp _ _ (k0 _ _ z))
  refine hq h3 tk t1 d es k q1 q2 q3 q4 ?_ fun b o hb z => q6 b o hb (old b o z hb)
  cases z : s.heap.get? d with
  | none => rfl
  | some o => have := old d o z q4; rw [q5] at this; cases this
end
end Mine
end
section
namespace Mine
section
variable {M : Model} {A : Around} {E : Value → Shared → Prop} {env : Env}
variable {nm q : Str} {C N : Addr} {bs bm : List Value} {hdct : Bool} {sn : List Str} {sub : List Value} {ab : Bool} {col : Option Bool} {dd : Option Addr} {k0 k1 k2 k3 k5 : Option Value} {newId : String}
theorem raise_ex {s : Shared} {x : Sem Value} {Q : Flow → Shared → Prop} (hh : A.handled = none)
    (h : wpAny M A x (fun v s₁ => ∃ e d t, v = .ref e ∧ s₁.heap.get? C = some (excClassObj nm q C N bs bmE hdct sn sub ab col dd k0 k1 k2 k3 k5 newId) ∧
      s₁.heap.get? e = some { cls := .ref C, dict := some d, data := .fields #[.ref t, .none, .none, .none, .bool false, .none] } ∧ E (.ref e) s₁) E s) :
    wpAny M A (raiseStmt env (some x) none) Q E s := by
  have hcB : (Value.ref C :: bmE).contains (.type "BaseException") = true := by rw [List.contains_cons]; simp [bmE]
  unfold raiseStmt
  refine wpAny_bind (wpAny_mono h (fun v s₁ h₁ => ?_) fun _ _ x => x)
  obtain ⟨e, dx, t, rfl, hC, he, hE⟩ := h₁
  obtain ⟨hp, g, d, tk, os⟩ := s₁
  repeat (first | with_reducible refine wpAny_loadPart_at he ?_ | with_reducible refine wpAny_loadPart_at hC ?_ | (with_reducible refine wpAny_isSubtype_exc hC ?_; rw [hcB]) | wp_step)
  exact wpAny_raiseNew_none hh hE
end

section
variable {c : Cfg} {fI cc cellA N : Addr} {fd : FuncData} {ar : Arg} {mN : Str → Option Value}
theorem raise_ok (EI : ErrInit c fI cc cellA N fd ar mN) (ax : ExAttr c.K c.ErrC "word") (hg : c.mg "DiskError" = some (.ref c.ErrC)) (hkeep : keepIn c.K (.ref c.ErrC) = true) : RaiseOk c := by
  intro n names loc σ w fp p q cp k rest P hk hP K X ow A env s Q E hX W PR
  obtain ⟨nm', q', bs, hdct, sn, sub, ab, col, dd, k0, k1, k2, k3, k5, hC⟩ := EI.cls
  obtain ⟨fo, hfo, hfd, hfc⟩ := EI.fn
  refine wpAny_execs_cons ?_
  rw [arm_exec_Raise]
  have hev : EvsTo c (n + 8) names loc σ [.Constant (.str w) k cp] [.str w] σ := evs_cons ev_str evs_nil
  refine wpAny_bind (wpAny_standAt (raise_ex (C := c.ErrC) (nm := nm') (q := q') (N := N) (bs := bs) (hdct := hdct) (sn := sn) (sub := sub) (ab := ab) (col := col) (dd := dd) (k0 := k0) (k1 := k1) (k2 := k2) (k3 := k3) (k5 := k5) (newId := "Exception.__new__") W.ok.1 (wpAny_bind (wpAny_mono (cls_node (e₀ := .Constant (.str w) k cp) (er := []) K hX W hg hkeep hk hev (fun vs h' tk R kp r => ?_) rfl (by decide) rfl rfl) (fun v s₃ h₃ => wpAny_bind (wpAny_standAt (wpAny_pure h₃))) fun _ _ x => x))))
  obtain ⟨v, rfl, r1⟩ := repL1 r
  simp only [Rep] at r1
  obtain ⟨tw, rfl⟩ := r1
  refine wpAny_call_exc_init PySem.F.excBase_Exception (R.base _ _ hC) (EI.ns.keeps R.base) EI.ini (R.base _ _ hfo) hfc (fun h'' e hm => ?_) (by simp [sizeLine_eq])
  obtain ⟨t0, he, _, _⟩ := hm.there
  have heB : c.B0.get? e = none := by
    cases z : c.B0.get? e with
    | none => rfl
    | some o => have := R.base _ _ z; rw [hm.new] at this; cases this
  refine init_at EI ax K (fun a o z => hm.keeps _ _ (R.base a o z)) ?_ he heB fun h3 tk3 t1 d es kk q1 q2 q3 q4 q5 q6 => ⟨rfl, ?_⟩
  · rw [depth_under_make]; have := W.ok.2.1; (first | lia | omega)
  · have k3' : ∀ b o, h'.get? b = some o → h3.get? b = some o := fun b o z => q6 b o (fun y => by rw [y, hm.new] at z; cases z) (hm.keeps _ _ z)
    have R3 := rel_keeps R k3'
    have kN : Kp No h' h3 := .of_keeps fun b o _ z => k3' b o z
    refine ⟨e, d, t1, rfl, R3.base _ _ hC, q1, ?_⟩
    have ke : s.heap.get? e = none := fresh_back W.rel R kp hm.new
    refine PR.exc w σ e h3 tk3 hP (R3.un hX) (kpF (kp.trans (kN.mono fun _ z => z.elim))) (fun l hl => ?_) ⟨ke, fun oe vs T e1 e2 e3 => ?_⟩
    · obtain ⟨l', hl', hf⟩ := (W.kp kp R hX).frs
      rw [hl] at hl'
      cases hl'
      exact ⟨_, d, _, es, kk, tw, q1, rfl, rfl, rfl, q2, q3, heB, hf.kp kN (fun _ z => z.elim), .inl rfl⟩
    · rw [q1] at e1
      cases e1
      cases e2
      cases e3
end
end Mine
end
section
namespace Mine
structure ErrOk (c : Cfg) : Prop where
  glob : c.mg "DiskError" = some (.ref c.ErrC)
  cls : ∃ nm q N bs hdct sn sub ab col dd k0 k1 k2 k3 k5 newId, c.B0.get? c.ErrC = some (excClassObj nm q c.ErrC N bs bmE hdct sn sub ab col dd k0 k1 k2 k3 k5 newId)
  word : ExAttr c.K c.ErrC "word"
section
variable {c : Cfg} {n : Nat} {names : List (Str × NameKind)} {loc loc' loc₁ : Loc} {σ σ' σ₁ σ₂ σ₃ : St} {P : SO → Prop} {rest : List Stmt} {X ow : Addr → Prop} {A : Around} {env : Env} {h h' h₀ : Heap} {s : Shared} {E : Value → Shared → Prop}
/-- rows that store nothing in the frame -/
structure PostN (c : Cfg) (n : Nat) (X ow : Addr → Prop) (A : Around) (loc : Loc) (h₀ : Heap) (s : Shared) (P : SO → Prop) (Q : Flow → Shared → Prop) (E : Value → Shared → Prop) : Prop where
  next : ∀ σ' h' tk, P (.next loc σ') → RelH c (Un X ow) σ' h' → Kp c.Mut h₀ h' → Q .next { s with heap := h', toks := tk }
  ret : ∀ t σ' v h' tk, P (.ret t σ') → RelH c (Un X ow) σ' h' → Kp c.Mut h₀ h' → Rep c (Un X ow) h' t v → Q (.ret v) { s with heap := h', toks := tk }
  exc : ∀ w σ' e h' tk, P (.exc w σ') → RelH c (Un X ow) σ' h' → Kp c.Mut h₀ h' → (∀ l, A.frames = some l → Fly c l e w h') → NewX h₀ h' e → E (.ref e) { s with heap := h', toks := tk }
noncomputable def ExN (c : Cfg) (n : Nat) (names : List (Str × NameKind)) (loc : Loc) (σ : St) (ss : List Stmt) (P : SO → Prop) : Prop :=
  CfgOk c → ∀ (X ow : Addr → Prop) (A : Around) (env : Env) (s : Shared) (Q : Flow → Shared → Prop) (E : Value → Shared → Prop), (∀ a, c.Mut a → X a) → Act c X ow A n env names loc σ s.heap →
    PostN c n X ow A loc s.heap s P Q E → wpAny (model c.prog c.w) A (execs ss env) Q E s
theorem PostN.from {h₁ : Heap} {tk : Nat} {Q : Flow → Shared → Prop} {σ₁ : St} {Y : Addr → Prop} (PR : PostN c n X ow A loc h₀ s P Q E) (R₀ : RelH c Y σ h₀) (R : RelH c Y σ₁ h₁) (k : Kp c.Mut h₀ h₁) : PostN c n X ow A loc h₁ { s with heap := h₁, toks := tk } P Q E :=
  ⟨fun σ' h' tk' p R' k' => PR.next σ' h' tk' p R' (k.trans k'), fun t σ' v h' tk' p R' k' r => PR.ret t σ' v h' tk' p R' (k.trans k') r, fun w σ' e h' tk' p R' k' F nx => PR.exc w σ' e h' tk' p R' (k.trans k') F (by
    have old : ∀ b, h₁.get? b = none → h₀.get? b = none := fun b z => fresh_back R₀ R k z
    exact ⟨old _ nx.1, fun oe vs T e1 e2 e3 => old _ (nx.2 oe vs T e1 e2 e3)⟩)⟩
theorem exN_ret {e : PySem.Expr} {p : Pos} {t : T} (h₁ : EvTo c n names loc σ e t σ₁) (h : P (.ret t σ₁)) : ExN c n names loc σ (.Return (some e) p :: rest) P := fun K X ow A env s Q E hX W PR =>
  wpAny_execs_cons (wpAny_Return_some (h₁ K X ow A env s _ E hX W fun v h' tk R k r => PR.ret t σ₁ v h' tk h R k r))
theorem exN_if {test : PySem.Expr} {body : List Stmt} {p : Pos} {b : Bool} (h₁ : TsTo c n names loc σ test b σ₁) (h₂ : b = true → ExN c n names loc σ₁ body (fun o => match o with | .next _ _ => False | o => P o)) (h₃ : b = false → ExN c n names loc σ₁ rest P) :
    ExN c n names loc σ (.If test body [] p :: rest) P := fun K X ow A env s Q E hX W PR =>
  wpAny_execs_cons (wpAny_If (h₁ K X ow A env s _ E hX W fun h' tk R' k => by
    have W' := W.kp k R' hX
    have T := PR.from (tk := tk) W.rel R' k
    cases b with
    | true => exact h₂ rfl K X ow A env _ _ E hX W' ⟨fun σ' h' tk p => p.elim, fun t σ' v h' tk p R k r => T.ret t σ' v h' tk p R k r, fun w σ' e h' tk p => T.exc w σ' e h' tk p⟩
    | false => exact wpAny_execs_nil (h₃ rfl K X ow A env _ _ E hX W' T)))
theorem exN_expr_call {f : Str} {fp p q : Pos} {a : Addr} {args : List PySem.Expr} {ts : List T} {P₁ : Out → Prop} {e₀ : PySem.Expr} {er : List PySem.Expr} (hg : c.mg f = some (.ref a)) (hf : IsFn c a) (hk : names.lookup f = some .globalImplicit) (h₁ : EvsTo c n names loc σ args ts σ₁)
    (h₂ : CallP c n (.ref a) ts σ₁ P₁) (hr : ∀ t σ', P₁ (.ret t σ') → ExN c n names loc σ' rest P) (he : ∀ w σ', P₁ (.exc w σ') → P (.exc w σ'))
    (ha : args = e₀ :: er := by rfl) (hs : ∀ env, starEach (e₀ :: er) env = (false, eval e₀ env) :: starEach er env := by intro _; rfl) (hd : (f == ("__debug__" : Str)) = false := by decide)
    (hsw : ∀ env, swapsWith (.Call (.Name f fp) args [] p) none q.line env = pure false := by intro _; rfl) : ExN c n names loc σ (.Expr (.Call (.Name f fp) args [] p) q :: rest) P := fun K X ow A env s Q E hX W PR =>
  wpAny_execs_cons (wpAny_Expr_any (call_node ha K hX W hg hf hk h₁ (fun vs h' tk R k r => by
    have W' := W.kp k R hX
    obtain ⟨l, hl, hfr⟩ := W'.frs
    refine h₂ K (Un X ow) A l _ vs _ E (unX hX) W.ok hl hfr R r (fun t σ' v h'' tk' p R' k' r' => ?_) (fun w σ' e h'' tk' p R' k' F nx => ?_)
    · exact hr t σ' p K X ow A env _ Q E hX (W.kp (k.trans k') R' hX) (PR.from W.rel R' (k.trans k'))
    · have old : ∀ b, h'.get? b = none → s.heap.get? b = none := fun b z => fresh_back W.rel R k z
      exact PR.exc w σ' e h'' tk' (he w σ' p) R' (k.trans k') (fun l' e' => by rw [hl] at e'; cases e'; exact F) ⟨old _ nx.1, fun oe vs T e1 e2 e3 => old _ (nx.2 oe vs T e1 e2 e3)⟩) hd (hs env)) (by show (env.scope.kind == .module && _) = false; rw [W.kind]; rfl) (hsw env))

/-- try: ... except DiskError as wrong: return wrong.word -/
theorem ext_try {body : List Stmt} {p1 p2 p3 p4 p5 p6 : Pos} (EO : ErrOk c) (hk : names.lookup ("DiskError" : Str) = some .globalImplicit) (hw : names.lookup ("wrong" : Str) = some .local)
    (hb : ExN c n names loc σ body (fun o => match o with | .next _ _ => False | .ret t σ => P (.ret t σ) | .exc w σ => P (.ret (.str w) σ))) :
    ExT c n names loc σ (.Try body [.ExceptHandler (some (.Name "DiskError" p1)) (some "wrong") [.Return (some (.Attribute (.Name "wrong" p2) "word" p3)) p4] p5] [] [] p6 :: rest) P := fun K X ow A env s Q E hX W ⟨l, hfr, hfk⟩ hfe PR => by
  refine wpAny_execs_cons (wpAny_Try_except (hb K X ow A env s _ _ hX W ⟨fun σ' h' tk p => p.elim, fun t σ' v h' tk p R k r => ?_, fun w σ' e h' tk p R k F nx => ?_⟩))
  · exact PR.ret t σ' v h' tk p (R.un hX) (kpF k) (Rep.anti (fun a q => .inl q) _ _ r)
  have Wx := W.kp k R hX
  have RX : RelH c X σ' h' := R.un hX
  have lv : ∀ a o, s.heap.get? a = some o → ∃ o', h'.get? a = some o' := fun a o e => k.live R.mlive a ⟨o, e⟩
  obtain ⟨m, hns, _⟩ := Wx.fr.ns
  obtain ⟨m0, hns0, _⟩ := W.fr.ns
  obtain ⟨oL0, _, _, eL0, _⟩ := id hns0
  refine leave2_at (s := { s with heap := h', toks := tk }) hfr hfe (fun f hf L e => W.ok.2.2.2 _ hfr f hf L e) (W.rel.un hX) RX lv (F _ hfr) nx fun h1 R1 k1 lv1 F1 nx1 => ?_
  have hns1 : h1.Ns env.locals m := ns_kp k1 (fun z => off_none eL0 z) hns
  obtain ⟨oe, d, vs, es, kk, t, he, hcls, hdict, hdata, hdd, hword, hB0, hl1, htb⟩ := F1
  have hk' : env.kindOf "DiskError" = some .globalImplicit := by show env.scope.names.lookup _ = _; rw [W.names]; exact hk
  have hw' : env.kindOf "wrong" = some .local := by show env.scope.names.lookup _ = _; rw [W.names]; exact hw
  have hp : (env.scope.kind == .class || (env.scope.kind == .module && env.locals != env.globals)) = false := by rw [W.kind]; rfl
  obtain ⟨nm, q, N, bs, hdct, sn, sub, ab, col, dd, k0, k1', k2, k3, k5, newId, hC⟩ := EO.cls
  refine wpAny_handleBy_cons (codeAny_handlers_test (Calls.Name_function_global W.kind hk' (Calls.loadGlobal_global (env := env) (by rw [W.glob]; exact K.g.keeps R1.base) EO.glob ?_) (by decide))) (by intro q; cases q)
  refine wpAny_excMatches_sub_self (R1.base _ _ hC) he hcls (by decide) (codeAny_handlers_suite_as ?_)
  -- the traceback's flight is taken off again
  have rest2 : ∀ (h2 : Heap), RelH c X σ' h2 → Kp (fun a => s.heap.get? a = none) h1 h2 → h2.Ns env.locals m → h2.get? e = some oe → h2.get? d = some (dictOf es kk) → e ≠ env.locals → d ≠ env.locals →
      ∀ (tk2 : Nat) (Rf : Flow → Shared → Prop), (∀ h3 tk3, RelH c X σ' h3 → Kp (fun a => a = env.locals) h2 h3 → (∃ m, h3.Ns env.locals m) → Rf (.ret (.str w t)) { s with heap := h3, toks := tk3 }) →
      wpAny (model c.prog c.w) (A.mark (some (.ref e))) (storeName env "wrong" (.ref e)) (fun _ s₂ => wpAny (model c.prog c.w) (A.mark (some (.ref e))) (execs [.Return (some (.Attribute (.Name "wrong" p2) "word" p3)) p4] env) Rf (fun _ _ => False) s₂) (fun _ _ => False) { s with heap := h2, toks := tk2 } := by
    intro h2 R2 k2 hns2 he2 hd2 neE neD tk2 Rf hR
    refine wpAny_storeName_local hw' hns2 (fun h3 hn3 hs3 => ?_) hp
    have k3 : Kp (fun a => a = env.locals) h2 h3 := .of_keeps fun a o hm e => (hs3.2 a hm).trans e
    have R3 : RelH c X σ' h3 := rel_upd R2 (M := (· = env.locals)) (fun a o hm e => (hs3.2 a hm).trans e) (fun a z => by subst z; exact ⟨W.excl _ (.inl rfl), W.rel.not_ns hns0⟩) (fun a z => by subst z; obtain ⟨o, _, _, e, _⟩ := hn3; exact ⟨o, e⟩)
    refine wpAny_execs_cons (wpAny_Return_some (attr_node (wpAny_Name (wpAny_loadName_local W.kind hw' hn3 (v := .ref e) (by simp) ?_) (by decide)) (by intro _; rfl)))
    exact getEx (R3.inK K) EO.word ((hs3.2 e neE).trans he2) hcls (by unfold notCls; rw [hdata]) hdict ((hs3.2 d neD).trans hd2) hword rfl (fun tk' => hR h3 tk' R3 k3 ⟨_, hn3⟩)
  have clsL : ∃ o, h1.get? env.locals = some o ∧ o.cls = .type "frame" := by
    obtain ⟨_, ⟨L, o, _, _, f1, f2, f3, _⟩, _⟩ := hfk
    rw [hfe] at f1; cases f1
    obtain ⟨sl, z, _⟩ := k _ o (W.rel.not_ns hns0) f2
    obtain ⟨sl', z', _⟩ := k1 _ _ (fun q => off_none f2 q) z
    exact ⟨_, z', f3⟩
  have neE : e ≠ env.locals := fun z => by rw [← z] at eL0; exact off_none eL0 nx1.1
  have neD : d ≠ env.locals := fun z => by
    obtain ⟨o, e1, e2⟩ := clsL
    rw [← z, hdd] at e1; cases e1
    exact dict_cls e2
  have fin : ∀ (h2 : Heap), Kp (fun a => s.heap.get? a = none) h1 h2 → ∀ h3 tk3, RelH c X σ' h3 → Kp (fun a => a = env.locals) h2 h3 → (∃ m, h3.Ns env.locals m) →
      wpAny (model c.prog c.w) A (do bindName env "wrong" .none; unbindBehindTheSuite env "wrong" p5) (fun _ s₃ => Q (.ret (.str w t)) s₃) E { s with heap := h3, toks := tk3 } := fun h2 k2 h3 tk3 R3 k3 ⟨m3, hn3⟩ => by
    refine wpAny_nameGoes hw' hn3 hp fun h4 m4 hn4 hs4 => ?_
    have k4 : Kp (fun a => a = env.locals) h3 h4 := .of_keeps fun a o hm e => (hs4.2 a hm).trans e
    have R4 : RelH c X σ' h4 := rel_upd R3 (M := (· = env.locals)) (fun a o hm e => (hs4.2 a hm).trans e) (fun a z => by subst z; exact ⟨W.excl _ (.inl rfl), W.rel.not_ns hns0⟩) (fun a z => by subst z; obtain ⟨o, _, _, e, _⟩ := hn4; exact ⟨o, e⟩)
    refine PR.ret (.str w) σ' (.str w t) h4 _ p R4 ?_ (by simp only [Rep]; exact ⟨t, rfl⟩)
    refine Kp.fresh (M' := fun a => MutF c env ow a ∨ s.heap.get? a = none) ?_ fun a q => q
    refine (((kpF k).mono fun a z => .inl z).trans ?_).trans ((k3.trans k4).mono fun a z => .inl (.inr (.inl z)))
    exact (k1.trans k2).mono fun a z => .inr z
  rcases htb with h1' | ⟨T, oT, ts, h1', hTe, hT, hTc, hdT, h3'⟩
  · unfold setFlight
    refine wpAny_bind (wpAny_field he hdata h1' ?_)
    rw [if_neg (by decide)]
    refine wpAny_pure ?_
    refine wpAny_mono (rest2 h1 R1 (Kp.refl _ _) hns1 he hdd neE neD _ (fun f s₃ => wpAny (model c.prog c.w) A (do bindName env "wrong" .none; unbindBehindTheSuite env "wrong" p5) (fun _ s₄ => match f with | .next => wpAny (model c.prog c.w) A (execs rest env) Q E s₄ | f => Q f s₄) E s₃) (fin h1 (Kp.refl _ _))) (fun _ s₂ hq => wpAny_mono hq (fun _ _ z => z) fun _ _ z => z.elim) (fun _ _ z => z.elim)
  · have hsz := (Array.getElem?_eq_some_iff.mp h3').1
    refine wpAny_setFlight_none he hdata h1' hT hdT hsz ?_
    have nT : s.heap.get? T = none := nx1.2 oe vs T he hdata h1'
    have other : ∀ b, b ≠ T → (h1.update T (Obj.mapFields (·.setIfInBounds 3 Value.none))).get? b = h1.get? b := fun b hb => Heap.get?_update_other _ _ (Ne.symm hb)
    have self := Heap.get?_update_self (Obj.mapFields (·.setIfInBounds 3 Value.none)) hT (Obj.isFreed_of_fields (Obj.data_mapFields hdT _))
    obtain ⟨R2, k2, _⟩ := rel_left (h' := h1.update T (Obj.mapFields (·.setIfInBounds 3 Value.none))) (O := (· = T)) (F := []) (W.rel.un hX) R1 (fun a z => by subst z; exact ⟨nT, _, self⟩) (fun a z => by cases z) (fun b o q _ z => (other b q).trans z) (fun b o q z => ⟨o.slots, (other b q).trans z⟩)
    have neT : env.locals ≠ T := fun z => by rw [z] at eL0; exact off_none eL0 nT
    have hns2 : (h1.update T (Obj.mapFields (·.setIfInBounds 3 Value.none))).Ns env.locals m := by
      obtain ⟨o, es', ep, e1, r⟩ := hns1
      exact ⟨o, es', ep, (other _ neT).trans e1, r⟩
    have dT : d ≠ T := fun z => by
      rw [← z, hdd] at hT; cases hT; cases hdT
    refine wpAny_mono (rest2 _ R2 k2 hns2 ((other e (Ne.symm hTe)).trans he) ((other d dT).trans hdd) neE neD _ (fun f s₃ => wpAny (model c.prog c.w) A (do bindName env "wrong" .none; unbindBehindTheSuite env "wrong" p5) (fun _ s₄ => match f with | .next => wpAny (model c.prog c.w) A (execs rest env) Q E s₄ | f => Q f s₄) E s₃) (fin _ k2)) (fun _ s₂ hq => wpAny_mono hq (fun _ _ z => z) fun _ _ z => z.elim) (fun _ _ z => z.elim)
end
end Mine
end
section
namespace Mine
noncomputable def DoneOut (σ : St) (form u : Int) (pat nw : List Int) (r : Nat) (o : List Int) (out : Out) : Prop :=
  if form = 0 then (∃ t σ', WOut σ u pat r o (.ret t σ') ∧ out = .ret (.int 1) σ') ∨ (∃ w σ', WOut σ u pat r o (.exc w σ') ∧ out = .ret (.str w) σ')
  else if form = 1 then out = .ret (.int (findK σ.data u pat 4).length) { σ with data := delAt σ.data (findK σ.data u pat 4) }
  else if form = 2 then out = .ret (.int (findK σ.data u pat 4).length) { σ with data := wrAt σ.data (renF nw) (findK σ.data u pat 4) σ.data }
  else out = .ret (.int (findK σ.data u (nw.map fun a => band a 127) 4).length) { σ with data := wrAt σ.data (setF nw) (findK σ.data u (nw.map fun a => band a 127) 4) σ.data }
section
variable {c : Cfg} {n : Nat} {σ : St} (T0 : Top0 c) (RO : RaiseOk c) (EO : ErrOk c)
include T0
theorem fn_call_t (i : Nat) {ts : List T} {P : Out → Prop} (hb : ExT c n (nm i) ((pr i).zip ts).reverse σ (bd i) (soP P)) (hi : isDef i = true := by rfl) (hlen : ts.length = (pr i).length := by rfl) (hk : ∀ p ∈ pr i, Bnd (nm i) p) : CallP c (n + 1) (.ref (fa c i)) ts σ P :=
  callp_t (T0.fn i hi).2 hlen hk hb
include RO EO
/-- _law_done -/
theorem c_55 {form u : Int} {pat nw o : List Int} {r : Nat} (hu : u ≠ 229) (hp : pat.length ≤ 100) (hnw : nw.length = 11) (ho : o.length = 16) (hD : σ.data.length = 256) (hno : ∀ k ∈ findK σ.data u pat 4, (cut (row σ.data k) (some 1) (some 12)).getD 8 0 < 128)
    (hr : ∀ r, r.length = 11 → renF nw (renF nw r) = renF nw r) (hs : ∀ r, r.length = 11 → setF nw (setF nw r) = setF nw r) :
    CallP c 20 (.ref (fa c 55)) [.disk, .int form, .int u, .ints pat, .ints nw, .int (r : Int), .ints o] σ (DoneOut σ form u pat nw r o) := by
  refine fn_call_t T0 55 (ext_try EO rfl rfl ?_) (hk := bnd_of rfl)
  refine exN_if (b := form == 0) (ts_cmp (t₁ := .int form) ev_l ev_int cmp_eq) (fun h => ?_) (fun h => ?_)
  · have h : form = 0 := by simpa using h
    refine exN_expr_call (T0.fn 50 rfl).1 (T0.fn 50 rfl).2.isFn rfl (evs_cons ev_l (evs_cons ev_l (evs_cons ev_l (evs_cons (ev_l (t := .int (r : Int))) (evs_cons ev_l evs_nil))))) (c_50 T0 RO hu hp ho hD hno) (fun t σ' p => exN_ret ev_int ?_) (fun w σ' p => ?_)
    · show DoneOut _ _ _ _ _ _ _ _
      unfold DoneOut; rw [if_pos h]; exact .inl ⟨t, σ', p, rfl⟩
    · show DoneOut _ _ _ _ _ _ _ _
      unfold DoneOut; rw [if_pos h]; exact .inr ⟨w, σ', p, rfl⟩
  have h0 : ¬ form = 0 := by simpa using h
  refine exN_if (b := form == 1) (ts_cmp (t₁ := .int form) ev_l ev_int cmp_eq) (fun h => ?_) (fun h => ?_)
  · have h : form = 1 := by simpa using h
    refine exN_ret (ev_fn T0 44 (c_44 T0 hu hp hD hno) (evs_cons ev_l (evs_cons ev_l (evs_cons ev_l evs_nil)))) ?_
    show DoneOut _ _ _ _ _ _ _ _
    unfold DoneOut; rw [if_neg h0, if_pos h]
  have h1 : ¬ form = 1 := by simpa using h
  by_cases h2 : form = 2
  · refine exN_ret (ev_if (b := form == 2) (ts_cmp (t₁ := .int form) ev_l ev_int cmp_eq) (fun _ => ev_fn T0 45 (c_45 T0 hu hp hnw hD hno hr) (evs_cons ev_l (evs_cons ev_l (evs_cons ev_l (evs_cons ev_l evs_nil))))) (fun h => absurd h2 (by simpa using h))) ?_
    show DoneOut _ _ _ _ _ _ _ _
    unfold DoneOut; rw [if_neg h0, if_neg h1, if_pos h2]
  · refine exN_ret (ev_if (b := form == 2) (ts_cmp (t₁ := .int form) ev_l ev_int cmp_eq) (fun h => absurd (by simpa using h) h2) (fun _ => ev_fn T0 46 (c_46 T0 hu hnw hD hs) (evs_cons ev_l (evs_cons ev_l (evs_cons ev_l evs_nil))))) ?_
    show DoneOut _ _ _ _ _ _ _ _
    unfold DoneOut; rw [if_neg h0, if_neg h1, if_neg h2]
end
end Mine
end
section
namespace Mine
/-- octets -/
noncomputable def Bd (l : List Int) : Prop := ∀ x ∈ l, 0 ≤ x ∧ x < 256
theorem Bd.getD {l : List Int} (h : Bd l) (i : Nat) : 0 ≤ l.getD i 0 ∧ l.getD i 0 < 256 := by
  rw [List.getD_eq_getElem?_getD]
  cases q : l[i]? with
  | none => exact ⟨by decide, by decide⟩
  | some x => exact h x (List.mem_of_getElem? q)
theorem Bd.sub {l m : List Int} (h : Bd l) (hs : ∀ x ∈ m, x ∈ l) : Bd m := fun x q => h x (hs x q)
theorem Bd.drop {l : List Int} (h : Bd l) (k : Nat) : Bd (l.drop k) := h.sub fun _ q => List.mem_of_mem_drop q
theorem Bd.take {l : List Int} (h : Bd l) (k : Nat) : Bd (l.take k) := h.sub fun _ q => List.mem_of_mem_take q
theorem Bd.row {d : List Int} (h : Bd d) (k : Nat) : Bd (row d k) := (h.drop _).take _
theorem Bd.cut {d : List Int} (h : Bd d) (a b : Option Nat) : Bd (cut d a b) := (h.drop _).take _
theorem Bd.app {l m : List Int} (h : Bd l) (h' : Bd m) : Bd (l ++ m) := fun x q => (List.mem_append.mp q).elim (h x) (h' x)
theorem Bd.set {l : List Int} (h : Bd l) (k : Nat) {x : Int} (hx : 0 ≤ x ∧ x < 256) : Bd (l.set k x) := fun y q => by
  rcases List.mem_or_eq_of_mem_set q with q | rfl
  · exact h y q
  · exact hx
theorem Bd.putAt : ∀ {o d : List Int} {p : Nat}, Bd d → Bd o → Bd (putAt d p o)
  | [], _, _, h, _ => h
  | x :: o, d, p, h, h' => Bd.putAt (o := o) (h.set p (h' x (by simp))) (h'.sub fun y q => by simp [q])
theorem Bd.nil : Bd [] := fun x q => by cases q
theorem Bd.cons {x : Int} {l : List Int} (hx : 0 ≤ x ∧ x < 256) (h : Bd l) : Bd (x :: l) := fun y q => by
  rcases List.mem_cons.mp q with rfl | q
  · exact hx
  · exact h y q
theorem Bd.rep {x : Int} {k : Nat} (hx : 0 ≤ x ∧ x < 256) : Bd (List.replicate k x) := fun y q => by rw [List.eq_of_mem_replicate q]; exact hx

structure Inv (d : List Int) : Prop where
  len : d.length = 256
  bd : Bd d
  fl : ∀ k, k < 4 → d.getD (32 * k + 9) 0 < 128

theorem octs_bd {u x sp k : Int} {raw mp : List Int} (hu : 0 ≤ u ∧ u < 256) (hx : 0 ≤ x ∧ x < 8192) (hs : 0 ≤ sp ∧ sp < 256) (hk : 0 ≤ k ∧ k < 256) (hr : Bd raw) (hm : Bd mp) : Bd (octs u raw x sp k mp) := by
  have h1 : 0 ≤ x.fmod 32 ∧ x.fmod 32 < 256 := by rw [Int.fmod_eq_emod_of_nonneg _ (by decide)]; (first | lia | omega)
  have h2 : 0 ≤ x.fdiv 32 ∧ x.fdiv 32 < 256 := by rw [Int.fdiv_eq_ediv_of_nonneg _ (by decide)]; (first | lia | omega)
  exact ((Bd.cons hu hr).app (.cons h1 (.cons hs (.cons h2 (.cons hk .nil))))).app hm
theorem octs_9 {u x sp k : Int} {raw mp : List Int} (hr : raw.length = 11) (hm : mp.length = 16) : (octs u raw x sp k mp).getD 9 0 = raw.getD 8 0 := by
  have := octs_raw (u := u) (x := x) (sp := sp) (k := k) hr hm
  conv => rhs; rw [← this]
  unfold cut
  rw [octs_len hr hm]
  show _ = (((octs u raw x sp k mp).drop 1).take 11).getD 8 0
  rw [List.getD_eq_getElem?_getD, List.getD_eq_getElem?_getD, List.getElem?_take_of_lt (by decide), List.getElem?_drop]
theorem rawK_8 {d : List Int} (hd : d.length = 256) {k : Nat} (hk : k < 4) (j : Nat) (hj : j < 11) : (rawK d k).getD j 0 = d.getD (32 * k + (1 + j)) 0 := by
  unfold rawK cut
  rw [row_len hd hk]
  show (((row d k).drop 1).take 11).getD j 0 = _
  rw [List.getD_eq_getElem?_getD, List.getElem?_take_of_lt hj, List.getElem?_drop, ← List.getD_eq_getElem?_getD, row_getD, if_pos (by (first | lia | omega))]
theorem mapK_at {d : List Int} (hd : d.length = 256) {k : Nat} (hk : k < 4) (j : Nat) (hj : j < 16) : (mapK d k).getD j 0 = d.getD (32 * k + (16 + j)) 0 := by
  unfold mapK cut
  rw [row_len hd hk]
  show (((row d k).drop 16).take 16).getD j 0 = _
  rw [List.getD_eq_getElem?_getD, List.getElem?_take_of_lt hj, List.getElem?_drop, ← List.getD_eq_getElem?_getD, row_getD, if_pos (by (first | lia | omega))]
theorem Inv.raw {d : List Int} (I : Inv d) {k : Nat} (hk : k < 4) : Bd (rawK d k) ∧ (rawK d k).length = 11 ∧ (rawK d k).getD 8 0 < 128 :=
  ⟨(I.bd.row k).cut _ _, rawK_len I.len hk, by rw [rawK_8 I.len hk 8 (by decide)]; exact I.fl k hk⟩
theorem Inv.put {d : List Int} (I : Inv d) {n : Nat} {o : List Int} (hn : n < 4) (ho : o.length = 32) (hb : Bd o) (h9 : o.getD 9 0 < 128) : Inv (putAt d (32 * n) o) := by
  refine ⟨by rw [putAt_len, I.len], I.bd.putAt hb, fun k hk => ?_⟩
  rw [putAt_getD _ _ _ _ (by have := I.len; (first | lia | omega))]
  split
  · rename_i h
    have : k = n := by (first | lia | omega)
    subst this
    rw [show 32 * k + 9 - 32 * k = 9 by (first | lia | omega)]; exact h9
  · exact I.fl k hk
theorem Inv.putLow {d : List Int} (I : Inv d) {p : Nat} {o : List Int} (hp : p + o.length ≤ 256) (hb : ∀ x ∈ o, 0 ≤ x ∧ x < 128) : Inv (putAt d p o) := by
  refine ⟨by rw [putAt_len, I.len], I.bd.putAt fun x q => ⟨(hb x q).1, by have := (hb x q).2; (first | lia | omega)⟩, fun k hk => ?_⟩
  rw [putAt_getD _ _ _ _ (by have := I.len; (first | lia | omega))]
  split
  · rename_i h
    rw [List.getD_eq_getElem?_getD]
    cases q : o[32 * k + 9 - p]? with
    | none => decide
    | some x => exact (hb x (List.mem_of_getElem? q)).2
  · exact I.fl k hk
theorem Inv.del {d : List Int} (I : Inv d) : ∀ {ks : List Nat}, Inv (delAt d ks)
  | [] => I
  | k :: ks => by
    refine Inv.del (d := d.set (32 * k) 229) ⟨by simp [I.len], I.bd.set _ ⟨by decide, by decide⟩, fun j hj => ?_⟩
    by_cases h : 32 * k < 256
    · rw [getD_set_int (by rw [I.len]; exact h), if_neg (by (first | lia | omega))]; exact I.fl j hj
    · rw [List.set_eq_of_length_le (by rw [I.len]; (first | lia | omega))]; exact I.fl j hj

theorem b7 (a : Int) : band a 127 = a % 128 := bitAnd_m7 a
theorem b8 (a : Int) : band a 128 = 0 ∨ band a 128 = 128 := by
  have h : ∀ m : Nat, m &&& 128 = 0 ∨ m &&& 128 = 128 := fun m => by
    cases q : m.testBit 7 with
    | false => exact .inl (Nat.eq_of_testBit_eq fun i => by
        rw [Nat.testBit_and, show 128 = 2 ^ 7 from rfl, Nat.testBit_two_pow, Nat.zero_testBit]
        by_cases h : 7 = i
        · subst h; rw [q]; rfl
        · rw [decide_eq_false h, Bool.and_false])
    | true => exact .inr (Nat.eq_of_testBit_eq fun i => by
        rw [Nat.testBit_and, show 128 = 2 ^ 7 from rfl, Nat.testBit_two_pow]
        by_cases h : 7 = i
        · subst h; rw [q]; rfl
        · rw [decide_eq_false h, Bool.and_false])
  show Builtin.bitAnd a 128 = 0 ∨ Builtin.bitAnd a 128 = 128
  unfold Builtin.bitAnd
  rw [show decide ((0 : Int) ≤ 128) = true from rfl]
  cases decide (0 ≤ a) with
  | true =>
    show ((a.toNat &&& 128 : Nat) : Int) = 0 ∨ ((a.toNat &&& 128 : Nat) : Int) = 128
    rcases h a.toNat with e | e <;> rw [e] <;> simp
  | false =>
    show (128 : Int) - ((128 &&& (Builtin.bitNot a).toNat : Nat) : Int) = 0 ∨ (128 : Int) - ((128 &&& (Builtin.bitNot a).toNat : Nat) : Int) = 128
    rw [Nat.and_comm]
    rcases h (Builtin.bitNot a).toNat with e | e <;> rw [e] <;> simp
theorem b8f : ∀ a : Fin 128, band (a.val : Int) 128 = 0 := by decide +kernel
theorem b8g : ∀ a : Fin 128, band ((128 + a.val : Nat) : Int) 128 = 128 := by decide +kernel
theorem orF : ∀ a : Fin 128, Builtin.bitOr 0 (a.val : Int) = (a.val : Int) ∧ Builtin.bitOr 128 (a.val : Int) = 128 + (a.val : Int) ∧ Builtin.bitOr (a.val : Int) 0 = (a.val : Int) ∧ Builtin.bitOr (a.val : Int) 128 = 128 + (a.val : Int) := by decide +kernel
theorem b8_lo {a : Int} (h0 : 0 ≤ a) (h1 : a < 128) : band a 128 = 0 := by
  have := b8f ⟨a.toNat, by (first | lia | omega)⟩
  simp only at this
  rwa [Int.toNat_of_nonneg h0] at this
theorem b8_hi {a : Int} (h0 : 128 ≤ a) (h1 : a < 256) : band a 128 = 128 := by
  have := b8g ⟨(a - 128).toNat, by (first | lia | omega)⟩
  simp only at this
  have e : ((128 + (a - 128).toNat : Nat) : Int) = a := by (first | lia | omega)
  rwa [e] at this
theorem or_l {x y : Int} (hx : x = 0 ∨ x = 128) (h0 : 0 ≤ y) (h1 : y < 128) : Builtin.bitOr x y = x + y ∧ Builtin.bitOr y x = x + y := by
  have := orF ⟨y.toNat, by (first | lia | omega)⟩
  simp only at this
  rw [Int.toNat_of_nonneg h0] at this
  rcases hx with rfl | rfl
  · exact ⟨by rw [this.1]; (first | lia | omega), by rw [this.2.2.1]; (first | lia | omega)⟩
  · exact ⟨by rw [this.2.1], by rw [this.2.2.2]⟩
/-- the one octet of rename, of set_attributes -/
noncomputable def mx (a b : Int) : Int := Builtin.bitOr (band a 128) (band b 127)
noncomputable def my (a b : Int) : Int := Builtin.bitOr (band a 127) (band b 128)
theorem mx_eq (a b : Int) : mx a b = band a 128 + b % 128 := by unfold mx; rw [b7]; exact (or_l (b8 a) (by (first | lia | omega)) (by (first | lia | omega))).1
theorem my_eq (a b : Int) : my a b = band b 128 + a % 128 := by unfold my; rw [b7]; exact (or_l (b8 b) (by (first | lia | omega)) (by (first | lia | omega))).2
theorem mx_mx (a b : Int) : mx (mx a b) b = mx a b := by
  have : band (mx a b) 128 = band a 128 := by
    rw [mx_eq]
    rcases b8 a with e | e <;> rw [e]
    · exact b8_lo (by (first | lia | omega)) (by (first | lia | omega))
    · exact b8_hi (by (first | lia | omega)) (by (first | lia | omega))
  rw [mx_eq (mx a b), this, ← mx_eq]
theorem my_my (a b : Int) : my (my a b) b = my a b := by
  rw [my_eq (my a b), my_eq]
  rcases b8 b with e | e <;> rw [e] <;> (first | lia | omega)
theorem zip_idem {f : Int → Int → Int} (hf : ∀ a b, f (f a b) b = f a b) : ∀ r nw : List Int, List.zipWith f (List.zipWith f r nw) nw = List.zipWith f r nw
  | [], nw => by simp
  | a :: r, [] => by simp
  | a :: r, b :: nw => by simp only [List.zipWith_cons_cons, hf, zip_idem hf r nw]
theorem renF_zip {nw r : List Int} (h : r.length = nw.length) : renF nw r = List.zipWith mx r nw := by
  unfold renF; rw [h, Nat.min_self, List.take_of_length_le (by (first | lia | omega)), List.take_of_length_le (by (first | lia | omega))]; rfl
theorem setF_zip {nw r : List Int} (h : r.length = nw.length) : setF nw r = List.zipWith my r nw := by
  unfold setF; rw [h, Nat.min_self, List.take_of_length_le (by (first | lia | omega)), List.take_of_length_le (by (first | lia | omega))]; rfl
theorem renF_idem {nw : List Int} (hn : nw.length = 11) : ∀ r : List Int, r.length = 11 → renF nw (renF nw r) = renF nw r := fun r hr => by
  have e := renF_zip (nw := nw) (r := r) (by (first | lia | omega))
  rw [e, renF_zip (by rw [List.length_zipWith]; (first | lia | omega)), zip_idem mx_mx]
theorem setF_idem {nw : List Int} (hn : nw.length = 11) : ∀ r : List Int, r.length = 11 → setF nw (setF nw r) = setF nw r := fun r hr => by
  have e := setF_zip (nw := nw) (r := r) (by (first | lia | omega))
  rw [e, setF_zip (by rw [List.length_zipWith]; (first | lia | omega)), zip_idem my_my]
theorem zip_bd {f : Int → Int → Int} (hf : ∀ a b, (0 ≤ a ∧ a < 256) → (0 ≤ b ∧ b < 256) → 0 ≤ f a b ∧ f a b < 256) : ∀ r nw : List Int, Bd r → Bd nw → Bd (List.zipWith f r nw)
  | [], nw, _, _ => by simp [Bd]
  | a :: r, [], _, _ => by simp [Bd]
  | a :: r, b :: nw, h, h' => by
    rw [List.zipWith_cons_cons]
    exact .cons (hf a b (h a (by simp)) (h' b (by simp))) (zip_bd hf r nw (h.sub fun x q => by simp [q]) (h'.sub fun x q => by simp [q]))
theorem mx_bd (a b : Int) (ha : 0 ≤ a ∧ a < 256) (hb : 0 ≤ b ∧ b < 256) : 0 ≤ mx a b ∧ mx a b < 256 := by
  rw [mx_eq]; rcases b8 a with e | e <;> rw [e] <;> (first | lia | omega)
theorem my_bd (a b : Int) (ha : 0 ≤ a ∧ a < 256) (hb : 0 ≤ b ∧ b < 256) : 0 ≤ my a b ∧ my a b < 256 := by
  rw [my_eq]; rcases b8 b with e | e <;> rw [e] <;> (first | lia | omega)
theorem zip_at {f : Int → Int → Int} {r nw : List Int} {j : Nat} (h1 : j < r.length) (h2 : j < nw.length) : (List.zipWith f r nw).getD j 0 = f (r.getD j 0) (nw.getD j 0) := by
  rw [List.getD_eq_getElem?_getD, List.getElem?_zipWith, List.getD_eq_getElem?_getD, List.getD_eq_getElem?_getD, List.getElem?_eq_getElem h1, List.getElem?_eq_getElem h2]
  rfl

/-- a name of one letter -/
noncomputable def nmL (a : Int) : List Int := [a] ++ List.replicate 10 32
theorem all_zip : ∀ (p r : List Int), r.length = p.length → (∀ x ∈ p, x = 65 ∨ x = 66 ∨ x = 32) →
    (List.zipWith (fun a b => band a 127 == 63 || band a 127 == band b 127) p r).all id = decide (r.map (fun a => a.fmod 128) = p.map fun a => a.fmod 128)
  | [], [], _, _ => rfl
  | [], _ :: _, h, _ => by simp at h
  | _ :: _, [], h, _ => by simp at h
  | a :: p, b :: r, h, hp => by
    rw [List.zipWith_cons_cons, List.all_cons, all_zip p r (by simpa using h) fun x q => hp x (by simp [q]), List.map_cons, List.map_cons]
    have ha := hp a (by simp)
    have e1 : (band a 127 == 63) = false := by rw [b7]; rcases ha with rfl | rfl | rfl <;> rfl
    have e2 : (band a 127 == band b 127) = decide (b.fmod 128 = a.fmod 128) := by
      rw [b7, b7, Int.fmod_eq_emod_of_nonneg _ (by decide), Int.fmod_eq_emod_of_nonneg _ (by decide)]
      by_cases q : a % 128 = b % 128
      · rw [q]; simp
      · rw [decide_eq_false (Ne.symm q)]; simpa using q
    simp only [id, e1, Bool.false_or, e2]
    rw [Bool.eq_iff_iff]
    simp
theorem nmL_mem {a : Int} (ha : a = 65 ∨ a = 66) : ∀ x ∈ nmL a, x = 65 ∨ x = 66 ∨ x = 32 := fun x q => by
  unfold nmL at q
  rcases List.mem_append.mp q with q | q
  · obtain rfl := List.mem_singleton.mp q
    rcases ha with rfl | rfl
    · exact .inl rfl
    · exact .inr (.inl rfl)
  · exact .inr (.inr (List.eq_of_mem_replicate q))
theorem nmL_len {a : Int} : (nmL a).length = 11 := rfl
theorem filter_eq {p q : Nat → Bool} : ∀ (l : List Nat), (∀ k ∈ l, p k = q k) → l.filter p = l.filter q := fun l h => List.filter_congr h
theorem find_like {d : List Int} (hd : d.length = 256) {u a : Int} (ha : a = 65 ∨ a = 66) : findK d u (nmL a) 4 = likeK d u (nmL a) 4 := by
  unfold findK likeK
  refine filter_eq _ fun k hk => ?_
  have hk : k < 4 := by simpa using hk
  congr 1
  have hr : (cut (row d k) (some 1) (some 12)).length = 11 := rawK_len hd hk
  unfold matchB
  rw [hr, nmL_len, Nat.min_self, List.take_of_length_le (by rw [nmL_len]; exact Nat.le_refl _), List.take_of_length_le (by rw [hr]; exact Nat.le_refl _), all_zip _ _ (by rw [hr, nmL_len]) (nmL_mem ha)]
  have : cut (row d k) (some 1) (some 12) = ((row d k).take 12).drop 1 := by
    unfold cut
    rw [row_len hd hk]
    show ((row d k).drop 1).take 11 = _
    rw [List.drop_take]
  rw [this]
/-- none of the found is flagged -/
theorem Inv.no {d : List Int} (I : Inv d) {u : Int} {pat : List Int} : ∀ k ∈ findK d u pat 4, (cut (row d k) (some 1) (some 12)).getD 8 0 < 128 := fun k hk => (I.raw (findK_lt hk)).2.2
end Mine
end
section
namespace Mine
theorem rng_mem {a x : Int} {k : Nat} : x ∈ rng a k ↔ a ≤ x ∧ x < a + (k : Int) := by
  unfold rng
  rw [List.mem_map]
  refine ⟨fun ⟨i, hi, e⟩ => ?_, fun ⟨h1, h2⟩ => ⟨(x - a).toNat, ?_, ?_⟩⟩
  · rw [List.mem_range] at hi; (first | lia | omega)
  · rw [List.mem_range]; (first | lia | omega)
  · (first | lia | omega)
theorem accL_mem {form x : Int} {ks : List Nat} : x ∈ accL form ks ↔ ∃ k ∈ ks, 32 * (k : Int) ≤ x ∧ x < 32 * (k : Int) + ((wid form : Nat) : Int) := by
  unfold accL
  rw [List.mem_flatMap]
  simp only [rng_mem]
theorem any_mem {l : List Int} {x : Int} : l.any (· == x) = true ↔ x ∈ l := by
  rw [List.any_eq_true]
  exact ⟨fun ⟨y, h, e⟩ => by rw [beq_iff_eq] at e; rwa [← e], fun h => ⟨x, h, by simp⟩⟩
noncomputable def chg (d d' : List Int) : List Int := (rng 0 256).filter fun i => d'.getD i.toNat 0 != d.getD i.toNat 0
noncomputable def bey (ch lt : List Int) : List Int := ch.filter fun i => !(lt.any (· == i))
theorem chg_mem {d d' : List Int} {x : Int} : x ∈ chg d d' ↔ ∃ i : Nat, x = (i : Int) ∧ i < 256 ∧ d'.getD i 0 ≠ d.getD i 0 := by
  unfold chg
  rw [List.mem_filter, rng_mem, bne_iff_ne]
  refine ⟨fun ⟨⟨h0, h1⟩, h2⟩ => ⟨x.toNat, by (first | lia | omega), by (first | lia | omega), h2⟩, fun ⟨i, e, h1, h2⟩ => ?_⟩
  subst e
  exact ⟨⟨by (first | lia | omega), by (first | lia | omega)⟩, by simpa using h2⟩
theorem bey_mem {ch lt : List Int} {x : Int} : x ∈ bey ch lt ↔ x ∈ ch ∧ x ∉ lt := by
  unfold bey
  rw [List.mem_filter, Bool.not_eq_true', ← Bool.not_eq_true, any_mem]
theorem bey_nil {d d' lt : List Int} (h : ∀ i : Nat, i < 256 → d'.getD i 0 ≠ d.getD i 0 → (i : Int) ∈ lt) : bey (chg d d') lt = [] := by
  rw [List.eq_nil_iff_forall_not_mem]
  intro x hx
  obtain ⟨h1, h2⟩ := bey_mem.mp hx
  obtain ⟨i, rfl, h3, h4⟩ := chg_mem.mp h1
  exact h2 (h i h3 h4)
theorem chg_len {d d' : List Int} : (chg d d').length ≤ 256 := by
  unfold chg; refine Nat.le_trans (List.length_filter_le _ _) ?_; rw [rng_len]; exact Nat.le_refl _
theorem bey_len {d d' lt : List Int} : (bey (chg d d') lt).length ≤ 256 := by
  unfold bey; exact Nat.le_trans (List.length_filter_le _ _) chg_len
theorem chg_nil {d : List Int} : chg d d = [] := by
  rw [List.eq_nil_iff_forall_not_mem]
  intro x hx
  obtain ⟨i, _, _, h⟩ := chg_mem.mp hx
  exact h rfl

theorem getD_row {d : List Int} {i : Nat} (hi : i < 128) : d.getD i 0 = (row d (i / 32)).getD (i % 32) 0 := by
  rw [row_getD, if_pos (Nat.mod_lt _ (by decide))]
  congr 1; (first | lia | omega)

/-- delete -/
theorem del_at : ∀ {ks : List Nat} {d : List Int} {i : Nat}, (delAt d ks).getD i 0 ≠ d.getD i 0 → ∃ k ∈ ks, i = 32 * k
  | [], d, i, h => absurd rfl h
  | k :: ks, d, i, h => by
    by_cases e : i = 32 * k
    · exact ⟨k, by simp, e⟩
    · have : (d.set (32 * k) 229).getD i 0 = d.getD i 0 := by
        rw [List.getD_eq_getElem?_getD, List.getElem?_set_ne (fun q => e q.symm), ← List.getD_eq_getElem?_getD]
      have h : (delAt (d.set (32 * k) 229) ks).getD i 0 ≠ d.getD i 0 := h
      rw [← this] at h
      obtain ⟨j, hj, q⟩ := del_at h
      exact ⟨j, by simp [hj], q⟩

section
variable {dd : List Int} {f : List Int → List Int}
theorem octsK_len {d : List Int} (hd : d.length = 256) {k : Nat} (hk : k < 4) {raw : List Int} (hr : raw.length = 11) : (octsK d k raw).length = 32 := octs_len hr (mapK_len hd hk)
theorem wr_row (hd : dd.length = 256) (hf : ∀ k, k < 4 → (f (rawK dd k)).length = 11) : ∀ (ks : List Nat) (d : List Int), d.length = 256 → (∀ k ∈ ks, k < 4) → ∀ j, j < 4 → row (wrAt dd f ks d) j = if j ∈ ks then octsK dd j (f (rawK dd j)) else row d j
  | [], d, _, _, j, _ => by rw [if_neg (by simp)]; rfl
  | k :: ks, d, h1, h2, j, hj => by
    have hk := h2 k (by simp)
    show row (wrAt dd f ks (putAt d (32 * k) (octsK dd k (f (rawK dd k))))) j = _
    rw [wr_row hd hf ks _ (by rw [putAt_len, h1]) (fun k q => h2 k (by simp [q])) j hj, row_put h1 hj hk (octsK_len hd hk (hf k hk))]
    by_cases e : j ∈ ks
    · rw [if_pos e, if_pos (by simp [e])]
    · rw [if_neg e]
      by_cases e' : j = k
      · subst e'; rw [if_pos rfl, if_pos (by simp)]
      · rw [if_neg e', if_neg (by simp [e, e'])]
theorem wr_hi (hd : dd.length = 256) (hf : ∀ k, k < 4 → (f (rawK dd k)).length = 11) : ∀ (ks : List Nat) (d : List Int), d.length = 256 → (∀ k ∈ ks, k < 4) → ∀ i, 128 ≤ i → (wrAt dd f ks d).getD i 0 = d.getD i 0
  | [], d, _, _, i, _ => rfl
  | k :: ks, d, h1, h2, i, hi => by
    have hk := h2 k (by simp)
    have hl := octsK_len hd hk (hf k hk)
    show (wrAt dd f ks (putAt d (32 * k) (octsK dd k (f (rawK dd k))))).getD i 0 = _
    rw [wr_hi hd hf ks _ (by rw [putAt_len, h1]) (fun k q => h2 k (by simp [q])) i hi, putAt_getD _ _ _ _ (by (first | lia | omega)), if_neg (by (first | lia | omega))]
theorem wr_inv (I : Inv dd) (hf : ∀ k, k < 4 → (f (rawK dd k)).length = 11 ∧ Bd (f (rawK dd k)) ∧ (f (rawK dd k)).getD 8 0 < 128) : ∀ (ks : List Nat) (d : List Int), Inv d → (∀ k ∈ ks, k < 4) → Inv (wrAt dd f ks d)
  | [], d, h, _ => h
  | k :: ks, d, h, h2 => by
    have hk := h2 k (by simp)
    obtain ⟨f1, f2, f3⟩ := hf k hk
    refine wr_inv I hf ks _ (h.put hk (octsK_len I.len hk f1) ?_ ?_) fun k q => h2 k (by simp [q])
    · have r := fun j => (I.bd.row k).getD j
      refine octs_bd (r 0) ?_ (r 13) (r 15) f2 ((I.bd.row k).cut _ _)
      have h1 := r 14; have h2 := r 12
      unfold entX
      rw [Int.fmod_eq_emod_of_nonneg _ (by decide)]
      (first | lia | omega)
    · unfold octsK
      rw [octs_9 f1 (mapK_len I.len hk)]; exact f3
/-- what octsK leaves as it was -/
theorem octsK_same {d : List Int} (I : Inv d) {k : Nat} (hk : k < 4) {raw : List Int} (hr : raw.length = 11) {i : Nat} (hi : i = 0 ∨ 13 ≤ i) (h32 : i < 32) : (octsK d k raw).getD i 0 = (row d k).getD i 0 := by
  rcases hi with rfl | hi
  · exact octs_0
  · unfold octsK
    obtain ⟨j, rfl⟩ : ∃ j, i = 12 + j := ⟨i - 12, by (first | lia | omega)⟩
    rw [octs_tail hr]
    have r := fun j => (I.bd.row k).getD j
    have : j = 1 ∨ j = 2 ∨ j = 3 ∨ 4 ≤ j := by (first | lia | omega)
    rcases this with rfl | rfl | rfl | hj
    · rfl
    · show (entX (row d k)).fdiv 32 = (row d k).getD 14 0
      have h1 := r 14; have h2 := r 12
      unfold entX
      rw [Int.fmod_eq_emod_of_nonneg _ (by decide), Int.fdiv_eq_ediv_of_nonneg _ (by decide)]
      (first | lia | omega)
    · rfl
    · obtain ⟨m, rfl⟩ : ∃ m, j = 4 + m := ⟨j - 4, by (first | lia | omega)⟩
      have e : ([(entX (row d k)).fmod 32, (row d k).getD 13 0, (entX (row d k)).fdiv 32, (row d k).getD 15 0] ++ mapK d k).getD (4 + m) 0 = (mapK d k).getD m 0 := by
        rw [List.getD_eq_getElem?_getD, List.getElem?_append_right (by simp), List.getD_eq_getElem?_getD]
        congr 2; simp
      rw [e, mapK_at I.len hk m (by (first | lia | omega)), row_getD, if_pos (by (first | lia | omega))]
      congr 1; (first | lia | omega)
theorem wr_at {d : List Int} (I : Inv d) (hf : ∀ k, k < 4 → (f (rawK d k)).length = 11) {ks : List Nat} (hk : ∀ k ∈ ks, k < 4) {i : Nat} (h : (wrAt d f ks d).getD i 0 ≠ d.getD i 0) : ∃ k ∈ ks, 32 * k ≤ i ∧ i < 32 * k + 13 := by
  by_cases hi : 128 ≤ i
  · exact absurd (wr_hi I.len hf ks d I.len hk i hi) h
  · have hj : i / 32 < 4 := by (first | lia | omega)
    rw [getD_row (by (first | lia | omega)), getD_row (d := d) (by (first | lia | omega)), wr_row I.len hf ks d I.len hk _ hj] at h
    by_cases e : i / 32 ∈ ks
    · rw [if_pos e] at h
      refine ⟨_, e, by (first | lia | omega), Nat.lt_of_not_le fun q => h (octsK_same I hj (hf _ hj) (.inr (by (first | lia | omega))) (by (first | lia | omega)))⟩
    · rw [if_neg e] at h; exact absurd rfl h
end

/-- the list of what may change, as the found say -/
theorem letL_some {d : List Int} {ks : List Nat} {x : Int} {k : Nat} (h : ks.find? (fun k => entX (row d k) == x) = some k) : letL d 0 ks x = rng (32 * (k : Int)) 32 := by
  unfold letL; rw [if_pos rfl, h]
theorem letL_new {d : List Int} {ks : List Nat} {x : Int} {n : Nat} (h : ks.find? (fun k => entX (row d k) == x) = none) (hk : ks ≠ []) (hf : freeE d = some n) : letL d 0 ks x = rng (32 * (n : Int)) 32 := by
  unfold letL; rw [if_pos rfl, h]; dsimp only; rw [if_pos ⟨rfl, hk⟩, hf]
theorem letL_other {d : List Int} {form : Int} {ks : List Nat} {x : Int} (h : form ≠ 0) : letL d form ks x = accL form ks := by
  unfold letL; rw [if_neg h]; dsimp only; rw [if_neg (fun q => h q.1)]
theorem letL_len {d : List Int} {form : Int} {ks : List Nat} {x : Int} (hk : ks.length ≤ 4) : (letL d form ks x).length ≤ 100 := by
  have ha : (accL form ks).length ≤ 100 := Nat.le_trans (accL_len ks) (by (first | lia | omega))
  unfold letL
  split
  · rw [rng_len]; decide
  · split
    · split
      · rw [rng_len]; decide
      · exact ha
    · exact ha

theorem wend_data {σ : St} {ix b k : Nat} {o : List Int} {u x sp cnt : Int} {raw mp : List Int} : (wEnd σ ix b k o u x sp cnt raw mp).data = putAt (putAt σ.data (32 * b + 16 * (ix % 2)) o) (32 * k) (octs u raw x sp (if (ix : Int) + 1 > cnt then (ix : Int) + 1 else cnt) mp) := rfl
section
variable {σ : St} {ix b k : Nat} {o raw mp : List Int} {u x sp cnt : Int}
theorem wend_inv (I : Inv σ.data) (hk : k < 4) (hb : b < 8) (hix : ix < 32) (ho : o.length = 16) (hob : ∀ x ∈ o, 0 ≤ x ∧ x < 128) (hr : raw.length = 11) (hrb : Bd raw) (hr8 : raw.getD 8 0 < 128) (hm : mp.length = 16) (hmb : Bd mp) (hu : 0 ≤ u ∧ u < 256) (hx : 0 ≤ x ∧ x < 8192) (hs : 0 ≤ sp ∧ sp < 256) (hc : 0 ≤ cnt ∧ cnt < 256) :
    Inv (wEnd σ ix b k o u x sp cnt raw (mp.set (ix / 2) (b : Int))).data := by
  have hm' : (mp.set (ix / 2) (b : Int)).length = 16 := by rw [List.length_set, hm]
  rw [wend_data]
  refine (I.putLow (by (first | lia | omega)) hob).put hk (octs_len hr hm') (octs_bd hu hx hs ?_ hrb (hmb.set _ (by (first | lia | omega)))) (by rw [octs_9 hr hm']; exact hr8)
  split <;> (first | lia | omega)
theorem wend_len (hD : σ.data.length = 256) : (wEnd σ ix b k o u x sp cnt raw mp).data.length = 256 := by rw [wend_data, putAt_len, putAt_len, hD]
theorem wend_off (hD : σ.data.length = 256) (hk : k < 4) (hb : b < 8) (ho : o.length = 16) (hr : raw.length = 11) (hm : mp.length = 16) {i : Nat} (hi : ¬ (32 * k ≤ i ∧ i < 32 * k + 32)) :
    (wEnd σ ix b k o u x sp cnt raw mp).data.getD i 0 = if 32 * b + 16 * (ix % 2) ≤ i ∧ i < 32 * b + 16 * (ix % 2) + 16 then o.getD (i - (32 * b + 16 * (ix % 2))) 0 else σ.data.getD i 0 := by
  have hl := octs_len (u := u) (x := x) (sp := sp) (k := if (ix : Int) + 1 > cnt then (ix : Int) + 1 else cnt) hr hm
  rw [wend_data, putAt_getD _ _ _ _ (by rw [hl, putAt_len, hD]; (first | lia | omega)), if_neg (by rw [hl]; exact hi), putAt_getD _ _ _ _ (by rw [ho, hD]; (first | lia | omega)), ho]
theorem wend_row (hD : σ.data.length = 256) (hk : k < 4) (hr : raw.length = 11) (hm : mp.length = 16) : row (wEnd σ ix b k o u x sp cnt raw mp).data k = octs u raw x sp (if (ix : Int) + 1 > cnt then (ix : Int) + 1 else cnt) mp := by
  rw [wend_data, row_put (by rw [putAt_len, hD]) hk hk (octs_len hr hm), if_pos rfl]
theorem wend_other (hD : σ.data.length = 256) (hk : k < 4) (h4 : 4 ≤ b) (hb : b < 8) (ho : o.length = 16) (hr : raw.length = 11) (hm : mp.length = 16) {j : Nat} (hj : j < 4) (hn : j ≠ k) : row (wEnd σ ix b k o u x sp cnt raw mp).data j = row σ.data j := by
  rw [wend_data, row_put (by rw [putAt_len, hD]) hj hk (octs_len hr hm), if_neg hn, row_put_hi hD hj (by (first | lia | omega)) (by (first | lia | omega))]
theorem wend_slot (hD : σ.data.length = 256) (hk : k < 4) (hix : ix < 32) (hr : raw.length = 11) (hm : mp.length = 16) : (wEnd σ ix b k o u x sp cnt raw (mp.set (ix / 2) (b : Int))).data.getD (32 * k + (16 + ix / 2)) 0 = (b : Int) := by
  have hm' : (mp.set (ix / 2) (b : Int)).length = 16 := by rw [List.length_set, hm]
  rw [← mapK_at (wend_len hD) hk _ (by (first | lia | omega))]
  unfold mapK
  rw [wend_row hD hk hr hm', octs_map hr hm', getD_set_int (by (first | lia | omega)), if_pos rfl]
theorem wend_recd (hD : σ.data.length = 256) (hk : k < 4) (h4 : 4 ≤ b) (hb : b < 8) (ho : o.length = 16) (hr : raw.length = 11) (hm : mp.length = 16) : recd (wEnd σ ix b k o u x sp cnt raw mp).data (32 * b + 16 * (ix % 2)) = o := by
  have hl := wend_len (ix := ix) (b := b) (k := k) (o := o) (u := u) (x := x) (sp := sp) (cnt := cnt) (raw := raw) (mp := mp) hD
  refine getD_ext (m := 16) ?_ ho fun j hj => ?_
  · unfold recd; rw [List.length_take, List.length_drop, hl]; (first | lia | omega)
  · unfold recd
    rw [List.getD_eq_getElem?_getD, List.getElem?_take_of_lt hj, List.getElem?_drop, ← List.getD_eq_getElem?_getD, wend_off hD hk hb ho hr hm (by (first | lia | omega)), if_pos (by (first | lia | omega))]
    congr 1; (first | lia | omega)
end

theorem findK_congr {d d' : List Int} {u : Int} {pat : List Int} (h : ∀ j, j < 4 → (row d' j).getD 0 0 = (row d j).getD 0 0 ∧ rawK d' j = rawK d j) : findK d' u pat 4 = findK d u pat 4 := by
  unfold findK
  refine List.filter_congr fun j hj => ?_
  obtain ⟨h1, h2⟩ := h j (by simpa using hj)
  have h2 : cut (row d' j) (some 1) (some 12) = cut (row d j) (some 1) (some 12) := h2
  rw [h1, h2]
theorem find_congr {p q : Nat → Bool} : ∀ {l : List Nat}, (∀ k ∈ l, p k = q k) → l.find? p = l.find? q
  | [], _ => rfl
  | a :: l, h => by
    rw [List.find?_cons, List.find?_cons, h a (by simp), find_congr fun k q => h k (by simp [q])]
theorem extK_congr {d d' : List Int} {u x : Int} {pat : List Int} (h : ∀ j, j < 4 → (row d' j).getD 0 0 = (row d j).getD 0 0 ∧ rawK d' j = rawK d j ∧ entX (row d' j) = entX (row d j)) : extK d' u pat x = extK d u pat x := by
  unfold extK
  rw [findK_congr fun j hj => ⟨(h j hj).1, (h j hj).2.1⟩]
  exact find_congr fun k hk => by rw [(h k (findK_lt hk)).2.2]
theorem extK_uniq {d : List Int} {u x : Int} {pat : List Int} {n : Nat} (h1 : n ∈ findK d u pat 4) (h2 : entX (row d n) = x) (h3 : ∀ j ∈ findK d u pat 4, j ≠ n → entX (row d j) ≠ x) : extK d u pat x = some n := by
  unfold extK
  cases q : (findK d u pat 4).find? fun k => entX (row d k) == x with
  | none =>
    have := List.find?_eq_none.mp q n h1
    exact absurd (by simpa using h2) this
  | some j =>
    have e : entX (row d j) = x := by simpa using List.find?_some q
    have hm := List.mem_of_find?_eq_some q
    by_cases z : j = n
    · rw [z]
    · exact absurd e (h3 j hm z)
end Mine
end
section
namespace Mine
/-- what the turn's questions ask behind the deed -/
inductive Told (σ σ' : St) (form u a : Int) (r : Nat) (o : List Int) (told : T) : Prop
  | other (h0 : form ≠ 0) (ht : told = .int (likeK σ.data u (nmL a) 4).length) (hb : bey (chg σ.data σ'.data) (letL σ.data form (likeK σ.data u (nmL a) 4) ((r / 32 : Nat) : Int)) = [])
  | wrote (n b : Nat) (h0 : form = 0) (ht : told = .int 1) (hk : likeK σ.data u (nmL a) 4 ≠ []) (hl : letL σ.data form (likeK σ.data u (nmL a) 4) ((r / 32 : Nat) : Int) = rng (32 * (n : Int)) 32) (hn : n < 4) (hb : b < 8)
      (hd : σ'.data.getD (32 * n + (16 + r % 32 / 2)) 0 = (b : Int))
      (h1 : ∀ j, j < 16 → (rng (32 * (n : Int)) 32).any (· == ((32 * b + 16 * (r % 2) + j : Nat) : Int)) = false → σ'.data.getD (32 * b + 16 * (r % 2) + j) 0 = o.getD j 0)
      (h2 : ∀ x ∈ bey (chg σ.data σ'.data) (rng (32 * (n : Int)) 32), ((32 * b + 16 * (r % 2) : Nat) : Int) ≤ x ∧ x < ((32 * b + 16 * (r % 2) : Nat) : Int) + 16)
      (h3 : 3 < b → extK σ'.data u (nmL a) ((r / 32 : Nat) : Int) = some n ∧ ((r % 32 : Nat) : Int) < (row σ'.data n).getD 15 0 ∧ (mapK σ'.data n).getD (r % 32 / 2) 0 = (b : Int) ∧ recd σ'.data (32 * b + 16 * (r % 32 % 2)) = o)
  | word (w : Str) (h0 : form = 0) (ht : told = .str w) (hw : w = "no file" ∨ w = "full" ∨ w = "directory full" ∨ w = "range") (hn : likeK σ.data u (nmL a) 4 = [] ↔ w = "no file")
      (hb : bey (chg σ.data σ'.data) (letL σ.data form (likeK σ.data u (nmL a) 4) ((r / 32 : Nat) : Int)) = [])
      (hc : chg σ.data σ'.data = [] ∨ (w = "full" ∧ ∃ n : Nat, n < 4 ∧ letL σ.data form (likeK σ.data u (nmL a) 4) ((r / 32 : Nat) : Int) = rng (32 * (n : Int)) 32 ∧ σ.data.getD (32 * n) 0 = 229))

theorem rawK_octs {d : List Int} {k : Nat} {u x sp c : Int} {raw mp : List Int} (h : row d k = octs u raw x sp c mp) (hr : raw.length = 11) (hm : mp.length = 16) : rawK d k = raw := by
  unfold rawK; rw [h]; exact octs_raw hr hm
theorem mem_rng32 {n i : Nat} : ((i : Nat) : Int) ∈ rng (32 * (n : Int)) 32 ↔ 32 * n ≤ i ∧ i < 32 * n + 32 := by
  rw [rng_mem]; (first | lia | omega)

section
variable {σ σ₁ : St} {form u a : Int} {r : Nat} {o : List Int}
/-- a row written, in the end -/
theorem told_wrote {n b : Nat} {raw mp : List Int} {u' x sp cnt : Int} (I : Inv σ.data) (I₁ : Inv σ₁.data) (ho : o.length = 16) (hn : n < 4) (hb : b < 8) (hr : raw.length = 11) (hm : mp.length = 16)
    (h0 : form = 0) (hk : likeK σ.data u (nmL a) 4 ≠ []) (hl : letL σ.data form (likeK σ.data u (nmL a) 4) ((r / 32 : Nat) : Int) = rng (32 * (n : Int)) 32)
    (hs : ∀ i : Nat, ¬ (32 * n ≤ i ∧ i < 32 * n + 32) → σ₁.data.getD i 0 = σ.data.getD i 0)
    (he : 3 < b → extK (wEnd σ₁ (r % 32) b n o u' x sp cnt raw (mp.set (r % 32 / 2) (b : Int))).data u (nmL a) ((r / 32 : Nat) : Int) = some n) :
    Told σ (wEnd σ₁ (r % 32) b n o u' x sp cnt raw (mp.set (r % 32 / 2) (b : Int))) form u a r o (.int 1) := by
  have hix : r % 32 < 32 := Nat.mod_lt _ (by decide)
  have hm' : (mp.set (r % 32 / 2) (b : Int)).length = 16 := by rw [List.length_set, hm]
  have e2 : r % 32 % 2 = r % 2 := by (first | lia | omega)
  have off := fun i hi => wend_off (ix := r % 32) (b := b) (u := u') (x := x) (sp := sp) (cnt := cnt) (σ := σ₁) (o := o) (mp := mp.set (r % 32 / 2) (b : Int)) I₁.len hn hb ho hr hm' (i := i) hi
  refine .wrote n b h0 rfl hk hl hn hb (wend_slot I₁.len hn hix hr hm) (fun j hj hf => ?_) (fun y hy => ?_) fun h3 => ⟨he h3, ?_, ?_, wend_recd I₁.len hn (by (first | lia | omega)) hb ho hr hm'⟩
  · have hq : ¬ (32 * n ≤ 32 * b + 16 * (r % 2) + j ∧ 32 * b + 16 * (r % 2) + j < 32 * n + 32) := fun q => by
      have := any_mem.mpr (mem_rng32.mpr q)
      rw [hf] at this; cases this
    rw [off _ hq, e2, if_pos (by (first | lia | omega))]
    congr 1; (first | lia | omega)
  · obtain ⟨q1, q2⟩ := bey_mem.mp hy
    obtain ⟨i, rfl, hi, hne⟩ := chg_mem.mp q1
    have hq : ¬ (32 * n ≤ i ∧ i < 32 * n + 32) := fun q => q2 (mem_rng32.mpr q)
    rw [off _ hq, hs i hq, e2] at hne
    by_cases z : 32 * b + 16 * (r % 2) ≤ i ∧ i < 32 * b + 16 * (r % 2) + 16
    · (first | lia | omega)
    · rw [if_neg z] at hne; exact absurd rfl hne
  · rw [wend_row I₁.len hn hr hm', octs_15 hr]
    split <;> (first | lia | omega)
  · rw [mapK_at (wend_len I₁.len) hn _ (by (first | lia | omega))]
    exact wend_slot I₁.len hn hix hr hm
theorem told_same {w : Str} (h0 : form = 0) (hw : w = "no file" ∨ w = "full" ∨ w = "directory full" ∨ w = "range") (hn : likeK σ.data u (nmL a) 4 = [] ↔ w = "no file") : Told σ σ form u a r o (.str w) :=
  .word w h0 rfl hw hn (bey_nil fun i _ h => absurd rfl h) (.inl chg_nil)
theorem ne_words : ("full" : Str) ≠ "no file" ∧ ("directory full" : Str) ≠ "no file" ∧ ("range" : Str) ≠ "no file" := by decide
theorem iff_ne {ks : List Nat} {w : Str} (h : ks ≠ []) (hw : w ≠ "no file") : ks = [] ↔ w = "no file" := ⟨fun e => absurd e h, fun e => absurd e hw⟩
theorem put_inv {n : Nat} {raw : List Int} {x : Int} (I : Inv σ.data) (hn : n < 4) (hr : raw.length = 11) (hrb : Bd raw) (hr8 : raw.getD 8 0 < 128) (hu : 0 ≤ u ∧ u < 256) (hx : 0 ≤ x ∧ x < 8192) : Inv (σ.put (32 * n) (octs u raw x 0 0 zeros)).data :=
  I.put hn (octs_len hr rfl) (octs_bd hu hx ⟨by decide, by decide⟩ ⟨by decide, by decide⟩ hrb (.rep ⟨by decide, by decide⟩)) (by rw [octs_9 hr rfl]; exact hr8)
theorem zeros_at (j : Nat) : zeros.getD j 0 = 0 := by
  unfold zeros
  rw [List.getD_eq_getElem?_getD, List.getElem?_replicate]
  split <;> rfl
/-- write_at -/
theorem told_write {out : Out} (I : Inv σ.data) (hu : 0 ≤ u ∧ u < 229) (ha : a = 65 ∨ a = 66) (hr : r < 1000) (ho : o.length = 16) (hob : ∀ x ∈ o, 0 ≤ x ∧ x < 128) (h0 : form = 0)
    (h : (∃ t σ', WOut σ u (nmL a) r o (.ret t σ') ∧ out = .ret (.int 1) σ') ∨ (∃ w σ', WOut σ u (nmL a) r o (.exc w σ') ∧ out = .ret (.str w) σ')) :
    ∃ told σ', out = .ret told σ' ∧ Inv σ'.data ∧ σ'.turn = σ.turn ∧ σ'.cells = σ.cells ∧ Told σ σ' form u a r o told := by
  have hfl := find_like I.len (u := u) ha
  have hix : r % 32 < 32 := Nat.mod_lt _ (by decide)
  obtain ⟨hw1, hw2, hw3⟩ := ne_words
  have olds : ∀ {k : Nat} {out : Out}, extK σ.data u (nmL a) ((r / 32 : Nat) : Int) = some k → k < 4 → WTail σ (r % 32) k o ((row σ.data k).getD 0 0) (entX (row σ.data k)) ((row σ.data k).getD 13 0) ((row σ.data k).getD 15 0) (rawK σ.data k) (mapK σ.data k) out →
      (∃ w, out = .exc w σ ∧ Told σ σ form u a r o (.str w)) ∨ ∃ σ', out = .ret .none σ' ∧ Inv σ'.data ∧ σ'.turn = σ.turn ∧ σ'.cells = σ.cells ∧ Told σ σ' form u a r o (.int 1) := by
    intro k out h1 h2 hT
    have hm : k ∈ findK σ.data u (nmL a) 4 := by unfold extK at h1; exact List.mem_of_find?_eq_some h1
    have hk : likeK σ.data u (nmL a) 4 ≠ [] := by rw [← hfl]; intro z; rw [z] at hm; cases hm
    obtain ⟨r1, r2, r3⟩ := I.raw h2
    rcases hT with ⟨_, e⟩ | ⟨_, e⟩ | ⟨b, hb1, hb8, hbm, e⟩
    · exact .inl ⟨_, e, told_same h0 (.inr (.inl rfl)) (iff_ne hk hw1)⟩
    · exact .inl ⟨_, e, told_same h0 (.inr (.inr (.inr rfl))) (iff_ne hk hw3)⟩
    · have rb := fun j => (I.bd.row k).getD j
      have hxx : entX (row σ.data k) = ((r / 32 : Nat) : Int) := by unfold extK at h1; simpa using List.find?_some h1
      have hml := mapK_len I.len h2
      refine .inr ⟨_, e, wend_inv I h2 hb8 hix ho hob r2 r1 r3 hml ((I.bd.row k).cut _ _) (rb 0) (by rw [hxx]; (first | lia | omega)) (rb 13) (rb 15), rfl, rfl, ?_⟩
      refine told_wrote I I ho h2 hb8 r2 hml h0 hk ?_ (fun _ _ => rfl) fun h3 => ?_
      · rw [h0, ← hfl]
        unfold extK at h1
        exact letL_some h1
      · rw [← h1]
        refine extK_congr fun j hj => ?_
        have hm' : ((mapK σ.data k).set (r % 32 / 2) (b : Int)).length = 16 := by rw [List.length_set, hml]
        by_cases q : j = k
        · subst q
          have hR := wend_row (b := b) (o := o) (ix := r % 32) (u := (row σ.data j).getD 0 0) (x := entX (row σ.data j)) (sp := (row σ.data j).getD 13 0) (cnt := (row σ.data j).getD 15 0) I.len h2 r2 hm'
          refine ⟨by rw [hR]; exact octs_0, ?_, by rw [hR]; exact entX_octs r2⟩
          exact rawK_octs hR r2 hm'
        · have hR := wend_other (b := b) (o := o) (ix := r % 32) (u := (row σ.data k).getD 0 0) (x := entX (row σ.data k)) (sp := (row σ.data k).getD 13 0) (cnt := (row σ.data k).getD 15 0) I.len h2 (by (first | lia | omega)) hb8 ho r2 hm' hj q
          exact ⟨by rw [hR], rawK_of hR, by rw [hR]⟩
  have news : ∀ {k0 k1 n : Nat} {σ1 : St} {out : Out}, extK σ.data u (nmL a) ((r / 32 : Nat) : Int) = none → k0 ∈ findK σ.data u (nmL a) 4 → freeE σ.data = some n → σ1 = σ.put (32 * n) (octs u (rawK σ.data k0) ((r / 32 : Nat) : Int) 0 0 zeros) → k1 ∈ findK σ1.data u (nmL a) 4 →
      WTail σ1 (r % 32) n o u ((r / 32 : Nat) : Int) 0 0 (rawK σ1.data k1) zeros out →
      (∃ w, out = .exc w σ1 ∧ Inv σ1.data ∧ Told σ σ1 form u a r o (.str w)) ∨ ∃ σ', out = .ret .none σ' ∧ Inv σ'.data ∧ σ'.turn = σ.turn ∧ σ'.cells = σ.cells ∧ Told σ σ' form u a r o (.int 1) := by
    intro k0 k1 n σ1 out h1 h2 h3 h4 h5 hT
    have hk : likeK σ.data u (nmL a) 4 ≠ [] := by rw [← hfl]; intro z; rw [z] at h2; cases h2
    obtain ⟨r1, r2, r3⟩ := I.raw (findK_lt h2)
    obtain ⟨hn, hf, _⟩ := freeE_some h3
    have hu' : 0 ≤ u ∧ u < 256 := ⟨hu.1, by (first | lia | omega)⟩
    have hx' : 0 ≤ ((r / 32 : Nat) : Int) ∧ ((r / 32 : Nat) : Int) < 8192 := by (first | lia | omega)
    have I1 : Inv σ1.data := by rw [h4]; exact put_inv I hn r2 r1 r3 hu' hx'
    have ht1 : σ1.turn = σ.turn := by rw [h4]; rfl
    have hc1 : σ1.cells = σ.cells := by rw [h4]; rfl
    have hol : (octs u (rawK σ.data k0) ((r / 32 : Nat) : Int) 0 0 zeros).length = 32 := octs_len r2 rfl
    have hs : ∀ i : Nat, ¬ (32 * n ≤ i ∧ i < 32 * n + 32) → σ1.data.getD i 0 = σ.data.getD i 0 := fun i hi => by
      rw [h4]
      show (putAt _ _ _).getD i 0 = _
      rw [putAt_getD _ _ _ _ (by rw [hol, I.len]; (first | lia | omega)), hol, if_neg hi]
    have hlet : letL σ.data form (likeK σ.data u (nmL a) 4) ((r / 32 : Nat) : Int) = rng (32 * (n : Int)) 32 := by
      rw [h0, ← hfl]
      unfold extK at h1
      exact letL_new h1 (by rw [hfl]; exact hk) h3
    obtain ⟨s1, s2, s3⟩ := I1.raw (findK_lt h5)
    rcases hT with ⟨_, e⟩ | ⟨hz, e⟩ | ⟨b, hb1, hb8, hbm, e⟩
    · refine .inl ⟨_, e, I1, .word _ h0 rfl (.inr (.inl rfl)) (iff_ne hk hw1) (bey_nil fun i hi hne => ?_) (.inr ⟨rfl, n, hn, hlet, hf⟩)⟩
      rw [hlet, mem_rng32]
      by_cases q : 32 * n ≤ i ∧ i < 32 * n + 32
      · exact q
      · exact absurd (hs i q) hne
    · exact absurd (zeros_at _) hz
    · have hb4 : 3 < b → 4 ≤ b := fun h => h
      refine .inr ⟨_, e, wend_inv I1 hn hb8 hix ho hob s2 s1 s3 rfl (.rep ⟨by decide, by decide⟩) hu' hx' ⟨by decide, by decide⟩ ⟨by decide, by decide⟩, ht1, hc1, ?_⟩
      refine told_wrote I I1 ho hn hb8 s2 rfl h0 hk hlet hs fun h3' => ?_
      have hm' : (zeros.set (r % 32 / 2) (b : Int)).length = 16 := by rw [List.length_set]; rfl
      have hR := wend_row (b := b) (o := o) (ix := r % 32) (u := u) (x := ((r / 32 : Nat) : Int)) (sp := 0) (cnt := 0) I1.len hn s2 hm'
      have hRaw : rawK (wEnd σ1 (r % 32) b n o u ((r / 32 : Nat) : Int) 0 0 (rawK σ1.data k1) (zeros.set (r % 32 / 2) (b : Int))).data n = rawK σ1.data k1 :=
        rawK_octs hR s2 hm'
      refine extK_uniq (findK_mem.mpr ⟨hn, by rw [hR]; exact octs_0, by rw [hRaw]; exact (findK_mem.mp h5).2.2⟩) (by rw [hR]; exact entX_octs s2) fun j hj hne => ?_
      have hj4 := findK_lt hj
      have hR2 := wend_other (b := b) (o := o) (ix := r % 32) (u := u) (x := ((r / 32 : Nat) : Int)) (sp := 0) (cnt := 0) I1.len hn h3' hb8 ho s2 hm' hj4 hne
      have hR3 : row σ1.data j = row σ.data j := by
        rw [h4]
        show row (putAt _ _ _) j = _
        rw [row_put I.len hj4 hn hol, if_neg hne]
      have hjm := findK_mem.mp hj
      have hjk : j ∈ findK σ.data u (nmL a) 4 := findK_mem.mpr ⟨hj4, by rw [← hR3, ← hR2]; exact hjm.2.1, by rw [← rawK_of hR3, ← rawK_of hR2]; exact hjm.2.2⟩
      rw [hR2, hR3]
      unfold extK at h1
      have := List.find?_eq_none.mp h1 j hjk
      simpa using this
  rcases h with ⟨t, σ', hW, rfl⟩ | ⟨w, σ', hW, rfl⟩
  · cases hW with
    | none _ _ e => cases e
    | dir _ _ _ e => cases e
    | new k0 k1 n σ1 h1 h2 h3 h4 h5 hT =>
      rcases news h1 h2 h3 h4 h5 hT with ⟨w, e, _⟩ | ⟨σ'', e, i1, i2, i3, i4⟩
      · cases e
      · cases e; exact ⟨_, _, rfl, i1, i2, i3, i4⟩
    | old k h1 h2 hT =>
      rcases olds h1 h2 hT with ⟨w, e, _⟩ | ⟨σ'', e, i1, i2, i3, i4⟩
      · cases e
      · cases e; exact ⟨_, _, rfl, i1, i2, i3, i4⟩
  · cases hW with
    | none h1 h2 e =>
      cases e
      exact ⟨_, _, rfl, I, rfl, rfl, told_same h0 (.inl rfl) ⟨fun _ => rfl, fun _ => by rw [← hfl]; exact h2⟩⟩
    | dir h1 h2 h3 e =>
      cases e
      exact ⟨_, _, rfl, I, rfl, rfl, told_same h0 (.inr (.inr (.inl rfl))) (iff_ne (by rw [← hfl]; exact h2) hw2)⟩
    | new k0 k1 n σ1 h1 h2 h3 h4 h5 hT =>
      have ht1 : σ1.turn = σ.turn := by rw [h4]; rfl
      have hc1 : σ1.cells = σ.cells := by rw [h4]; rfl
      rcases news h1 h2 h3 h4 h5 hT with ⟨w', e, i1, i2⟩ | ⟨σ'', e, _⟩
      · cases e; exact ⟨_, _, rfl, i1, ht1, hc1, i2⟩
      · cases e
    | old k h1 h2 hT =>
      rcases olds h1 h2 hT with ⟨w', e, i2⟩ | ⟨σ'', e, _⟩
      · cases e; exact ⟨_, _, rfl, I, rfl, rfl, i2⟩
      · cases e
/-- a turn's deed -/
theorem told_of {nw : List Int} {out : Out} (I : Inv σ.data) (hf0 : 0 ≤ form) (hu : 0 ≤ u ∧ u < 229) (ha : a = 65 ∨ a = 66) (hr : r < 1000) (ho : o.length = 16) (hob : ∀ x ∈ o, 0 ≤ x ∧ x < 128) (hnw : nw.length = 11) (hnb : Bd nw) (hn8 : nw.getD 8 0 < 128)
    (hn3 : form ≠ 2 → nw.map (fun a => band a 127) = nmL a) (h : DoneOut σ form u (nmL a) nw r o out) :
    ∃ told σ', out = .ret told σ' ∧ Inv σ'.data ∧ σ'.turn = σ.turn ∧ σ'.cells = σ.cells ∧ Told σ σ' form u a r o told := by
  unfold DoneOut at h
  have hfl := find_like I.len (u := u) ha
  by_cases h0 : form = 0
  · rw [if_pos h0] at h; exact told_write I hu ha hr ho hob h0 h
  rw [if_neg h0] at h
  have lets : letL σ.data form (likeK σ.data u (nmL a) 4) ((r / 32 : Nat) : Int) = accL form (likeK σ.data u (nmL a) 4) := letL_other h0
  by_cases h1 : form = 1
  · rw [if_pos h1] at h
    refine ⟨_, _, h, I.del, rfl, rfl, .other h0 (by rw [hfl]) (bey_nil fun i hi hne => ?_)⟩
    rw [lets, accL_mem]
    obtain ⟨k, hk, e⟩ := del_at hne
    have : wid form = 1 := by unfold wid; rw [if_pos h1]
    exact ⟨k, by rw [← hfl]; exact hk, by (first | lia | omega), by (first | lia | omega)⟩
  rw [if_neg h1] at h
  have hw : wid form = 13 := by unfold wid; rw [if_neg h1, if_pos (by (first | lia | omega))]
  have gen : ∀ (f : List Int → List Int) (ks : List Nat), (∀ k ∈ ks, k < 4) → ks = likeK σ.data u (nmL a) 4 → (∀ k, k < 4 → (f (rawK σ.data k)).length = 11 ∧ Bd (f (rawK σ.data k)) ∧ (f (rawK σ.data k)).getD 8 0 < 128) →
      out = .ret (.int ks.length) { σ with data := wrAt σ.data f ks σ.data } → ∃ told σ', out = .ret told σ' ∧ Inv σ'.data ∧ σ'.turn = σ.turn ∧ σ'.cells = σ.cells ∧ Told σ σ' form u a r o told := by
    intro f ks hks hke hf he
    refine ⟨_, _, he, wr_inv I hf ks _ I hks, rfl, rfl, .other h0 (by rw [hke]) (bey_nil fun i hi hne => ?_)⟩
    rw [lets, accL_mem]
    obtain ⟨k, hk, e1, e2⟩ := wr_at I (fun k hk => (hf k hk).1) hks hne
    exact ⟨k, by rw [← hke]; exact hk, by (first | lia | omega), by (first | lia | omega)⟩
  by_cases h2 : form = 2
  · rw [if_pos h2] at h
    refine gen _ _ (fun k hk => findK_lt hk) hfl (fun k hk => ?_) h
    obtain ⟨r1, r2, r3⟩ := I.raw hk
    rw [renF_zip (by (first | lia | omega))]
    refine ⟨by rw [List.length_zipWith]; (first | lia | omega), zip_bd mx_bd _ _ r1 hnb, ?_⟩
    rw [zip_at (by (first | lia | omega)) (by (first | lia | omega)), mx_eq, b8_lo (r1.getD 8).1 r3]
    (first | lia | omega)
  · rw [if_neg h2, hn3 h2] at h
    refine gen _ _ (fun k hk => findK_lt hk) hfl (fun k hk => ?_) h
    obtain ⟨r1, r2, r3⟩ := I.raw hk
    rw [setF_zip (by (first | lia | omega))]
    refine ⟨by rw [List.length_zipWith]; (first | lia | omega), zip_bd my_bd _ _ r1 hnb, ?_⟩
    rw [zip_at (by (first | lia | omega)) (by (first | lia | omega)), my_eq, b8_lo (hnb.getD 8).1 hn8]
    (first | lia | omega)
end
end Mine
end
section
namespace Mine
section
variable {prog : Program} {w : World} {A : Around} {E : Value → Shared → Prop} {s : Shared}
noncomputable def cutIn (a b : Nat) (new xs : Array Value) : Array Value := xs.extract 0 a ++ new ++ xs.extract b xs.size
theorem setSlice_at {l sl m : Addr} {items new : Array Value} {n k a b : Nat} {vl vu : Value} {Q : Unit → Shared → Prop} (ho : s.heap.get? l = some (listOf items n)) (hm : s.heap.get? m = some (listOf new k)) (hne : m ≠ l)
    (hs : s.heap.IsSliceOf sl vl vu .none) (pl : IsPart vl (some (a : Int))) (pu : IsPart vu (some (b : Int))) (hab : a ≤ b) (hb : b ≤ items.size) (hz : items.size + new.size ≤ sizeLine)
    (h : Q () { s with heap := s.heap.update l (Obj.mapSeq (cutIn a b new)) }) : wpAny (model prog w) A (setItem (.ref l) (.ref sl) (.ref m)) Q E s := by
  have hl : s.heap.IsList l items := PySem.IsL.isList (n := n) ho
  obtain ⟨os, hos, hcs, hds⟩ := id hs
  have hTs : s.TypeIs (.ref sl) "slice" := ⟨os, hos, hcs⟩
  have hTm : s.TypeIs (.ref m) "list" := ⟨_, hm, rfl⟩
  unfold setItem
  try with_reducible refine wpAny_holding ?_
  first | refine wpAny_bind (wpAny_pure ?_) | skip
  refine wpAny_bind (wpAny_sequenceKey hl.typeIs (by decide) ?_)
  refine wpAny_bind (wpAny_callSpecial?_slot (name := Str.ofString "__setitem__") hl.typeIs slot_list_setitem
    (wpAny_call_entry slot_list_setitem hl.typeIs entry_list_setitem ?_ (args_list_setitem _ _ _)))
  show wpAny _ _ (Builtin.List.listSubscript? (.ref sl) >>= _) _ _ s
  refine wpAny_bind ?_
  unfold Builtin.List.listSubscript?
  refine wpAny_bind (wpAny_specialOf hTs slice_no_index ?_)
  simp only [Option.isNone_none, if_true]
  refine wpAny_pure ?_
  show wpAny _ _ (typeOf (.ref sl) >>= _) _ _ s
  refine wpAny_bind (wpAny_typeOf hTs ?_)
  rw [if_neg (by decide)]
  rw [listSliceParts_eq]
  have hstep : ¬ ((rawPart none == rawInt 0) = true) := Bool.false_ne_true
  refine wpAny_bind (wpAny_bind (wpAny_field hos hds (x := .none) rfl (wpAny_bind (wpAny_listPart .none ?_))))
  rw [if_neg hstep]
  refine wpAny_bind (wpAny_field hos hds (x := vl) rfl (wpAny_bind (wpAny_listPart pl ?_)))
  refine wpAny_bind (wpAny_field hos hds (x := vu) rfl (wpAny_bind (wpAny_listPart pu (wpAny_pure ?_))))
  have hsame : Builtin.List.listSameRef (.ref l) (.ref m) = false := by
    show (l == m) = false
    simpa using Ne.symm hne
  dsimp only
  rw [hsame]
  simp only [Bool.false_eq_true, if_false]
  refine wpAny_bind (m := Builtin.List.listAllItems (.ref m) _) ?_
  unfold Builtin.List.listAllItems
  refine wpAny_bind (wpAny_typeOf hTm ?_)
  rw [if_pos (by decide)]
  refine listItems_at hm rfl ?_
  refine wpAny_bind (m := Builtin.List.listItems (.ref l)) ?_
  refine listItems_at ho rfl ?_
  refine wpAny_bind (wpAny_of_eq (sliceIndices_raw (some (a : Int)) (some (b : Int)) none items.size (by simp)) ?_)
  have e : sliceBounds (some (a : Int)) (some (b : Int)) none items.size = ((a : Int), (b : Int), 1) := by
    simp only [sliceBounds, Option.getD_none]
    have h1 : ¬ ((a : Int) < 0) := by (first | lia | omega)
    have h2 : ¬ ((b : Int) < 0) := by (first | lia | omega)
    simp only [h1, h2, if_false, show (1 : Int) > 0 by decide, if_true]
    rw [show max (0 : Int) (min (a : Int) (items.size : Int)) = (a : Int) by (first | lia | omega), show max (0 : Int) (min (b : Int) (items.size : Int)) = (b : Int) by (first | lia | omega)]
  rw [e]
  dsimp only
  rw [if_pos (by decide)]
  refine wpAny_bind (wpAny_rule ?_)
  have hlong : ¬ (Builtin.List.listTooLong (items.size + new.size) = true) := by
    unfold Builtin.List.listTooLong; simpa using hz
  rw [if_neg hlong]
  refine wpAny_bind (m := Builtin.List.listUpdate (.ref l) _) ?_
  have hmax : max (a : Int) (b : Int) = (b : Int) := by (first | lia | omega)
  rw [hmax]
  refine listUpdate_at (f := cutIn a b new) ho rfl ?_ (by (first | lia | omega)) (by
    unfold cutIn
    simp only [Array.size_append, Array.size_extract]
    (first | lia | omega))
  refine wpAny_bind (wpAny_letGo ?_)
  exact wpAny_pure ⟨_, rfl, wpAny_pure h⟩
theorem mapSeq_cut (items new : Array Value) (a b n : Nat) : ∃ n', Obj.mapSeq (cutIn a b new) (W.listOf items n) = W.listOf (cutIn a b new items) n' := ⟨_, rfl⟩
theorem ints_app : ∀ {vs : List Value} {l : List Int}, IntsAre vs l → ∀ {us : List Value} {m : List Int}, IntsAre us m → IntsAre (vs ++ us) (l ++ m)
  | _, _, .nil, _, _, h => h
  | _, _, .cons x t r, _, _, h => .cons x t (ints_app r h)
theorem putAt_cut : ∀ (o d : List Int) (p : Nat), p + o.length ≤ d.length → putAt d p o = d.take p ++ o ++ d.drop (p + o.length)
  | [], d, p, h => by simp [putAt]
  | x :: o, d, p, h => by
    rw [List.length_cons] at h
    rw [putAt, putAt_cut o (d.set p x) (p + 1) (by rw [List.length_set]; (first | lia | omega))]
    have e1 : (d.set p x).take (p + 1) = d.take p ++ [x] := by
      rw [List.take_add_one, List.take_set_of_le (Nat.le_refl _), List.getElem?_set_self (by (first | lia | omega))]
      rfl
    have e2 : (d.set p x).drop (p + 1 + o.length) = d.drop (p + (x :: o).length) := by
      rw [List.drop_set_of_lt (by (first | lia | omega)), List.length_cons]
      congr 1; (first | lia | omega)
    rw [e1, e2]
    simp
end

section
variable {c : Cfg} {n : Nat} {names : List (Str × NameKind)} {loc : Loc} {σ σ₁ σ₂ σ₃ : St}
/-- disk.data[a:b] = new -/
theorem st_dslice {o lo hi value : PySem.Expr} {p p' q : Pos} {new : List Int} {a b : Nat} (h₁ : EvTo c n names loc σ value (.ints new) σ₁) (h₂ : EvTo c n names loc σ₁ o .data σ₂) (h₃ : PartTo c n names loc σ₂ (some lo) (some a)) (h₄ : PartTo c n names loc σ₂ (some hi) (some b))
    (hab : b = a + new.length) (hb : b ≤ σ₂.data.length) (hz : σ₂.data.length + new.length ≤ sizeLine)
    (hs : ∀ env, swapsWith value (some (.Subscript o (.Slice (some lo) (some hi) none q) p')) p.line env = pure false := by intro _; rfl) :
    St1 c n names loc σ (.Assign [.Subscript o (.Slice (some lo) (some hi) none q) p'] value p) loc (σ₂.put a new) := fun K X ow A env s Q E hX W h =>
  wpAny_Assign_Subscript (h₁ K X ow A env s _ E hX W fun v h1 tk1 R1 k1 r1 => h₂ K X ow A env _ _ E hX (W.kp k1 R1 hX) fun v2 h2 tk2 R2 k2 r2 => by
    have W2 := (W.kp k1 R1 hX).kp k2 R2 hX
    refine wpAny_Slice (part_at h₃ K hX W2 fun vl h3 tk3 R3 k3 pl => ?_)
    have W3 := W2.kp k3 R3 hX
    refine part_at h₄ K hX W3 fun vu h4 tk4 R4 k4 pu => ?_
    rw [evalPart_none]
    refine wpAny_pure ?_
    have r1' := Rep.kp k4 (unX hX) _ _ (Rep.kp k3 (unX hX) _ _ (Rep.kp k2 (unX hX) _ _ r1))
    simp only [Rep] at r1' r2
    obtain ⟨x, rfl, hx, vs, m, e1, i1⟩ := r1'
    subst r2
    have R5 := rel_push R4 { cls := .type "slice", data := .fields #[vl, vu, .none] }
    obtain ⟨us, m', e2, i2⟩ := R5.data
    have l1 := ints_len i1
    have l2 := ints_len i2
    have hne : x ≠ c.D := fun z => hx (z ▸ R4.muts _ (.inl rfl))
    refine setSlice_at (a := a) (b := b) e2 (Heap.get?_push_of_some _ e1) hne (Heap.IsSliceOf.new ..) pl pu (by (first | lia | omega)) (by rw [List.size_toArray, l2]; exact hb) (by rw [List.size_toArray, List.size_toArray, l1, l2]; exact hz) ?_
    obtain ⟨m2, em⟩ := mapSeq_cut us.toArray vs.toArray a b m'
    have e' := Heap.get?_update_self (Obj.mapSeq (cutIn a b vs.toArray)) e2 (by rw [em]; rfl)
    rw [em] at e'
    have R' := rel_data (l := putAt σ₂.data a new) R5 (fun b' hb' => Heap.get?_update_other _ _ (Ne.symm hb')) ⟨us.take a ++ vs ++ us.drop b, m2, by
        rw [e']
        congr 2
        unfold cutIn
        apply Array.ext'
        simp [List.take_of_length_le], by
        rw [putAt_cut _ _ _ (by (first | lia | omega)), ← hab]
        exact ints_app (ints_app (i2.take a) i1) (i2.drop b)⟩
    have kk : Kp c.Mut s.heap _ := ((((k1.trans k2).trans k3).trans k4).trans (.push { cls := .type "slice", data := .fields #[vl, vu, .none] })).trans (.of_keeps (M := c.Mut) fun a' o' hm e => (Heap.get?_update_other _ (Obj.mapSeq (cutIn a b vs.toArray)) (fun q => hm (.inl q.symm))).trans e)
    exact h _ _ (W.kp kk R' hX) (kpF kk)) (hs env)
end
end Mine
end
section
namespace Mine
/-- the body of the law's second loop -/
noncomputable def tb : List Stmt := match (bd 58).getD 2 (.Pass default) with
  | .For _ _ b _ _ => b
  | _ => []
noncomputable def lbase : Loc := [("disk", .disk), ("feed", .feed)]
noncomputable def LA (f u a : Int) (r : Nat) (later : List Int) (i : Nat) : Loc := ("record", .int (r : Int)) :: ("later", .ints later) :: ("name", .ints (nmL a)) :: ("form", .int f) :: ("user", .int u) :: ("turn", .int (i : Int)) :: lbase
noncomputable def LC (f u a : Int) (r : Nat) (later : List Int) (i : Nat) (told : T) (lt o d : List Int) (ks : List Nat) : Loc := ("told", told) :: ("is_let", .ints lt) :: ("some", .ints (nats ks)) :: ("octets", .ints o) :: ("before", .ints d) :: LA f u a r later i
noncomputable def LD (f u a : Int) (r : Nat) (later : List Int) (i : Nat) (told : T) (lt o d : List Int) (ks : List Nat) (ch by' : List Int) : Loc := ("beyond", .ints by') :: ("changed", .ints ch) :: LC f u a r later i told lt o d ks

section
variable {c : Cfg} {n : Nat} {names : List (Str × NameKind)} {loc : Loc} {σ σ' σ₁ σ₂ : St} {P : SO → Prop}
theorem repL_strs {X : Addr → Prop} {h : Heap} : ∀ (l : List Str) (vs : List Value), RepL c X h (l.map T.str) vs → StrsAre vs l
  | [], vs, r => by simp only [List.map_nil, RepL] at r; subst r; exact .nil
  | x :: l, vs, r => by
    simp only [List.map_cons, RepL] at r
    obtain ⟨v, r', rfl, h1, h2⟩ := r
    simp only [Rep] at h1
    obtain ⟨t, rfl⟩ := h1
    exact .cons x t (repL_strs l r' h2)
theorem cmp_notin_strs {a : Str} {l : List Str} : CmpTo c n .NotIn (.str a) (.tup (l.map T.str)) (!(l.any (· == a))) := fun _ X A s v w Q E o r1 r2 h => by
  simp only [Rep] at r1 r2
  obtain ⟨t, rfl⟩ := r1; obtain ⟨y, ws, rfl, _, e2, i2⟩ := r2
  exact notin_tuple_strs ⟨_, e2, rfl, _, rfl⟩ (by simpa using repL_strs l ws i2) (h s.toks)
/-- a comparison's value is a bool: compared again -/
theorem words_in {w : Str} (h : w = "no file" ∨ w = "full" ∨ w = "directory full" ∨ w = "range") : (["no file", "full", "directory full", "range"] : List Str).any (· == w) = true := by
  rcases h with rfl | rfl | rfl | rfl <;> decide
theorem nats_nil {ks : List Nat} : nats ks = [] ↔ ks = [] := by unfold nats; simp
theorem nats_len {ks : List Nat} : (nats ks).length = ks.length := by unfold nats; simp

section
variable (T0 : Top0 c)
include T0
theorem t_other {f u a : Int} {r : Nat} {later lt o d : List Int} {i : Nat} {told : T} {ks : List Nat} {ch : List Int} (h0 : 0 < f) (ht : told = .int ks.length) (hk : ks.length ≤ 4) (hP : P (.next (LD f u a r later i told lt o d ks ch []) σ')) :
    Ex c 21 (nm 58) (LD f u a r later i told lt o d ks ch []) σ' (tb.drop 9) P := by
  subst ht
  refine ex_if (b := decide (0 < f) && ((((ks.length : Int) != ((nats ks).length : Int)) || ((!decide (([] : List Int) = [])) || false)) && true)) (ts_bool (all_cons (ts_cmp (t₁ := .int f) ev_l ev_int cmp_gt) (fun _ => all_cons (ts_bool (any_cons (ts_cmp (t₁ := .int (ks.length : Int)) ev_l (ev_bi T0.len (b_len_ints (l := nats ks) (by rw [nats_len]; (first | lia | omega))) (evs_cons ev_l evs_nil)) cmp_ne) (fun _ => any_cons (ts_cmp (t₁ := .ints []) ev_l (ev_ints (l := []) evs_nil rfl (by decide)) (cmp_ne_ints (by decide))) (fun _ => any_nil)))) (fun _ => all_nil))))
    (fun h => ?_) (fun _ => ex_nil ?_)
  · rw [nats_len] at h; simp at h
  refine ex_if (b := (f == 0) && true) (ts_bool (all_cons (ts_cmp (t₁ := .int f) ev_l ev_int cmp_eq) (fun h => absurd h (by simp; (first | lia | omega))))) (fun h => ?_) (fun _ => ex_nil ?_)
  · simp at h; (first | lia | omega)
  refine ex_if (b := (f == 0) && true) (ts_bool (all_cons (ts_cmp (t₁ := .int f) ev_l ev_int cmp_eq) (fun h => absurd h (by simp; (first | lia | omega))))) (fun h => ?_) (fun _ => ex_nil (ex_nil hP))
  · simp at h; (first | lia | omega)
theorem t_word {u a : Int} {r : Nat} {later lt o d : List Int} {i : Nat} {w : Str} {ks : List Nat} {ch : List Int} (hw : w = "no file" ∨ w = "full" ∨ w = "directory full" ∨ w = "range") (hn : ks = [] ↔ w = "no file")
    (hc : ch = [] ∨ (w = "full" ∧ ∃ m : Nat, m < 4 ∧ lt = rng (32 * (m : Int)) 32 ∧ d.getD (32 * m) 0 = 229)) (hd : d.length = 256) (hP : P (.next (LD 0 u a r later i (.str w) lt o d ks ch []) σ')) :
    Ex c 21 (nm 58) (LD 0 u a r later i (.str w) lt o d ks ch []) σ' (tb.drop 9) P := by
  refine ex_if (b := decide ((0 : Int) < 0) && true) (ts_bool (all_cons (ts_cmp (t₁ := .int 0) ev_l ev_int cmp_gt) (fun h => absurd h (by decide)))) (fun h => absurd h (by decide)) (fun _ => ex_nil ?_)
  refine ex_if (b := ((0 : Int) == 0) && (false && true)) (ts_bool (all_cons (ts_cmp (t₁ := .int 0) ev_l ev_int cmp_eq) (fun _ => all_cons (ts_cmp (t₁ := .str w) ev_l ev_int cmp_eq_si) (fun h => absurd h (by decide))))) (fun h => absurd h (by decide)) (fun _ => ex_nil ?_)
  refine ex_if (b := ((0 : Int) == 0) && (true && true)) (ts_bool (all_cons (ts_cmp (t₁ := .int 0) ev_l ev_int cmp_eq) (fun _ => all_cons (ts_cmp (t₁ := .str w) ev_l ev_int cmp_ne_si) (fun _ => all_nil)))) (fun _ => ?_) (fun h => absurd h (by decide))
  refine ex_if (b := (!((["no file", "full", "directory full", "range"] : List Str).any (· == w))) || ((decide (nats ks = []) != (w == "no file")) || false)) (ts_bool (any_cons (ts_cmp (t₁ := .str w) (t₂ := .tup ((["no file", "full", "directory full", "range"] : List Str).map T.str)) ev_l (ev_tup (evs_cons ev_str (evs_cons ev_str (evs_cons ev_str (evs_cons ev_str evs_nil)))) (by show 4 ≤ _; decide)) cmp_notin_strs)
      (fun _ => any_cons (ts_cmp (ev_cmp (t₁ := .ints (nats ks)) ev_l (ev_ints (l := []) evs_nil rfl (by decide)) (cmp_eq_ints (by decide))) (ev_cmp (t₁ := .str w) ev_l ev_str cmp_eq_str) cmp_ne_bool) (fun _ => any_nil)))) (fun h => ?_) (fun _ => ex_nil ?_)
  · exfalso
    rw [words_in hw] at h
    have e : decide (nats ks = []) = (w == "no file") := by
      rw [Bool.eq_iff_iff, decide_eq_true_eq, beq_iff_eq, nats_nil]; exact hn
    rw [e] at h
    simp at h
  rcases hc with hc | ⟨hw2, m, hm, hl, hf⟩
  · subst hc
    refine ex_if (b := (!decide (([] : List Int) = [])) || (((!decide (([] : List Int) = [])) && true) || false)) (ts_bool (any_cons (ts_cmp (t₁ := .ints []) ev_l (ev_ints (l := []) evs_nil rfl (by decide)) (cmp_ne_ints (by decide))) (fun _ => any_cons (ts_bool (all_cons (ts_cmp (t₁ := .ints []) ev_l (ev_ints (l := []) evs_nil rfl (by decide)) (cmp_ne_ints (by decide))) (fun h => absurd h (by decide)))) (fun _ => any_nil))))
      (fun h => absurd h (by decide)) (fun _ => ex_nil (ex_nil (ex_nil hP)))
  · subst hw2
    have h00 : lt.getD 0 0 = 32 * (m : Int) := by rw [hl]; unfold rng; simp
    have hlen : lt.length = 32 := by rw [hl, rng_len]
    refine ex_if (b := (!decide (([] : List Int) = [])) || (((!decide (ch = [])) && (((("full" : Str) != "full") || ((d.getD (32 * (m : Int)).toNat 0 != 229) || false)) && true)) || false)) (ts_bool (any_cons (ts_cmp (t₁ := .ints []) ev_l (ev_ints (l := []) evs_nil rfl (by decide)) (cmp_ne_ints (by decide)))
      (fun _ => any_cons (ts_bool (all_cons (ts_cmp (t₁ := .ints ch) ev_l (ev_ints (l := []) evs_nil rfl (by decide)) (cmp_ne_ints (by decide))) (fun _ => all_cons (ts_bool (any_cons (ts_cmp (t₁ := .str "full") ev_l ev_str cmp_ne_str)
        (fun _ => any_cons (ts_cmp (ev_item (l := d) (i := 32 * (m : Int)) ev_c (by rw [← h00]; exact ev_item (l := lt) (i := 0) ev_c ev_int (by decide) (by (first | lia | omega)) (by (first | lia | omega))) (by (first | lia | omega)) (by (first | lia | omega)) (by (first | lia | omega))) ev_int cmp_ne) (fun _ => any_nil)))) (fun _ => all_nil)))) (fun _ => any_nil))))
      (fun h => ?_) (fun _ => ex_nil (ex_nil (ex_nil hP)))
    exfalso
    rw [show (32 * (m : Int)).toNat = 32 * m by (first | lia | omega), hf] at h
    have e : (("full" : Str) != "full") = false := by decide
    rw [e] at h
    simp at h
end
end
end Mine
end
section
namespace Mine
theorem rng_at {a : Int} {k j : Nat} (hj : j < k) : (rng a k).getD j 0 = a + (j : Int) := by
  unfold rng
  rw [List.getD_eq_getElem?_getD, List.getElem?_map, List.getElem?_range hj]
  rfl
section
variable {c : Cfg} {σ' : St} {P : SO → Prop} (T0 : Top0 c)
include T0
theorem t_wrote {u a : Int} {r : Nat} {later o d : List Int} {i : Nat} {ks : List Nat} {ch by' : List Int} {m b : Nat} (hu : u ≠ 229) (hD : σ'.data.length = 256) (ho : o.length = 16) (hbl : by'.length ≤ 1000) (hk : ks ≠ []) (hm : m < 4) (hb : b < 8)
    (hd : σ'.data.getD (32 * m + (16 + r % 32 / 2)) 0 = (b : Int))
    (h1 : ∀ j, j < 16 → (rng (32 * (m : Int)) 32).any (· == ((32 * b + 16 * (r % 2) + j : Nat) : Int)) = false → σ'.data.getD (32 * b + 16 * (r % 2) + j) 0 = o.getD j 0)
    (h2 : ∀ x ∈ by', ((32 * b + 16 * (r % 2) : Nat) : Int) ≤ x ∧ x < ((32 * b + 16 * (r % 2) : Nat) : Int) + 16)
    (h3 : 3 < b → extK σ'.data u (nmL a) ((r / 32 : Nat) : Int) = some m ∧ ((r % 32 : Nat) : Int) < (row σ'.data m).getD 15 0 ∧ (mapK σ'.data m).getD (r % 32 / 2) 0 = (b : Int) ∧ recd σ'.data (32 * b + 16 * (r % 32 % 2)) = o)
    (hP : P (.next (LD 0 u a r later i (.int 1) (rng (32 * (m : Int)) 32) o d ks ch by') σ')) :
    Ex c 21 (nm 58) (LD 0 u a r later i (.int 1) (rng (32 * (m : Int)) 32) o d ks ch by') σ' (tb.drop 9) P := by
  have hix : r % 32 / 2 < 16 := by (first | lia | omega)
  have hrl : (rng (32 * (m : Int)) 32).length = 32 := rng_len
  have hat : (rng (32 * (m : Int)) 32).getD (16 + r % 32 / 2) 0 = ((32 * m + (16 + r % 32 / 2) : Nat) : Int) := by rw [rng_at (by (first | lia | omega))]; (first | lia | omega)
  have hi : ((r : Int).fmod 32).fdiv 2 = ((r % 32 / 2 : Nat) : Int) := by
    rw [Int.fmod_eq_emod_of_nonneg _ (by decide), Int.fdiv_eq_ediv_of_nonneg _ (by decide)]; (first | lia | omega)
  refine ex_if (b := decide ((0 : Int) < 0) && true) (ts_bool (all_cons (ts_cmp (t₁ := .int 0) ev_l ev_int cmp_gt) (fun h => absurd h (by decide)))) (fun h => absurd h (by decide)) (fun _ => ex_nil ?_)
  refine ex_if (b := ((0 : Int) == 0) && (((1 : Int) == 1) && true)) (ts_bool (all_cons (ts_cmp (t₁ := .int 0) ev_l ev_int cmp_eq) (fun _ => all_cons (ts_cmp (t₁ := .int 1) ev_l ev_int cmp_eq) (fun _ => all_nil)))) (fun _ => ?_) (fun h => absurd h (by decide))
  refine ex_if (b := decide (nats ks = []) || ((!true) || false)) (ts_bool (any_cons (ts_cmp (t₁ := .ints (nats ks)) ev_l (ev_ints (l := []) evs_nil rfl (by decide)) (cmp_eq_ints (by decide)))
      (fun _ => any_cons (ts_not (ts_val (ev_fn T0 57 (c_57 T0 (el := rng (32 * (m : Int)) 32) (o := o) (bl := by') (r := r) (b := b) hD hrl ho hbl hb (by rw [hat]; (first | lia | omega)) (by rw [hat]; (first | lia | omega)) (by rw [hat]; exact hd) h1 h2) (evs_cons ev_c (evs_cons ev_c (evs_cons ev_l (evs_cons ev_l (evs_cons ev_l evs_nil)))))))) (fun _ => any_nil))))
    (fun h => ?_) (fun _ => ex_nil ?_)
  · rw [decide_eq_false (fun q => hk (nats_nil.mp q))] at h
    exact absurd h (by decide)
  have hb3 : ∀ {p1 p2 p3 p4 p5 p6 p7 p8 p9 p10 p11 p12 p13 p14 : Pos} {k1 k2 k3 k4 : Nat}, TsTo c 21 (nm 58) (LD 0 u a r later i (.int 1) (rng (32 * (m : Int)) 32) o d ks ch by') σ'
      (.Compare (.Subscript (.Attribute (.Name "disk" p1) "data" p2) (.Subscript (.Name "is_let" p3) (.BinOp (.Constant (.int 16) k1 p4) .Add (.BinOp (.BinOp (.Name "record" p5) .Mod (.Constant (.int 32) k2 p6) p7) .FloorDiv (.Constant (.int 2) k3 p8) p9) p10) p11) p12) [.Gt] [.Constant (.int 3) k4 p13] p14) (decide ((3 : Int) < (b : Int))) σ' := fun {p1 p2 p3 p4 p5 p6 p7 p8 p9 p10 p11 p12 p13 p14 k1 k2 k3 k4} =>
    ts_cmp (t₁ := .int (b : Int)) (by
      have e : (b : Int) = σ'.data.getD (((32 * m + (16 + r % 32 / 2) : Nat) : Int)).toNat 0 := by rw [← hd]; rfl
      rw [e]
      refine ev_ditem (i := ((32 * m + (16 + r % 32 / 2) : Nat) : Int)) (ev_data T0.DA ev_c) ?_ (by (first | lia | omega)) (by rw [hD]; (first | lia | omega)) (by rw [hD]; decide)
      rw [← hat]
      refine ev_item (l := rng (32 * (m : Int)) 32) (i := ((16 + r % 32 / 2 : Nat) : Int)) ev_c (by
        have e2 : ((16 + r % 32 / 2 : Nat) : Int) = 16 + ((r : Int).fmod 32).fdiv 2 := by rw [hi]; (first | lia | omega)
        rw [e2]
        exact ev_add ev_int (ev_fdiv (ev_mod (a := (r : Int)) ev_l ev_int (by decide)) ev_int (by decide) (by decide))) (by (first | lia | omega)) (by (first | lia | omega)) (by (first | lia | omega))) ev_int cmp_gt
  by_cases hb4 : 3 < b
  · obtain ⟨q1, q2, q3, q4⟩ := h3 hb4
    refine ex_if (b := decide ((3 : Int) < (b : Int)) && ((!decide (recd σ'.data (32 * b + 16 * (r % 32 % 2)) = o)) && true)) (ts_bool (all_cons hb3 (fun _ => all_cons (ts_cmp (ev_fn T0 49 (c_49 T0 (pat := nmL a) (r := r) (k := m) (b := b) hu (by rw [nmL_len]; decide) hD q1 hm q2 q3 (by (first | lia | omega)) hb) (evs_cons ev_c (evs_cons ev_l (evs_cons ev_l (evs_cons ev_l evs_nil))))) ev_l (cmp_ne_ints (by decide))) (fun _ => all_nil))))
      (fun h => ?_) (fun _ => ex_nil (ex_nil ?_))
    · rw [q4] at h; simp at h
    · exact ex_if (b := ((0 : Int) == 0) && (((1 : Int) != 1) && true)) (ts_bool (all_cons (ts_cmp (t₁ := .int 0) ev_l ev_int cmp_eq) (fun _ => all_cons (ts_cmp (t₁ := .int 1) ev_l ev_int cmp_ne) (fun h => absurd h (by decide))))) (fun h => absurd h (by decide)) (fun _ => ex_nil (ex_nil hP))
  · refine ex_if (b := decide ((3 : Int) < (b : Int)) && true) (ts_bool (all_cons hb3 (fun h => absurd h (by simp; (first | lia | omega))))) (fun h => ?_) (fun _ => ex_nil (ex_nil ?_))
    · simp at h; (first | lia | omega)
    · exact ex_if (b := ((0 : Int) == 0) && (((1 : Int) != 1) && true)) (ts_bool (all_cons (ts_cmp (t₁ := .int 0) ev_l ev_int cmp_eq) (fun _ => all_cons (ts_cmp (t₁ := .int 1) ev_l ev_int cmp_ne) (fun h => absurd h (by decide))))) (fun h => absurd h (by decide)) (fun _ => ex_nil (ex_nil hP))
end
end Mine
end
section
namespace Mine
section
variable {c : Cfg} {n : Nat} {names : List (Str × NameKind)} {loc loc' : Loc} {σ σ' σ₁ σ₂ : St} {P : SO → Prop} {X ow : Addr → Prop} {A : Around} {env : Env} {h : Heap}
/-- a name's list of ints, said otherwise -/
theorem Act.ints {x : Str} {l : List Int} (W : Act c X ow A n env names ((x, .list (l.map T.int)) :: loc) σ h) : Act c X ow A n env names ((x, .ints l) :: loc) σ h := by
  have key : ∀ y t, ((x, T.ints l) :: loc).lookup y = some t → t ≠ .dead → ∃ t₀, ((x, T.list (l.map T.int)) :: loc).lookup y = some t₀ ∧ t₀ ≠ .dead ∧ ∀ v, VRep c X ow h t₀ v → VRep c X ow h t v := by
    intro y t e d
    by_cases hy : y = x
    · subst hy
      rw [lookup_cons_eq] at e; cases e
      refine ⟨_, lookup_cons_eq, (fun z => nomatch z), fun v r => ?_⟩
      have r : Rep c (Un X ow) h (.list (l.map T.int)) v := r
      simp only [Rep] at r
      obtain ⟨a, vs, k, rfl, hx, e, rr⟩ := r
      refine VRep.of ?_
      simp only [Rep]
      exact ⟨a, rfl, hx, vs, k, e, repL_ints l vs rr⟩
    · rw [lookup_cons_ne hy] at e
      exact ⟨t, by rw [lookup_cons_ne hy]; exact e, d, fun _ r => r⟩
  exact { W with fr := ⟨let ⟨m, a, b⟩ := W.fr.ns; ⟨m, a, fun y t e d q => let ⟨t₀, e0, d0, r0⟩ := key y t e d; let ⟨v, hv, r⟩ := b y t₀ e0 d0 q; ⟨v, hv, r0 v r⟩⟩,
    fun y t e d q => let ⟨t₀, e0, d0, r0⟩ := key y t e d; let ⟨a, v, h1, h2, r⟩ := W.fr.cells y t₀ e0 d0 q; ⟨a, v, h1, h2, r0 v r⟩, W.fr.cellAt, W.fr.apart, W.fr.has⟩ }
theorem ex_ints {x : Str} {l : List Int} {ts : List T} {ss : List Stmt} (h : Ex c n names ((x, .ints l) :: loc) σ ss P) (hl : ts = l.map T.int) : Ex c n names ((x, .list ts) :: loc) σ ss P := by
  subst hl
  exact fun K X ow A env s Q E hX W R => h K X ow A env s Q E hX W.ints R

section
variable (T0 : Top0 c)
include T0
/-- the turn, behind the deed -/
theorem t_rest {f u a : Int} {r : Nat} {later o : List Int} {i : Nat} {told : T} (hu : u ≠ 229) (hf : 0 ≤ f) (hr : r < 1000) (ho : o.length = 16) (I : Inv σ.data) (I' : Inv σ'.data) (hT : Told σ σ' f u a r o told) (hP : ∀ loc', Sub loc' lbase → P (.next loc' σ')) :
    Ex c 21 (nm 58) (LC f u a r later i told (letL σ.data f (likeK σ.data u (nmL a) 4) ((r / 32 : Nat) : Int)) o σ.data (likeK σ.data u (nmL a) 4)) σ' (tb.drop 7) P := by
  obtain ⟨lt, hlt⟩ : ∃ lt, letL σ.data f (likeK σ.data u (nmL a) 4) ((r / 32 : Nat) : Int) = lt := ⟨_, rfl⟩
  obtain ⟨ks, hks⟩ : ∃ ks, likeK σ.data u (nmL a) 4 = ks := ⟨_, rfl⟩
  have hk4 : ks.length ≤ 4 := hks ▸ likeK_len
  have hlt' := hlt
  rw [hks] at hlt'
  have hll : lt.length ≤ 100 := hlt' ▸ letL_len hk4
  rw [hlt, hks]
  refine ex_step (st_comp (us := (chg σ.data σ'.data).map T.int) (iter_range1 T0.range.1 T0.range.2 rfl (k := 256) ev_int (by decide) (by decide)) (compOk_of (cap := [("disk", .disk), ("before", .ints σ.data)]) rfl (by
      intro q hq
      simp only [List.mem_cons, List.not_mem_nil, or_false] at hq
      rcases hq with rfl | rfl <;> exact ⟨rfl, rfl, rfl⟩))
    (els_filter (rng 0 256) (q := fun i => σ'.data.getD i.toNat 0 != σ.data.getD i.toNat 0) (fun z hz => by
      obtain ⟨h0, h1⟩ := rng_mem.mp hz
      refine ts_cmp (ev_ditem (i := z) (ev_data T0.DA ev_c) ev_l h0 (by rw [I'.len]; (first | lia | omega)) (by rw [I'.len]; decide)) (ev_item (l := σ.data) (i := z) ev_c ev_l h0 (by rw [I.len]; (first | lia | omega)) (by rw [I.len]; decide)) cmp_ne) (fun z _ => ev_l))
    (fun b hb => by
      obtain ⟨i, _, rfl⟩ := List.mem_map.mp hb
      exact ⟨.inl rfl, .inl rfl, trivial⟩) (by rw [List.length_map, rng_len]; decide) rfl (fun env h1 h2 => by
        obtain ⟨⟨k, ns, g, co, mo⟩, a1, a2, a3, a4, a5, a6, a7, a8⟩ := env
        have h1 : k = .function := h1
        have h2 : ns = nm 58 := h2
        subst h1 h2; rfl)) (ex_ints ?_ rfl)
  refine ex_step (st_comp (us := (bey (chg σ.data σ'.data) lt).map T.int) (iter_ints (l := chg σ.data σ'.data) ev_l) (compOk_of (cap := [("is_let", .ints lt)]) rfl (by
      intro q hq
      obtain rfl := List.mem_singleton.mp hq
      exact ⟨rfl, rfl, rfl⟩))
    (els_filter (chg σ.data σ'.data) (q := fun i => !(lt.any (· == i))) (fun z hz => ts_cmp ev_l (ev_c (t := .ints lt)) cmp_notin) (fun z _ => ev_l))
    (fun b hb => by
      obtain ⟨i, _, rfl⟩ := List.mem_map.mp hb
      exact ⟨.inl rfl, trivial⟩) (by rw [List.length_map, sizeLine_eq]; have := chg_len (d := σ.data) (d' := σ'.data); (first | lia | omega)) rfl (fun env h1 h2 => by
        obtain ⟨⟨k, ns, g, co, mo⟩, a1, a2, a3, a4, a5, a6, a7, a8⟩ := env
        have h1 : k = .function := h1
        have h2 : ns = nm 58 := h2
        subst h1 h2; rfl)) (ex_ints ?_ rfl)
  have fin : ∀ {told lt by'}, P (.next (LD f u a r later i told lt o σ.data ks (chg σ.data σ'.data) by') σ') := hP _ ⟨.inl rfl, .inl rfl, trivial⟩
  cases hT with
  | other h0 ht hb =>
    rw [hlt] at hb
    rw [hks] at ht
    rw [hb]
    exact t_other T0 (by (first | lia | omega)) ht hk4 fin
  | wrote n b h0 ht hk hl hn hb hd h1 h2 h3 =>
    rw [hlt] at hl
    subst hl h0 ht
    rw [hks] at hk
    exact t_wrote T0 hu I'.len ho (Nat.le_trans bey_len (by decide)) hk hn hb hd h1 h2 h3 fin
  | word w h0 ht hw hn hb hc =>
    rw [hlt] at hb
    rw [hks] at hn
    rw [hb]
    subst h0 ht
    refine t_word T0 hw hn ?_ I.len fin
    rcases hc with hc | ⟨e, m, h4, hl, hf⟩
    · exact .inl hc
    · rw [hlt] at hl; exact .inr ⟨e, m, h4, hl, hf⟩
end
end
end Mine
end
section
namespace Mine
/-- the octets of a turn's record -/
noncomputable def octL (i : Nat) : List Int := (rng 0 16).map fun z => (17 * (i : Int) + 3 * z + 1).fmod 256
theorem octL_len {i : Nat} : (octL i).length = 16 := by unfold octL; rw [List.length_map, rng_len]
theorem octL_bd {i : Nat} (hi : i < 4) : ∀ x ∈ octL i, 0 ≤ x ∧ x < 128 := fun x hx => by
  unfold octL at hx
  obtain ⟨z, hz, rfl⟩ := List.mem_map.mp hx
  obtain ⟨h0, h1⟩ := rng_mem.mp hz
  have h2 : 0 ≤ 17 * (i : Int) + 3 * z + 1 := by (first | lia | omega)
  have h3 : 17 * (i : Int) + 3 * z + 1 < 128 := by (first | lia | omega)
  rw [Int.fmod_eq_emod_of_nonneg _ (by decide), Int.emod_eq_of_lt h2 (by (first | lia | omega))]
  exact ⟨h2, h3⟩
theorem nmL_cut {a : Int} : cut (nmL a) none (some 9) ++ [160, 32] = [a, 32, 32, 32, 32, 32, 32, 32, 32, 160, 32] := rfl

section
variable {c : Cfg} {σ σ' : St} {P : SO → Prop} (T0 : Top0 c) (RO : RaiseOk c) (EO : ErrOk c)
include T0 RO EO
/-- the turn, behind the draws -/
theorem t_mid {f u a : Int} {r : Nat} {later : List Int} {i : Nat} (hi : i < 4) (hu : 0 ≤ u ∧ u < 229) (hf : 0 ≤ f) (ha : a = 65 ∨ a = 66) (hr : r < 1000) (I : Inv σ.data) (hl : later.length = 11) (hlb : Bd later) (hl8 : later.getD 8 0 < 128) (hl3 : f ≠ 2 → later.map (fun a => band a 127) = nmL a)
    (hP : ∀ loc' σ', Sub loc' lbase → Inv σ'.data → σ'.turn = σ.turn → σ'.cells = σ.cells → P (.next loc' σ')) :
    Ex c 21 (nm 58) (LA f u a r later i) σ (tb.drop 3) P := by
  refine ex_step (st_unpack (t := .ints (octL i)) (u := .ints σ.data) (ev_tup (evs_cons (ev_as_ints (ev_comp (us := (rng 0 16).map fun z => T.int ((17 * (i : Int) + 3 * z + 1).fmod 256)) (iter_range1 T0.range.1 T0.range.2 rfl (k := 16) ev_int (by decide) (by decide))
      (compOk_of (cap := [("turn", .int (i : Int))]) rfl (by intro q hq; obtain rfl := List.mem_singleton.mp hq; exact ⟨rfl, rfl, rfl⟩))
      (els_one (rng 0 16) fun z hz => ev_mod (ev_add (ev_add (ev_mul (b := (i : Int)) ev_int ev_c (.of_left (by decide))) (ev_mul (b := z) ev_int ev_l (.of_left (by decide)))) ev_int) ev_int (by decide))
      (fun b hb => by
        obtain ⟨i, _, rfl⟩ := List.mem_map.mp hb
        exact ⟨.inl rfl, trivial⟩) (by rw [List.length_map, rng_len]; decide)) (by unfold octL; rw [List.map_map]; rfl))
      (evs_cons (ev_bi T0.list (b_dlist (by rw [I.len]; decide)) (evs_cons (ev_data T0.DA ev_c) evs_nil)) evs_nil)) (by show 2 ≤ _; decide)) (.inl rfl) (.inr rfl) (hw := fun env h1 h2 => by
        obtain ⟨⟨k, ns, g, co, mo⟩, a1, a2, a3, a4, a5, a6, a7, a8⟩ := env
        have h1 : k = .function := h1
        have h2 : ns = nm 58 := h2
        subst h1 h2; rfl)) ?_
  refine ex_sub (loc' := ("octets", .ints (octL i)) :: ("before", .ints σ.data) :: LA f u a r later i) ⟨.inl rfl, .inl rfl, .inl rfl, .inl rfl, .inl rfl, .inl rfl, .inl rfl, .inl rfl, .inl rfl, .inl rfl, trivial⟩ ?_
  have hlike : (likeK σ.data u (nmL a) 4).length ≤ 4 := likeK_len
  have hfl := find_like I.len (u := u) ha
  refine ex_step (st_assign (t := .ints (nats (likeK σ.data u (nmL a) 4))) (ev_as_ints (ev_fn T0 54 (c_54 T0 (u := u) (name := nmL a) (by rw [nmL_len]; decide) I.len) (evs_cons ev_c (evs_cons ev_l (evs_cons ev_l evs_nil)))) (by unfold nats; rw [List.map_map]; rfl)) (.inl rfl)) ?_
  refine ex_step (st_assign (t := .ints (letL σ.data f (likeK σ.data u (nmL a) 4) ((r / 32 : Nat) : Int))) (ev_fn T0 56 (c_56 T0 (form := f) (ks := likeK σ.data u (nmL a) 4) (r := r) hf I.len hlike (fun k hk => by
      rw [← hfl] at hk
      have := findK_mem.mp hk
      exact ⟨this.1, by rw [this.2.1]; (first | lia | omega)⟩)) (evs_cons ev_c (evs_cons ev_l (evs_cons ev_l (evs_cons ev_l evs_nil))))) (.inr rfl)) ?_
  refine ex_assign_call (T0.fn 55 rfl).1 (T0.fn 55 rfl).2.isFn rfl (ts := [.disk, .int f, .int u, .ints (nmL a), .ints later, .int (r : Int), .ints (octL i)]) (evs_cons ev_c (evs_cons ev_l (evs_cons ev_l (evs_cons ev_l (evs_cons ev_l (evs_cons ev_l (evs_cons ev_l evs_nil)))))))
    ((c_55 T0 RO EO (form := f) (u := u) (pat := nmL a) (nw := later) (o := octL i) (r := r) (by (first | lia | omega)) (by rw [nmL_len]; decide) hl octL_len I.len I.no (renF_idem hl) (setF_idem hl)).up (by decide)) (.inl rfl) (fun t σ' p => ?_) (fun w σ' p => ?_)
  · obtain ⟨told, σ'', e, i1, i2, i3, i4⟩ := told_of I hf hu ha hr octL_len (octL_bd hi) hl hlb hl8 hl3 p
    cases e
    exact t_rest T0 (by (first | lia | omega)) hf hr octL_len I i1 i4 fun loc' hs => hP loc' _ hs i1 i2 i3
  · obtain ⟨told, σ'', e, _⟩ := told_of I hf hu ha hr octL_len (octL_bd hi) hl hlb hl8 hl3 p
    cases e
end
end Mine
end
section
namespace Mine
noncomputable def recsL : List Int := [0, 1, 2, 33, 96]
theorem recs_nat {d : Int} (h0 : 0 ≤ d) (h1 : d < 5) : ∃ r : Nat, r < 1000 ∧ (r : Int) = recsL.getD d.toNat 0 := by
  have : d = 0 ∨ d = 1 ∨ d = 2 ∨ d = 3 ∨ d = 4 := by (first | lia | omega)
  rcases this with rfl | rfl | rfl | rfl | rfl
  · exact ⟨0, by decide, rfl⟩
  · exact ⟨1, by decide, rfl⟩
  · exact ⟨2, by decide, rfl⟩
  · exact ⟨33, by decide, rfl⟩
  · exact ⟨96, by decide, rfl⟩
noncomputable def laterL (b : Int) : List Int := ([65 + b] ++ List.replicate (9 : Int).toNat 32) ++ [160]
theorem later_1 {b : Int} (h0 : 0 ≤ b) (h1 : b < 3) : (laterL b).length = 11 ∧ Bd (laterL b) ∧ (laterL b).getD 8 0 < 128 := by
  refine ⟨rfl, ?_, by show (32 : Int) < 128; decide⟩
  exact ((Bd.cons (by (first | lia | omega)) .nil).app (.rep ⟨by decide, by decide⟩)).app (.cons ⟨by decide, by decide⟩ .nil)
theorem later_2 {a : Int} (ha : a = 65 ∨ a = 66) : (cut (nmL a) none (some 9) ++ [160, 32]).length = 11 ∧ Bd (cut (nmL a) none (some 9) ++ [160, 32]) ∧ (cut (nmL a) none (some 9) ++ [160, 32]).getD 8 0 < 128 ∧ (cut (nmL a) none (some 9) ++ [160, 32]).map (fun a => band a 127) = nmL a := by
  rw [nmL_cut]
  refine ⟨rfl, ?_, by show (32 : Int) < 128; decide, ?_⟩
  · intro x hx
    simp only [List.mem_cons, List.not_mem_nil, or_false] at hx
    (first | lia | omega)
  · rcases ha with rfl | rfl <;> decide +kernel

theorem entD_data {σ : St} : (entD σ).2.data = σ.data ∧ (entD σ).2.cells = σ.cells := by
  unfold entD; split <;> exact ⟨rfl, rfl⟩
theorem entD_turn {σ : St} : σ.turn ≤ (entD σ).2.turn ∧ (entD σ).2.turn ≤ σ.turn + 6 := by
  unfold entD
  split
  · show σ.turn ≤ σ.turn + 1 ∧ σ.turn + 1 ≤ _; (first | lia | omega)
  · show σ.turn ≤ σ.turn + 1 + 1 + 1 + 1 + 1 + 1 ∧ σ.turn + 1 + 1 + 1 + 1 + 1 + 1 ≤ _; (first | lia | omega)
theorem entD_row {σ : St} : (entD σ).1.length = 32 ∧ Bd (entD σ).1 ∧ (entD σ).1.getD 9 0 < 128 := by
  have hl : Bd letters := by unfold letters; intro x hx; simp only [List.mem_cons, List.not_mem_nil, or_false] at hx; (first | lia | omega)
  have hp : Bd places := by unfold places; intro x hx; simp only [List.mem_cons, List.not_mem_nil, or_false] at hx; (first | lia | omega)
  unfold entD
  split
  · exact ⟨rfl, (Bd.cons ⟨by decide, by decide⟩ .nil).app (.rep ⟨by decide, by decide⟩), by show (7 : Int) < 128; decide⟩
  · refine ⟨rfl, ?_, by show (32 : Int) < 128; decide⟩
    have b1 := draw_bd (σ := σ.adv.adv.adv.adv) (m := 3) (by decide)
    have b2 := draw_bd (σ := σ.adv.adv.adv.adv.adv) (m := 5) (by decide)
    have b0 : 0 ≤ (draw σ 6).fmod 2 ∧ (draw σ 6).fmod 2 < 256 := by rw [Int.fmod_eq_emod_of_nonneg _ (by decide)]; (first | lia | omega)
    have z : (0 : Int) ≤ 0 ∧ (0 : Int) < 256 := ⟨by decide, by decide⟩
    exact ((((Bd.cons b0 .nil).app ((Bd.cons (hl.getD _) .nil).app (.rep ⟨by decide, by decide⟩))).app (.cons ⟨b1.1, by (first | lia | omega)⟩ (.cons z (.cons z (.cons ⟨b2.1, by (first | lia | omega)⟩ .nil)))))).app
      ((Bd.cons (hp.getD _) (.cons (hp.getD _) .nil)).app (.rep z))

section
variable {c : Cfg} {σ σ' : St} {P : SO → Prop} (T0 : Top0 c)
include T0
theorem ev_dr {names : List (Str × NameKind)} {loc : Loc} {fp p : Pos} {kk : Nat} {cp : Pos} {m d : Int} {e : PySem.Expr} (hd : draw σ m = d) (he : EvTo c 21 names loc σ e .feed σ) (hm : 0 < m) (h : TurnOk σ 0) (hk : names.lookup ("_law_next" : Str) = some .globalImplicit) (hs : ∀ env, starEach [e, .Constant (.int m) kk cp] env = (false, eval e env) :: starEach [.Constant (.int m) kk cp] env := by intro _; rfl) :
    EvTo c 21 names loc σ (.Call (.Name "_law_next" fp) [e, .Constant (.int m) kk cp] [] p) (.int d) σ.adv :=
  hd ▸ ev_fn T0 52 (c_52' T0 hm h) (evs_cons he (evs_cons ev_int evs_nil) hs) (hk := hk) (hs := hs)
variable (RO : RaiseOk c) (EO : ErrOk c)
include RO EO
set_option maxHeartbeats 2000000 in
theorem law_turn {i : Nat} (hi : i < 4) (I : Inv σ.data) (h0 : 0 ≤ σ.turn) (ht : σ.turn + 10 < 100000) (hc : σ.cells.length ≤ 63)
    (hP : ∀ loc' σ', Sub loc' lbase → Inv σ'.data → σ'.turn = σ.turn + 5 → σ'.cells = σ.cells → P (.next loc' σ')) : Ex c 21 (nm 58) (("turn", .int (i : Int)) :: lbase) σ tb P := by
  have t0 : TurnOk σ 5 := ⟨h0, by (first | lia | omega), hc⟩
  have t1 : TurnOk σ.adv 4 := t0.adv
  have t2 : TurnOk σ.adv.adv 3 := t1.adv
  have t3 : TurnOk σ.adv.adv.adv 2 := t2.adv
  have t4 : TurnOk σ.adv.adv.adv.adv 1 := t3.adv
  have z : ∀ {σ : St} {k : Int}, TurnOk σ k → 0 ≤ k → TurnOk σ 0 := fun t hk => ⟨t.h0, by have := t.h1; (first | lia | omega), t.hc⟩
  have b0 := draw_bd (σ := σ) (m := 4) (by decide)
  have b1 := draw_bd (σ := σ.adv) (m := 2) (by decide)
  have b2 := draw_bd (σ := σ.adv.adv) (m := 2) (by decide)
  have b3 := draw_bd (σ := σ.adv.adv.adv) (m := 3) (by decide)
  have b4 := draw_bd (σ := σ.adv.adv.adv.adv) (m := 5) (by decide)
  obtain ⟨f, hf⟩ : ∃ d, draw σ 4 = d := ⟨_, rfl⟩
  obtain ⟨u, hu⟩ : ∃ d, draw σ.adv 2 = d := ⟨_, rfl⟩
  obtain ⟨d2, hd2⟩ : ∃ d, draw σ.adv.adv 2 = d := ⟨_, rfl⟩
  obtain ⟨d3, hd3⟩ : ∃ d, draw σ.adv.adv.adv 3 = d := ⟨_, rfl⟩
  obtain ⟨d4, hd4⟩ : ∃ d, draw σ.adv.adv.adv.adv 5 = d := ⟨_, rfl⟩
  rw [hf] at b0
  rw [hu] at b1
  rw [hd2] at b2
  rw [hd3] at b3
  rw [hd4] at b4
  obtain ⟨a, ha⟩ : ∃ a, 65 + d2 = a := ⟨_, rfl⟩
  have ha' : a = 65 ∨ a = 66 := by (first | lia | omega)
  obtain ⟨r, hr, hre⟩ := recs_nat b4.1 b4.2
  have l5 : recsL.length = 5 := rfl
  refine ex_step (st_tup2s (t := .int f) (u := .int u) (σ₁ := σ.adv.adv) (ev_tup (evs_cons (ev_dr T0 hf ev_l (by decide) (z t0 (by decide)) rfl) (evs_cons (ev_dr T0 hu ev_l (by decide) (z t1 (by decide)) rfl) evs_nil)) (by show 2 ≤ _; decide)) (.inl rfl) (.inl rfl) (hw := fun env h1 h2 => by
        obtain ⟨⟨k, ns, g, co, mo⟩, a1, a2, a3, a4, a5, a6, a7, a8⟩ := env
        have h1 : k = .function := h1
        have h2 : ns = nm 58 := h2
        subst h1 h2; rfl)) ?_
  refine ex_step (st_tup2s (t := .ints (nmL a)) (u := .ints (laterL d3)) (σ₁ := σ.adv.adv.adv.adv) (ev_tup (evs_cons (σ₁ := σ.adv.adv.adv) ?n1 (evs_cons (σ₁ := σ.adv.adv.adv.adv) ?n2 evs_nil)) (by show 2 ≤ _; decide)) (.inl rfl) (.inl rfl) (hw := fun env h1 h2 => by
        obtain ⟨⟨k, ns, g, co, mo⟩, a1, a2, a3, a4, a5, a6, a7, a8⟩ := env
        have h1 : k = .function := h1
        have h2 : ns = nm 58 := h2
        subst h1 h2; rfl)) ?rest
  case n1 =>
    rw [← ha]
    unfold nmL
    refine ev_cat (σ₁ := σ.adv.adv.adv) (a := [65 + d2]) (b := List.replicate 10 32) ?g1 ?g2 ?g3
    case g3 => simp [sizeLine_eq]
    case g2 => exact ev_rep (a := 32) (k := 10) (ev_ints (l := [32]) (evs_cons ev_int evs_nil) rfl (by decide)) ev_int (by decide) (by decide)
    case g1 => exact ev_ints (l := [65 + d2]) (evs_cons (ev_add ev_int (ev_dr T0 hd2 ev_l (by decide) (z t2 (by decide)) rfl)) evs_nil) rfl (by show 1 ≤ _; decide)
  case n2 =>
    unfold laterL
    refine ev_cat (σ₁ := σ.adv.adv.adv.adv) (a := [65 + d3] ++ List.replicate (9 : Int).toNat 32) (b := [160]) ?h1 ?h2 ?h3
    case h3 => simp [sizeLine_eq]
    case h2 => exact ev_ints (l := [160]) (evs_cons ev_int evs_nil) rfl (by show 1 ≤ _; decide)
    case h1 =>
      refine ev_cat (σ₁ := σ.adv.adv.adv.adv) (a := [65 + d3]) (b := List.replicate (9 : Int).toNat 32) ?h4 ?h5 ?h6
      case h6 => simp [sizeLine_eq]
      case h5 => exact ev_rep (a := 32) (k := 9) (ev_ints (l := [32]) (evs_cons ev_int evs_nil) rfl (by decide)) ev_int (by decide) (by decide)
      case h4 => exact ev_ints (l := [65 + d3]) (evs_cons (ev_add ev_int (ev_dr T0 hd3 ev_l (by decide) (z t3 (by decide)) rfl)) evs_nil) rfl (by show 1 ≤ _; decide)
  case rest =>
    obtain ⟨later, hla⟩ : ∃ l, (if f = 2 then laterL d3 else cut (nmL a) none (some 9) ++ [160, 32]) = l := ⟨_, rfl⟩
    refine ex_step (st_tup2s (t := .int (r : Int)) (u := .ints later) (σ₁ := σ.adv.adv.adv.adv.adv) (ev_tup (evs_cons (σ₁ := σ.adv.adv.adv.adv.adv) ?m1 (evs_cons (σ₁ := σ.adv.adv.adv.adv.adv) ?m2 evs_nil (fun env => ?e2)) (fun env => star_sub _ _ _ _ env)) (by show 2 ≤ _; decide)) (.inl rfl) (.inl rfl) (hw := ?hw) (hs := ?hs)) ?rest2
    case e2 => rfl
    case hs => intro env; rfl
    case hw =>
      intro env h1 h2
      obtain ⟨⟨k, ns, g, co, mo⟩, a1, a2, a3, a4, a5, a6, a7, a8⟩ := env
      have h1 : k = .function := h1
      have h2 : ns = nm 58 := h2
      subst h1 h2; kernel_rfl
    case m1 =>
      refine ev_pick (l := recsL) ?_ (ev_dr T0 hd4 ev_l (by decide) (z t4 (by decide)) rfl) b4.1 (by rw [l5]; exact b4.2) (by rw [l5]; decide) hre
      exact ev_ints (l := recsL) (evs_cons ev_int (evs_cons ev_int (evs_cons ev_int (evs_cons ev_int (evs_cons ev_int evs_nil))))) rfl (by show 5 ≤ _; decide)
    case m2 =>
      refine ev_if (b := f == 2) (ts_cmp (t₁ := .int f) ev_l ev_int cmp_eq) (fun h => ?_) (fun h => ?_)
      · rw [if_pos (by simpa using h)] at hla
        rw [← hla]; exact ev_l
      · rw [if_neg (by simpa using h)] at hla
        rw [← hla]
        exact ev_cat (a := cut (nmL a) none (some 9)) (b := [160, 32]) (ev_slice (l := nmL a) ev_l .none (.some (k := 9) ev_int rfl) (by rw [nmL_len]; decide)) (ev_ints (l := [160, 32]) (evs_cons ev_int (evs_cons ev_int evs_nil)) rfl (by show 2 ≤ _; decide)) (by show 9 + 2 ≤ _; decide)
    case rest2 =>
      have hlat : later.length = 11 ∧ Bd later ∧ later.getD 8 0 < 128 ∧ (f ≠ 2 → later.map (fun a => band a 127) = nmL a) := by
        rw [← hla]
        by_cases h2 : f = 2
        · rw [if_pos h2]
          obtain ⟨q1, q2, q3⟩ := later_1 b3.1 b3.2
          exact ⟨q1, q2, q3, fun h => absurd h2 h⟩
        · rw [if_neg h2]
          obtain ⟨q1, q2, q3, q4⟩ := later_2 ha'
          exact ⟨q1, q2, q3, fun _ => q4⟩
      refine ex_sub (loc' := LA f u a r later i) ⟨.inl rfl, .inl rfl, .inl rfl, .inl rfl, .inl rfl, .inl rfl, .inl rfl, .inl rfl, trivial⟩ ?_
      refine t_mid T0 RO EO hi ⟨b1.1, by (first | lia | omega)⟩ b0.1 ha' hr I hlat.1 hlat.2.1 hlat.2.2.1 hlat.2.2.2 fun loc' σ' h1 h2 h3 h4 => hP loc' σ' h1 h2 ?_ h4
      rw [h3]
      show σ.turn + 1 + 1 + 1 + 1 + 1 = _
      (first | lia | omega)
end
end Mine
end
section
namespace Mine
structure Start (σ : St) (i : Nat) : Prop where
  len : σ.data.length = 256
  bd : Bd σ.data
  fl : ∀ k, k < i → σ.data.getD (32 * k + 9) 0 < 128
  h0 : 0 ≤ σ.turn
  h1 : σ.turn ≤ 6 * (i : Int)
  hc : σ.cells.length ≤ 63
theorem Start.next {σ : St} {i : Nat} (S : Start σ i) (hi : i < 4) : Start ((entD σ).2.put (32 * i) (entD σ).1) (i + 1) := by
  obtain ⟨e1, e2⟩ := entD_data (σ := σ)
  obtain ⟨r1, r2, r3⟩ := entD_row (σ := σ)
  have et := entD_turn (σ := σ)
  have hd : ((entD σ).2.put (32 * i) (entD σ).1).data = putAt σ.data (32 * i) (entD σ).1 := by show putAt (entD σ).2.data _ _ = _; rw [e1]
  refine ⟨by rw [hd, putAt_len, S.len], by rw [hd]; exact S.bd.putAt r2, fun k hk => ?_, ?_, ?_, ?_⟩
  · rw [hd, putAt_getD _ _ _ _ (by rw [r1, S.len]; (first | lia | omega)), r1]
    split
    · rename_i h
      have : k = i := by (first | lia | omega)
      subst this
      rw [show 32 * k + 9 - 32 * k = 9 by (first | lia | omega)]; exact r3
    · exact S.fl k (by (first | lia | omega))
  · show 0 ≤ (entD σ).2.turn
    have := S.h0; (first | lia | omega)
  · show (entD σ).2.turn ≤ _
    have := S.h1; (first | lia | omega)
  · show (entD σ).2.cells.length ≤ _
    rw [e2]; exact S.hc
section
variable {c : Cfg} {σ σ' : St} {P : SO → Prop} (T0 : Top0 c) (RO : RaiseOk c) (EO : ErrOk c)
include T0 RO EO
/-- the law, behind its first row -/
theorem law_rest (S : Start σ 0) (hP : ∀ σ', P (.ret (.bool true) σ')) : Ex c 21 (nm 58) lbase σ ((bd 58).drop 1) P := by
  refine ex_for (iter_range1 T0.range.1 T0.range.2 rfl (k := 4) ev_int (by decide) (by decide)) (.inl rfl) (fun i loc σ' => loc = lbase ∧ Start σ' i) ⟨rfl, S⟩ (fun i b loc σ' hb hJ => ?_) (fun loc σ' hJ => ?_)
  · obtain ⟨hi, rfl⟩ := rng_bs hb
    obtain ⟨rfl, S⟩ := hJ
    have hi : i < 4 := hi
    rw [Int.zero_add]
    have e1 := (entD_data (σ := σ')).1
    have r1 := (entD_row (σ := σ')).1
    have h0 := S.h0
    have h1 := S.h1
    refine ex_step (st_dslice (a := 32 * i) (b := 32 * i + 32) (σ₂ := (entD σ').2) (ev_fn T0 53 (c_53 T0 ⟨h0, by (first | lia | omega), S.hc⟩) (evs_cons ev_l evs_nil)) (ev_data T0.DA ev_c) (.some (k := 32 * i) (ev_mul (b := (i : Int)) ev_int ev_l (.of_left (by decide))) (by (first | lia | omega))) (.some (k := 32 * i + 32) (ev_add (ev_mul (b := (i : Int)) ev_int ev_l (.of_left (by decide))) ev_int) (by (first | lia | omega)))
      (by rw [r1]) (by rw [e1, S.len]; (first | lia | omega)) (by rw [e1, S.len, r1]; decide)) (ex_nil ⟨lbase, ⟨.inl rfl, .inl rfl, trivial⟩, rfl, S.next hi⟩)
  · obtain ⟨rfl, S⟩ := hJ
    rw [List.length_map, rng_len] at S
    have S : Start σ' 4 := S
    have h0 := S.h0
    have h1 := S.h1
    have I : Inv σ'.data := ⟨S.len, S.bd, S.fl⟩
    have bm := draw_bd (σ := σ') (m := 4) (by decide)
    obtain ⟨d, hd⟩ : ∃ d, draw σ' 4 = d := ⟨_, rfl⟩
    rw [hd] at bm
    refine ex_for (σ₁ := σ'.adv) (iter_range1 T0.range.1 T0.range.2 rfl (k := 1 + d) (ev_add ev_int (ev_dr T0 hd ev_l (by decide) ⟨h0, by (first | lia | omega), S.hc⟩ rfl)) (by (first | lia | omega)) (by (first | lia | omega))) (.inr rfl)
      (fun i loc σ' => loc = lbase ∧ Inv σ'.data ∧ 0 ≤ σ'.turn ∧ σ'.turn ≤ 25 + 5 * (i : Int) ∧ σ'.cells.length ≤ 63) ⟨rfl, I, ?_, ?_, S.hc⟩ (fun i b loc σ' hb hJ => ?_) (fun loc σ' hJ => ?_)
    · show 0 ≤ σ'.turn + 1; (first | lia | omega)
    · show σ'.turn + 1 ≤ _; (first | lia | omega)
    · obtain ⟨hi, rfl⟩ := rng_bs hb
      obtain ⟨rfl, I, q0, q1, q2⟩ := hJ
      have hi : i < 4 := by (first | lia | omega)
      rw [Int.zero_add]
      refine law_turn T0 RO EO hi I q0 (by (first | lia | omega)) q2 fun loc' σ' h1 h2 h3 h4 => ⟨lbase, h1, rfl, h2, by (first | lia | omega), by (first | lia | omega), by rw [h4]; exact q2⟩
    · exact ex_ret ev_bool (hP _)
end
end Mine
end
section
namespace Mine
noncomputable def recAt (i : Nat) : Option DefRec := match stm i with
  | .FunctionDef name a b _ _ _ sc _ _ pos => some ⟨name, a, b, sc, pos⟩
  | _ => none
theorem recs_eq : recsOf vw = (List.range 59).filterMap recAt := by kernel_rfl
theorem v_FREE : valOf vw "FREE" = some (.int 229) := by kernel_rfl
theorem v_ESZ : valOf vw "ENTRY_SIZE" = some (.int 32) := by kernel_rfl
theorem v_NSZ : valOf vw "NAME_SIZE" = some (.int 11) := by kernel_rfl
theorem v_MAP : valOf vw "MAP_AT" = some (.int 16) := by kernel_rfl
theorem v_MR : valOf vw "MOST_RECORDS" = some (.int 128) := by kernel_rfl
theorem v_EL : valOf vw "EXTENTS_LOW" = some (.int 32) := by kernel_rfl
theorem v_ANY : valOf vw "ANY" = some (.int 63) := by kernel_rfl
theorem v_RO : valOf vw "READ_ONLY_AT" = some (.int 8) := by kernel_rfl
noncomputable def biNames : List (Str × Value) := [("min", .builtin "min"), ("max", .builtin "max"), ("len", .builtin "len"), ("all", .builtin "all"), ("any", .builtin "any"), ("abs", .builtin "abs"), ("int", .type "int"), ("list", .type "list"), ("range", .type "range"), ("enumerate", .type "enumerate"), ("zip", .type "zip"), ("super", .type "super")]
theorem bi_eq : (biNames.map fun x => bootBuiltins x.1) = biNames.map fun x => some x.2 := by kernel_rfl
theorem bi_free : (biNames.all fun x => !(startupNames.contains x.1) && !((looseW vw []).contains x.1) && !(((recsOf vw).map (·.name)).contains x.1) && !(((litsOf vw).map (·.1)).contains x.1) && !(((clssOf vw (looseW vw [])).map (·.name)).contains x.1) && x.1 != "__name__") = true := by kernel_rfl
theorem ns_cls (p : Params) : (nsIn (hd.heap_1 p) 3 "Entry", nsIn (hd.heap_1 p) 3 "DiskError", nsIn (hd.heap_1 p) 3 "Disk") = (some (some (.ref 74)), some (some (.ref 33)), some (some (.ref 53))) := by kernel_rfl
end Mine
end
section
namespace Mine
section

noncomputable def objK (p : Params) (a : Addr) : Obj := ((hd.heap_1 p).lookup a).getD { cls := .none, data := .plain }
noncomputable def fdK (p : Params) (a : Addr) : FuncData := match (objK p a).data with
  | .func fd => fd
  | _ => Calls.docDef Str.empty ⟨[], [], none, [], [], none, []⟩ [] default .none .none .none
theorem objK_at {c : Cfg} {p : Params} (hK : c.K = hd.heap_1 p) (hI : c.K.In c.B0) {a : Addr} (h : (hd.heap_1 p).lookup a = some (objK p a)) : c.B0.get? a = some (objK p a) := hI a _ (by rw [hK]; exact h)
noncomputable def ownAttr (K : Frag) (C : Addr) (x : Str) : Bool := plainGet K C x && hasDictIn K C && (match findIn K (.ref C) x with | some a => noGet K a | none => false)
theorem attr_of {K : Frag} {C : Addr} {x : Str} (h : ownAttr K C x = true) : AttrOk K C x := by
  unfold ownAttr at h
  simp only [Bool.and_eq_true] at h
  obtain ⟨⟨h1, h2⟩, h3⟩ := h
  refine ⟨h1, h2, ?_⟩
  cases q : findIn K (.ref C) x with
  | none => rw [q] at h3; cases h3
  | some a => rw [q] at h3; exact ⟨a, rfl, h3⟩
theorem dattr (p : Params) : ((["blocks", "block", "record", "entries", "is_read_only", "given", "data"] : List Str).all (ownAttr (hd.heap_1 p) 53)) = true := by kernel_rfl
theorem eattr (p : Params) : ((["user", "raw", "extent", "spare", "count", "map"] : List Str).all (ownAttr (hd.heap_1 p) 74)) = true := by kernel_rfl
theorem eset0 (p : Params) : findIn (hd.heap_1 p) (.ref 74) "__setattr__" = some (some (.builtin "object.__setattr__")) := by kernel_rfl
theorem eset1 (p : Params) : plainOver (hd.heap_1 p) 74 = true := by kernel_rfl
theorem eset2 (p : Params) : ((["user", "raw", "extent", "spare", "count", "map"] : List Str).map (takerIn (hd.heap_1 p) 74)) = List.replicate 6 (some none) := by kernel_rfl
theorem eset3 (p : Params) : hasDictIn (hd.heap_1 p) 74 = true := by kernel_rfl
theorem emk (p : Params) : (makesIn (hd.heap_1 p) 74, findIn (hd.heap_1 p) (.ref 74) "__init__", typeIn (hd.heap_1 p) (.ref 71)) = (true, some (some (.ref 71)), some (.type "function")) := by kernel_rfl
theorem ekeep (p : Params) : (keepIn (hd.heap_1 p) (.ref 74), keepIn (hd.heap_1 p) (.ref 33)) = (true, true) := by kernel_rfl

theorem o71 (p : Params) : (hd.heap_1 p).lookup 71 = some (objK p 71) := by kernel_rfl
theorem f71 (p : Params) : (objK p 71).data = .func (fdK p 71) := by kernel_rfl
theorem f71b (p : Params) : (fdK p 71).body = .stmts (ibd 9) := by kernel_rfl
theorem f71c (p : Params) : (fdK p 71).closure = [] := by kernel_rfl
theorem f71k (p : Params) : (fdK p 71).scope.kind = .function := by kernel_rfl
theorem f71n (p : Params) : (fdK p 71).scope.names = inm 9 := by kernel_rfl
theorem f71o (p : Params) : ((fdK p 71).scope.isCoroutine, (fdK p 71).scope.isGenerator) = (false, false) := by kernel_rfl
theorem f71g (p : Params) : ((fdK p 71).globals, (fdK p 71).builtins) = (mainGlobals, builtinsNs) := by kernel_rfl
theorem f71d (p : Params) : codeIn (hd.heap_1 p) (fdK p 71).code (fdK p 71).qualname = true := by kernel_rfl
theorem f71a (p : Params) (a b c d : Value) : bindArgs (fdK p 71) ⟨[a, b, c, d], []⟩ = pure [(("self" : Str), a), (("user" : Str), b), (("raw" : Str), c), (("extent" : Str), d)] := by kernel_rfl

theorem o30 (p : Params) : (hd.heap_1 p).lookup 30 = some (objK p 30) := by kernel_rfl
theorem o30c (p : Params) : (objK p 30).cls = .type "function" := by kernel_rfl
theorem f30 (p : Params) : (objK p 30).data = .func (fdK p 30) := by kernel_rfl
theorem f30b (p : Params) : (fdK p 30).body = .stmts (ibd 7) := by kernel_rfl
theorem f30c (p : Params) : (fdK p 30).closure = [(("__class__" : Str), 18)] := by kernel_rfl
theorem f30k (p : Params) : (fdK p 30).scope.kind = .function := by kernel_rfl
theorem f30n (p : Params) : (fdK p 30).scope.names = inm 7 := by kernel_rfl
theorem f30o (p : Params) : ((fdK p 30).scope.isCoroutine, (fdK p 30).scope.isGenerator) = (false, false) := by kernel_rfl
theorem f30g (p : Params) : ((fdK p 30).globals, (fdK p 30).builtins) = (mainGlobals, builtinsNs) := by kernel_rfl
theorem f30d (p : Params) : codeIn (hd.heap_1 p) (fdK p 30).code (fdK p 30).qualname = true := by kernel_rfl
theorem f30a (p : Params) (a b : Value) : bindArgs (fdK p 30) ⟨[a, b], []⟩ = pure [(("self" : Str), a), (("word" : Str), b)] := by kernel_rfl
theorem f30e (p : Params) : (fdK p 30).code = .ref 29 := by kernel_rfl
noncomputable def ar30 (p : Params) : Arg := (((fdK p 30).params.posonlyargs ++ (fdK p 30).params.args).head?).getD ⟨Str.empty, none, default⟩
theorem f30p (p : Params) : ((fdK p 30).params.posonlyargs ++ (fdK p 30).params.args).head? = some (ar30 p) := by kernel_rfl
theorem f30q (p : Params) : (ar30 p).arg = "self" := by kernel_rfl
theorem o29 (p : Params) : (hd.heap_1 p).lookup 29 = some (objK p 29) := by kernel_rfl
noncomputable def vs29 (p : Params) : Array Value := match (objK p 29).data with
  | .fields vs => vs
  | _ => #[]
theorem o29d (p : Params) : (objK p 29).data = .fields (vs29 p) := by kernel_rfl
noncomputable def tk29 (p : Params) : Tok := match (vs29 p)[2]? with
  | some (Value.str _ t) => t
  | _ => 0
theorem o29f (p : Params) : (vs29 p)[2]? = some (.str PySem.Challenge.rw_sm0122_01.row.prog.main.file (tk29 p)) := by kernel_rfl
theorem o18 (p : Params) : (hd.heap_1 p).lookup 18 = some { cls := .type "cell", data := .cell (some (.ref 33)) } := by kernel_rfl
theorem o33 (p : Params) : (hd.heap_1 p).lookup 33 = some (objK p 33) := by kernel_rfl
noncomputable def cd33 (p : Params) : ClassData := match (objK p 33).data with
  | .cls c => c
  | _ => { name := Str.empty, bases := [], mro := [], ns := 0 }
noncomputable def sl33 (p : Params) (i : Nat) : Option Value := ((objK p 33).slots[i]?).getD none
theorem o33e (p : Params) : objK p 33 = excClassObj (cd33 p).name (cd33 p).qualname 33 32 (cd33 p).bases bmE (cd33 p).hasDict (cd33 p).slotNames (cd33 p).subclasses (cd33 p).abstract (cd33 p).collection (objK p 33).dict (sl33 p 0) (sl33 p 1) (sl33 p 2) (sl33 p 3) (sl33 p 5) "Exception.__new__" := by kernel_rfl
theorem c33 (p : Params) : clsIn (hd.heap_1 p) 33 = some (cd33 p) := by kernel_rfl
theorem c33m (p : Params) : ((cd33 p).mro, (cd33 p).hasDict) = (.ref 33 :: bmE, true) := by kernel_rfl
theorem x33 (p : Params) : (findIn (hd.heap_1 p) (.ref 33) "__getattribute__", findIn (hd.heap_1 p) (.ref 33) "__getattr__", findIn (hd.heap_1 p) (.ref 33) "__setattr__", findIn (hd.heap_1 p) (.ref 33) "word", subIn (hd.heap_1 p) (.ref 33) (.ref 33), alongIn (hd.heap_1 p) "__init__" bmE, nsIn (hd.heap_1 p) cStatics "thirdparty.any") =
    (some (some (.builtin "BaseException.__getattribute__")), some none, some (some (.builtin "object.__setattr__")), some none, some true, some (some (.builtin "Exception.__init__")), some none) := by kernel_rfl
theorem o32 (p : Params) : (hd.heap_1 p).lookup 32 = some (objK p 32) := by kernel_rfl
noncomputable def es32 (p : Params) : Array DictEntry := match (objK p 32).data with
  | .dict es _ => es
  | _ => #[]
noncomputable def ep32 (p : Params) : Nat := match (objK p 32).data with
  | .dict _ ep => ep
  | _ => 0
theorem o32d (p : Params) : (objK p 32).data = .dict (es32 p) (ep32 p) := by kernel_rfl
theorem o32k (p : Params) : ((es32 p).toList.all fun e => match e.key with | .str _ _ => true | _ => false) = true := by kernel_rfl
theorem o32i (p : Params) : nsFind (es32 p) "__init__" = some (.ref 30) := by kernel_rfl
theorem topsup : (PySem.Challenge.rw_sm0122_01.row.prog.main.scope.names.lookup ("super" : Str)).isSome = false := by kernel_rfl
end
end Mine
end
section
namespace Mine
noncomputable def pa (i : Nat) : Arguments := match stm i with
  | .FunctionDef _ a _ _ _ _ _ _ _ _ => a
  | _ => ⟨[], [], none, [], [], none, []⟩
noncomputable def scp (i : Nat) : Scope := match stm i with
  | .FunctionDef _ _ _ _ _ _ sc _ _ _ => sc
  | _ => default
noncomputable def psn (i : Nat) : Pos := match stm i with
  | .FunctionDef _ _ _ _ _ _ _ _ _ p => p
  | _ => default
noncomputable def defL : List Nat := [10, 11, 12, 13, 14, 15, 16, 17, 18, 19, 20, 21, 22, 23, 24, 25, 26, 27, 28, 29, 30, 31, 32, 36, 37, 38, 39, 40, 41, 42, 43, 44, 45, 46, 47, 48, 49, 50, 52, 53, 54, 55, 56, 57, 58]
theorem defL_eq : ((List.range 59).filter isDef) = defL := by kernel_rfl
theorem stm_len : PySem.Challenge.pw_sm0122_01.main.body.length = 59 := by kernel_rfl
theorem def_mem {i : Nat} (h : isDef i = true) : i ∈ defL := by
  rw [← defL_eq, List.mem_filter, List.mem_range]
  refine ⟨Nat.lt_of_not_le fun q => ?_, h⟩
  unfold isDef stm at h
  rw [List.getD_eq_getElem?_getD, List.getElem?_eq_none (by rw [stm_len]; exact q)] at h
  cases h
theorem lenS {l : List Value} {k : Nat} (h : l.length = k + 1) : ∃ a r, l = a :: r ∧ r.length = k := by
  cases l with
  | nil => cases h
  | cons a r => exact ⟨a, r, rfl, Nat.succ.inj h⟩
theorem len1 {l : List Value} (h : l.length = 1) : ∃ a, l = [a] := by
  obtain ⟨a, r, rfl, q⟩ := lenS h
  obtain rfl := List.eq_nil_of_length_eq_zero q
  exact ⟨a, rfl⟩
theorem len2 {l : List Value} (h : l.length = 2) : ∃ a b, l = [a, b] := by
  obtain ⟨a, r, rfl, q⟩ := lenS h
  obtain ⟨b, rfl⟩ := len1 q
  exact ⟨a, b, rfl⟩
theorem len3 {l : List Value} (h : l.length = 3) : ∃ a b c, l = [a, b, c] := by
  obtain ⟨a, r, rfl, q⟩ := lenS h
  obtain ⟨b, c, rfl⟩ := len2 q
  exact ⟨a, b, c, rfl⟩
theorem len4 {l : List Value} (h : l.length = 4) : ∃ a b c d, l = [a, b, c, d] := by
  obtain ⟨a, r, rfl, q⟩ := lenS h
  obtain ⟨b, c, d, rfl⟩ := len3 q
  exact ⟨a, b, c, d, rfl⟩
theorem len5 {l : List Value} (h : l.length = 5) : ∃ a b c d e, l = [a, b, c, d, e] := by
  obtain ⟨a, r, rfl, q⟩ := lenS h
  obtain ⟨b, c, d, e, rfl⟩ := len4 q
  exact ⟨a, b, c, d, e, rfl⟩
theorem len6 {l : List Value} (h : l.length = 6) : ∃ a b c d e f, l = [a, b, c, d, e, f] := by
  obtain ⟨a, r, rfl, q⟩ := lenS h
  obtain ⟨b, c, d, e, f, rfl⟩ := len5 q
  exact ⟨a, b, c, d, e, f, rfl⟩
theorem len7 {l : List Value} (h : l.length = 7) : ∃ a b c d e f g, l = [a, b, c, d, e, f, g] := by
  obtain ⟨a, r, rfl, q⟩ := lenS h
  obtain ⟨b, c, d, e, f, g, rfl⟩ := len6 q
  exact ⟨a, b, c, d, e, f, g, rfl⟩
noncomputable def BindOk (i : Nat) : Prop := ∀ (pm cd doc : Value) (vals : List Value), vals.length = (pr i).length → bindArgs (Calls.docDef (dn i) (pa i) (bd i) (scp i) pm cd doc) ⟨vals, []⟩ = pure ((pr i).zip vals)
theorem bi_10 : BindOk 10 := fun pm cd doc vals h => by
  obtain ⟨a, rfl⟩ := len1 (l := vals) h
  kernel_rfl
theorem bi_11 : BindOk 11 := fun pm cd doc vals h => by
  obtain ⟨a, rfl⟩ := len1 (l := vals) h
  kernel_rfl
theorem bi_12 : BindOk 12 := fun pm cd doc vals h => by
  obtain ⟨a, rfl⟩ := len1 (l := vals) h
  kernel_rfl
theorem bi_13 : BindOk 13 := fun pm cd doc vals h => by
  obtain ⟨a, rfl⟩ := len1 (l := vals) h
  kernel_rfl
theorem bi_14 : BindOk 14 := fun pm cd doc vals h => by
  obtain ⟨a, rfl⟩ := len1 (l := vals) h
  kernel_rfl
theorem bi_15 : BindOk 15 := fun pm cd doc vals h => by
  obtain ⟨a, b, c, d, rfl⟩ := len4 (l := vals) h
  kernel_rfl
theorem bi_16 : BindOk 16 := fun pm cd doc vals h => by
  obtain ⟨a, b, rfl⟩ := len2 (l := vals) h
  kernel_rfl
theorem bi_17 : BindOk 17 := fun pm cd doc vals h => by
  obtain ⟨a, b, rfl⟩ := len2 (l := vals) h
  kernel_rfl
theorem bi_18 : BindOk 18 := fun pm cd doc vals h => by
  obtain ⟨a, b, rfl⟩ := len2 (l := vals) h
  kernel_rfl
theorem bi_19 : BindOk 19 := fun pm cd doc vals h => by
  obtain ⟨a, b, rfl⟩ := len2 (l := vals) h
  kernel_rfl
theorem bi_20 : BindOk 20 := fun pm cd doc vals h => by
  obtain ⟨a, b, c, rfl⟩ := len3 (l := vals) h
  kernel_rfl
theorem bi_21 : BindOk 21 := fun pm cd doc vals h => by
  obtain ⟨a, b, c, rfl⟩ := len3 (l := vals) h
  kernel_rfl
theorem bi_22 : BindOk 22 := fun pm cd doc vals h => by
  obtain ⟨a, b, rfl⟩ := len2 (l := vals) h
  kernel_rfl
theorem bi_23 : BindOk 23 := fun pm cd doc vals h => by
  obtain ⟨a, rfl⟩ := len1 (l := vals) h
  kernel_rfl
theorem bi_24 : BindOk 24 := fun pm cd doc vals h => by
  obtain ⟨a, rfl⟩ := len1 (l := vals) h
  kernel_rfl
theorem bi_25 : BindOk 25 := fun pm cd doc vals h => by
  obtain ⟨a, rfl⟩ := len1 (l := vals) h
  kernel_rfl
theorem bi_26 : BindOk 26 := fun pm cd doc vals h => by
  obtain ⟨a, b, rfl⟩ := len2 (l := vals) h
  kernel_rfl
theorem bi_27 : BindOk 27 := fun pm cd doc vals h => by
  obtain ⟨a, b, rfl⟩ := len2 (l := vals) h
  kernel_rfl
theorem bi_28 : BindOk 28 := fun pm cd doc vals h => by
  obtain ⟨a, b, rfl⟩ := len2 (l := vals) h
  kernel_rfl
theorem bi_29 : BindOk 29 := fun pm cd doc vals h => by
  obtain ⟨a, b, rfl⟩ := len2 (l := vals) h
  kernel_rfl
theorem bi_30 : BindOk 30 := fun pm cd doc vals h => by
  obtain ⟨a, b, c, rfl⟩ := len3 (l := vals) h
  kernel_rfl
theorem bi_31 : BindOk 31 := fun pm cd doc vals h => by
  obtain ⟨a, b, c, rfl⟩ := len3 (l := vals) h
  kernel_rfl
theorem bi_32 : BindOk 32 := fun pm cd doc vals h => by
  obtain ⟨a, b, c, d, rfl⟩ := len4 (l := vals) h
  kernel_rfl
theorem bi_36 : BindOk 36 := fun pm cd doc vals h => by
  obtain ⟨a, rfl⟩ := len1 (l := vals) h
  kernel_rfl
theorem bi_37 : BindOk 37 := fun pm cd doc vals h => by
  obtain ⟨a, b, rfl⟩ := len2 (l := vals) h
  kernel_rfl
theorem bi_38 : BindOk 38 := fun pm cd doc vals h => by
  obtain ⟨a, b, rfl⟩ := len2 (l := vals) h
  kernel_rfl
theorem bi_39 : BindOk 39 := fun pm cd doc vals h => by
  obtain ⟨a, b, c, rfl⟩ := len3 (l := vals) h
  kernel_rfl
theorem bi_40 : BindOk 40 := fun pm cd doc vals h => by
  obtain ⟨a, b, c, d, rfl⟩ := len4 (l := vals) h
  kernel_rfl
theorem bi_41 : BindOk 41 := fun pm cd doc vals h => by
  obtain ⟨a, b, c, rfl⟩ := len3 (l := vals) h
  kernel_rfl
theorem bi_42 : BindOk 42 := fun pm cd doc vals h => by
  obtain ⟨a, b, c, d, rfl⟩ := len4 (l := vals) h
  kernel_rfl
theorem bi_43 : BindOk 43 := fun pm cd doc vals h => by
  obtain ⟨a, rfl⟩ := len1 (l := vals) h
  kernel_rfl
theorem bi_44 : BindOk 44 := fun pm cd doc vals h => by
  obtain ⟨a, b, c, rfl⟩ := len3 (l := vals) h
  kernel_rfl
theorem bi_45 : BindOk 45 := fun pm cd doc vals h => by
  obtain ⟨a, b, c, d, rfl⟩ := len4 (l := vals) h
  kernel_rfl
theorem bi_46 : BindOk 46 := fun pm cd doc vals h => by
  obtain ⟨a, b, c, rfl⟩ := len3 (l := vals) h
  kernel_rfl
theorem bi_47 : BindOk 47 := fun pm cd doc vals h => by
  obtain ⟨a, b, rfl⟩ := len2 (l := vals) h
  kernel_rfl
theorem bi_48 : BindOk 48 := fun pm cd doc vals h => by
  obtain ⟨a, b, c, rfl⟩ := len3 (l := vals) h
  kernel_rfl
theorem bi_49 : BindOk 49 := fun pm cd doc vals h => by
  obtain ⟨a, b, c, d, rfl⟩ := len4 (l := vals) h
  kernel_rfl
theorem bi_50 : BindOk 50 := fun pm cd doc vals h => by
  obtain ⟨a, b, c, d, e, rfl⟩ := len5 (l := vals) h
  kernel_rfl
theorem bi_52 : BindOk 52 := fun pm cd doc vals h => by
  obtain ⟨a, b, rfl⟩ := len2 (l := vals) h
  kernel_rfl
theorem bi_53 : BindOk 53 := fun pm cd doc vals h => by
  obtain ⟨a, rfl⟩ := len1 (l := vals) h
  kernel_rfl
theorem bi_54 : BindOk 54 := fun pm cd doc vals h => by
  obtain ⟨a, b, c, rfl⟩ := len3 (l := vals) h
  kernel_rfl
theorem bi_55 : BindOk 55 := fun pm cd doc vals h => by
  obtain ⟨a, b, c, d, e, f, g, rfl⟩ := len7 (l := vals) h
  kernel_rfl
theorem bi_56 : BindOk 56 := fun pm cd doc vals h => by
  obtain ⟨a, b, c, d, rfl⟩ := len4 (l := vals) h
  kernel_rfl
theorem bi_57 : BindOk 57 := fun pm cd doc vals h => by
  obtain ⟨a, b, c, d, e, rfl⟩ := len5 (l := vals) h
  kernel_rfl
theorem bi_58 : BindOk 58 := fun pm cd doc vals h => by
  obtain ⟨a, rfl⟩ := len1 (l := vals) h
  kernel_rfl
theorem bind_all : ∀ i ∈ defL, BindOk i := by
  intro i h
  unfold defL at h
  simp only [List.mem_cons, List.not_mem_nil, or_false] at h
  rcases h with rfl | rfl | rfl | rfl | rfl | rfl | rfl | rfl | rfl | rfl | rfl | rfl | rfl | rfl | rfl | rfl | rfl | rfl | rfl | rfl | rfl | rfl | rfl | rfl | rfl | rfl | rfl | rfl | rfl | rfl | rfl | rfl | rfl | rfl | rfl | rfl | rfl | rfl | rfl | rfl | rfl | rfl | rfl | rfl | rfl
  · exact bi_10
  · exact bi_11
  · exact bi_12
  · exact bi_13
  · exact bi_14
  · exact bi_15
  · exact bi_16
  · exact bi_17
  · exact bi_18
  · exact bi_19
  · exact bi_20
  · exact bi_21
  · exact bi_22
  · exact bi_23
  · exact bi_24
  · exact bi_25
  · exact bi_26
  · exact bi_27
  · exact bi_28
  · exact bi_29
  · exact bi_30
  · exact bi_31
  · exact bi_32
  · exact bi_36
  · exact bi_37
  · exact bi_38
  · exact bi_39
  · exact bi_40
  · exact bi_41
  · exact bi_42
  · exact bi_43
  · exact bi_44
  · exact bi_45
  · exact bi_46
  · exact bi_47
  · exact bi_48
  · exact bi_49
  · exact bi_50
  · exact bi_52
  · exact bi_53
  · exact bi_54
  · exact bi_55
  · exact bi_56
  · exact bi_57
  · exact bi_58
noncomputable def defOk (i : Nat) : Bool := match stm i, recAt i with
  | .FunctionDef .., some d => (scp i).kind == .function && !(scp i).isCoroutine && !(scp i).isGenerator
  | _, _ => false
theorem defs_ok : (defL.all defOk) = true := by kernel_rfl
end Mine
end
section
namespace Mine
/-- what stands at the law's call -/
structure Base (c : Cfg) (p : Params) (mean : ExcName → Option Value) : Prop where
  K : c.K = hd.heap_1 p
  inK : (hd.heap_1 p).In c.B0
  T : Top vw (looseW vw []) mean c.mg c.mb c.B0
  prog : c.prog = PySem.Challenge.rw_sm0122_01.row.prog
  dC : c.DiskC = 53
  eC : c.EntC = 74
  xC : c.ErrC = 33

theorem find_toList {es : Array DictEntry} {x : Str} : nsFind es x = (es.toList.find? (·.key.isStr x)).map (·.val) := by
  unfold nsFind findBy
  rw [← Array.find?_toList]
section
variable {c : Cfg} {p : Params} {mean : ExcName → Option Value}
theorem mg_of (B : Base c p mean) {x : Str} {v : Value} (h : nsIn (hd.heap_1 p) mainGlobals x = some (some v)) : c.mg x = some v := by
  obtain ⟨o, es, ep, ho, hd', _, hf⟩ := B.T.g
  unfold nsIn at h
  split at h
  · rename_i cl d es' n sl hl
    have := B.inK _ _ hl
    rw [ho] at this
    cases this
    cases hd'
    rw [← hf, find_toList]
    split at h
    · rename_i e he
      rw [he]; exact (Option.some.inj h)
    · split at h <;> cases h
  · cases h
theorem bi_at {x : Str} {v : Value} (B : Base c p mean) (hm : (x, v) ∈ biNames) : BiOk c x v := by
  have h1 := bi_free
  have h := List.all_eq_true.mp h1 _ hm
  simp only [Bool.and_eq_true, Bool.not_eq_true', bne_iff_ne, ne_eq] at h
  obtain ⟨⟨⟨⟨⟨q1, q2⟩, q3⟩, q4⟩, q5⟩, q6⟩ := h
  have nm : ∀ {l : List Str}, l.contains x = false → x ∉ l := fun h hm => by
    rw [List.contains_iff_mem.mpr hm] at h; cases h
  refine ⟨B.T.free x (nm q1) (nm q2) (nm q3) (nm q4) (nm q5), ?_⟩
  rw [B.T.builtins x q6]
  exact List.map_inj_left.mp bi_eq _ hm
theorem const_at {x : Str} {i : Int} (B : Base c p mean) (h : valOf vw x = some (.int i)) : ∃ t, c.mg x = some (.int i t) := by
  obtain ⟨v, hv, hr⟩ := B.T.const x _ h
  have := hr { objs := #[] }
  cases this
  exact ⟨_, hv⟩
theorem Base.cfg (B : Base c p mean) : CfgOk c := ⟨by rw [B.K]; exact B.inK, B.T.g, B.T.b, B.T.nolimit⟩
theorem def_form (i : Nat) (hi : isDef i = true) : ∃ n1 a1 b1 c1 d1 e1 sc f1 g1 p1, stm i = .FunctionDef n1 a1 b1 c1 d1 e1 sc f1 g1 p1 := by
  unfold isDef at hi
  generalize stm i = st at hi ⊢
  cases st <;> first | exact Bool.noConfusion hi | exact ⟨_, _, _, _, _, _, _, _, _, _, rfl⟩
theorem bi_nth {x : Str} {v : Value} (B : Base c p mean) (k : Nat) (h : biNames[k]? = some (x, v)) : BiOk c x v := bi_at B (List.mem_of_getElem? h)
theorem fn_at (B : Base c p mean) (i : Nat) (hi : isDef i = true) : c.mg (dn i) = some (.ref (fa c i)) ∧ FnAt c (fa c i) (pr i) (nm i) (bd i) := by
  have hm := def_mem hi
  have hb := bind_all i hm
  have ho := List.all_eq_true.mp defs_ok i hm
  have hr : ∃ d, recAt i = some d ∧ d.name = dn i ∧ d.params = pa i ∧ d.body = bd i ∧ d.scope = scp i ∧ nm i = (scp i).names ∧ ((scp i).kind == .function && !(scp i).isCoroutine && !(scp i).isGenerator) = true := by
    unfold defOk at ho
    obtain ⟨n1, a1, b1, c1, d1, e1, sc, f1, g1, p1, hs⟩ := def_form i hi
    unfold recAt dn pa bd scp nm at *
    rw [hs] at ho ⊢
    exact ⟨_, rfl, rfl, rfl, rfl, rfl, rfl, ho⟩
  obtain ⟨d, h1, h2, h3, h4, h5, h6, h7⟩ := hr
  simp only [Bool.and_eq_true, beq_iff_eq, Bool.not_eq_true'] at h7
  have hmem : d ∈ recsOf vw := by
    rw [recs_eq, List.mem_filterMap]
    refine ⟨i, ?_, h1⟩
    have : i ∈ (List.range 59).filter isDef := by rw [defL_eq]; exact hm
    exact (List.mem_filter.mp this).1
  obtain ⟨a, o, pm, code, doc, e1, e2, e3, e4⟩ := B.T.fn d hmem
  rw [h2] at e1 e3 e4
  rw [h3, h4, h5] at e3
  have ha : fa c i = a := by unfold fa; rw [e1]
  rw [ha]
  refine ⟨e1, o, _, e2, e3, rfl, rfl, h7.1.1, h6.symm, h7.1.2, h7.2, rfl, rfl, e4, fun vals hv => hb pm code doc vals hv⟩
end
end Mine
end
section
namespace Mine
section
variable {c : Cfg} {p : Params} {mean : ExcName → Option Value}
theorem Base.cls (B : Base c p mean) : c.mg "Entry" = some (.ref 74) ∧ c.mg "DiskError" = some (.ref 33) ∧ c.mg "Disk" = some (.ref 53) := by
  have h := ns_cls p
  simp only [Prod.mk.injEq] at h
  exact ⟨mg_of B h.1, mg_of B h.2.1, mg_of B h.2.2⟩
theorem Base.dattrs (B : Base c p mean) : DiskAttrs c := by
  have h1 := dattr p
  have h2 := eattr p
  rw [← B.K, ← B.dC] at h1
  rw [← B.K, ← B.eC] at h2
  simp only [List.all_cons, List.all_nil, Bool.and_true, Bool.and_eq_true] at h1 h2
  exact ⟨attr_of h1.1, attr_of h1.2.1, attr_of h1.2.2.1, attr_of h1.2.2.2.1, attr_of h1.2.2.2.2.1, attr_of h1.2.2.2.2.2.1, attr_of h1.2.2.2.2.2.2,
    attr_of h2.1, attr_of h2.2.1, attr_of h2.2.2.1, attr_of h2.2.2.2.1, attr_of h2.2.2.2.2.1, attr_of h2.2.2.2.2.2⟩
theorem Base.sets (B : Base c p mean) : SetOk c.K c.EntC "user" ∧ SetOk c.K c.EntC "raw" ∧ SetOk c.K c.EntC "extent" ∧ SetOk c.K c.EntC "spare" ∧ SetOk c.K c.EntC "count" ∧ SetOk c.K c.EntC "map" := by
  have h := eset2 p
  simp only [List.map_cons, List.map_nil, List.replicate_succ, List.replicate_zero, List.cons.injEq] at h
  rw [B.K, B.eC]
  have mk : ∀ {x : Str}, takerIn (hd.heap_1 p) 74 x = some none → SetOk (hd.heap_1 p) 74 x := fun h => ⟨eset0 p, eset1 p, h, eset3 p⟩
  exact ⟨mk h.1, mk h.2.1, mk h.2.2.1, mk h.2.2.2.1, mk h.2.2.2.2.1, mk h.2.2.2.2.2.1⟩
theorem Base.made (B : Base c p mean) : ∃ fI, MkOk c c.EntC fI ∧ FnAt c fI ["self", "user", "raw", "extent"] (inm 9) (ibd 9) := by
  have h := emk p
  simp only [Prod.mk.injEq] at h
  have ho := f71o p
  simp only [Prod.mk.injEq] at ho
  have hg := f71g p
  simp only [Prod.mk.injEq] at hg
  refine ⟨71, ⟨by rw [B.K, B.eC]; exact h.1, by rw [B.K, B.eC]; exact h.2.1, by rw [B.K]; exact h.2.2⟩, objK p 71, fdK p 71, B.inK _ _ (o71 p), f71 p, f71b p, f71c p, f71k p, f71n p, ho.1, ho.2, hg.1, hg.2, codeRec_of B.inK (f71d p), fun vals hv => ?_⟩
  obtain ⟨a, b, d, e, rfl⟩ := len4 (l := vals) hv
  exact f71a p a b d e
theorem Base.top0 (B : Base c p mean) : Top0 c := by
  have hk := ekeep p
  simp only [Prod.mk.injEq] at hk
  exact
  { DA := B.dattrs
    fn := fn_at B
    ent := ⟨by rw [B.eC]; exact B.cls.1, by rw [B.K, B.eC]; exact hk.1⟩
    mke := B.made
    set := B.sets
    min := bi_nth B 0 rfl
    max := bi_nth B 1 rfl
    len := bi_nth B 2 rfl
    all := bi_nth B 3 rfl
    any := bi_nth B 4 rfl
    abs := bi_nth B 5 rfl
    int := bi_nth B 6 rfl
    list := bi_nth B 7 rfl
    range := bi_nth B 8 rfl
    enumerate := bi_nth B 9 rfl
    zip := bi_nth B 10 rfl
    FREE := const_at B v_FREE
    ENTRY_SIZE := const_at B v_ESZ
    NAME_SIZE := const_at B v_NSZ
    MAP_AT := const_at B v_MAP
    MOST_RECORDS := const_at B v_MR
    EXTENTS_LOW := const_at B v_EL
    ANY := const_at B v_ANY
    READ_ONLY_AT := const_at B v_RO }
theorem Base.ex (B : Base c p mean) : ExAttr c.K c.ErrC "word" := by
  have h := x33 p
  have hc := c33m p
  simp only [Prod.mk.injEq] at h hc
  rw [B.K, B.xC]
  exact ⟨h.1, h.2.1, h.2.2.1, ⟨cd33 p, c33 p, hc.1, hc.2⟩, h.2.2.2.1⟩
theorem Base.at33 (B : Base c p mean) : c.B0.get? 33 = some (excClassObj (cd33 p).name (cd33 p).qualname 33 32 (cd33 p).bases bmE (cd33 p).hasDict (cd33 p).slotNames (cd33 p).subclasses (cd33 p).abstract (cd33 p).collection (objK p 33).dict (sl33 p 0) (sl33 p 1) (sl33 p 2) (sl33 p 3) (sl33 p 5) "Exception.__new__") := by
  rw [← o33e]; exact B.inK _ _ (o33 p)
theorem keys32 (p : Params) : StrKeys (es32 p) := fun e he => by
  have h := List.all_eq_true.mp (o32k p) e (by simpa using he)
  cases q : e.key with
  | str n t => exact ⟨n, t, rfl⟩
  | _ => rw [q] at h; cases h
theorem ns32 (B : Base c p mean) : c.B0.Ns 32 (nsFind (es32 p)) := ⟨objK p 32, es32 p, ep32 p, B.inK _ _ (o32 p), o32d p, keys32 p, fun _ => rfl⟩
theorem Base.err (B : Base c p mean) : ErrInit c 30 29 18 32 (fdK p 30) (ar30 p) (nsFind (es32 p)) := by
  have h := x33 p
  have ho := f30o p
  have hg := f30g p
  simp only [Prod.mk.injEq] at h ho hg
  exact
  { fn := ⟨objK p 30, B.inK _ _ (o30 p), f30 p, o30c p⟩
    body := f30b p
    names := f30n p
    kind := f30k p
    co := ho.1
    gen := ho.2
    clo := f30c p
    glob := hg.1
    bi := hg.2
    code := f30e p
    cr := codeRec_of B.inK (f30d p)
    par := f30p p
    arg := f30q p
    bind := f30a p
    cobj := ⟨objK p 29, vs29 p, tk29 p, B.inK _ _ (o29 p), o29d p, by rw [B.prog]; exact o29f p⟩
    cell := ⟨_, B.inK _ _ (o18 p), by rw [B.xC]⟩
    sup := bi_nth B 11 rfl
    top := by rw [B.prog]; exact topsup
    along := by rw [B.K]; exact h.2.2.2.2.2.1
    opq := by rw [B.K]; exact h.2.2.2.2.2.2
    cls := by rw [B.xC]; exact ⟨_, _, _, _, _, _, _, _, _, _, _, _, _, _, B.at33⟩
    subs := by rw [B.K, B.xC]; exact h.2.2.2.2.1
    ns := ns32 B
    ini := o32i p }
theorem Base.errOk (B : Base c p mean) : ErrOk c := ⟨by rw [B.xC]; exact B.cls.2.1, by rw [B.xC]; exact ⟨_, _, _, _, _, _, _, _, _, _, _, _, _, _, _, _, B.at33⟩, B.ex⟩
theorem Base.raise (B : Base c p mean) : RaiseOk c := by
  have hk := ekeep p
  simp only [Prod.mk.injEq] at hk
  exact raise_ok B.err B.ex (by rw [B.xC]; exact B.cls.2.1) (by rw [B.K, B.xC]; exact hk.2)
end
end Mine
end
section
namespace Mine
theorem o50 (p : Params) : (hd.heap_1 p).lookup 50 = some (objK p 50) := by kernel_rfl
theorem f50 (p : Params) : (objK p 50).data = .func (fdK p 50) := by kernel_rfl
theorem f50b (p : Params) : (fdK p 50).body = .stmts (ibd 8) := by kernel_rfl
theorem f50k (p : Params) : (fdK p 50).scope.kind = .function := by kernel_rfl
theorem f50n (p : Params) : (fdK p 50).scope.names = inm 8 := by kernel_rfl
theorem f50o (p : Params) : ((fdK p 50).scope.isCoroutine, (fdK p 50).scope.isGenerator) = (false, false) := by kernel_rfl
theorem f50g (p : Params) : ((fdK p 50).globals, (fdK p 50).builtins) = (mainGlobals, builtinsNs) := by kernel_rfl
theorem f50d (p : Params) : codeIn (hd.heap_1 p) (fdK p 50).code (fdK p 50).qualname = true := by kernel_rfl
noncomputable def dargs (x a b d e : Value) : List (Str × Value) := [("self", x), ("blocks", a), ("block", b), ("record", d), ("entries", e)]
theorem f50a (p : Params) (x a b d e : Value) : bindArgs (fdK p 50) ⟨[x, a, b, d, e], []⟩ = pure (dargs x a b d e) := by kernel_rfl
noncomputable def diskN : List Str := ["blocks", "block", "record", "entries", "is_read_only", "given", "data"]
theorem dset0 (p : Params) : findIn (hd.heap_1 p) (.ref 53) "__setattr__" = some (some (.builtin "object.__setattr__")) := by kernel_rfl
theorem dset1 (p : Params) : plainOver (hd.heap_1 p) 53 = true := by kernel_rfl
theorem dset2 (p : Params) : (diskN.map (takerIn (hd.heap_1 p) 53)) = List.replicate 7 (some none) := by kernel_rfl
theorem dset3 (p : Params) : hasDictIn (hd.heap_1 p) 53 = true := by kernel_rfl
theorem dmk (p : Params) : (makesIn (hd.heap_1 p) 53, findIn (hd.heap_1 p) (.ref 53) "__init__", typeIn (hd.heap_1 p) (.ref 50), keepIn (hd.heap_1 p) (.ref 53)) = (true, some (some (.ref 50)), some (.type "function"), true) := by kernel_rfl

section
variable {c : Cfg} {p : Params} {mean : ExcName → Option Value}
theorem Base.dset (B : Base c p mean) : ∀ x ∈ diskN, SetOk c.K 53 x := fun x hx => by
  rw [B.K]
  refine ⟨dset0 p, dset1 p, ?_, dset3 p⟩
  have h := dset2 p
  have : List.replicate 7 (some none) = diskN.map (fun _ => (some none : Option (Option Value))) := rfl
  rw [this] at h
  exact List.map_inj_left.mp h x hx
end
section
variable {M : Model} {A : Around} {E : Value → Shared → Prop} {s : Shared} {env : Env} {Q : Value → Shared → Prop}
theorem nm_loc {x : Str} {pos : Pos} {m : Str → Option Value} {v : Value} (hk : env.scope.kind = .function) (hx : env.kindOf x = some .local) (hn : s.heap.Ns env.locals m) (hv : m x = some v) (h : Q v s) (hd : (x == ("__debug__" : Str)) = false := by decide) :
    wpAny M A (eval (.Name x pos) env) Q E s := wpAny_Name (wpAny_loadName_local hk hx hn hv h) hd
theorem nm_glob {x : Str} {pos : Pos} {mg : Str → Option Value} {v : Value} (hk : env.scope.kind = .function) (hx : env.kindOf x = some .globalImplicit) (hn : s.heap.Ns env.globals mg) (hv : mg x = some v) (h : Q v s) (hd : (x == ("__debug__" : Str)) = false := by decide) :
    wpAny M A (eval (.Name x pos) env) Q E s := Calls.Name_function_global hk hx (Calls.loadGlobal_global hn hv h) hd
end
section
variable {prog : Program} {w : World} {A : Around} {E : Value → Shared → Prop} {s : Shared} {Q : Value → Shared → Prop}
/-- [a] * k, the list new -/
theorem mulrep_at {x : Addr} {a k : Int} {t u : Tok} {n1 : Nat} (e1 : s.heap.get? x = some (listOf #[.int a t] n1)) (h0 : 0 ≤ k) (hz : k ≤ 1000000)
    (h : Q (.ref s.heap.objs.size) { s with heap := s.heap.push (listOf (List.replicate k.toNat (Value.int a t)).toArray 0) }) : wpAny (model prog w) A (binaryOp .Mult (.ref x) (.int k u)) Q E s := by
  have hsz : (#[Value.int a t] : Array Value).size * k.toNat ≤ 2 ^ 24 := by show 1 * k.toNat ≤ 2 ^ 24; (first | lia | omega)
  refine wpAny_binaryOp_repeat_ref (T := "list") (U := "int") (by decide) ⟨_, e1, rfl⟩ (fun s' => typeIs_int s' k u) noFill_list_mul PySem.F.fills_int_mul PySem.F.slot_int_rmul repeat_list PySem.F.slot_int_index.lookup
    (call_meets PySem.F.slot_int_rmul (typeIs_int _ k u) PySem.F.entry_int_rmul (PySem.F.args_int_rmul_2 _ _) (int___rmul___int_list k u x _ n1)
      ⟨e1, rfl, ⟨_, e1, rfl⟩, call_meets PySem.F.slot_list_mul ⟨_, e1, rfl⟩ PySem.F.entry_list_mul (PySem.F.args_list_mul_2 _ _)
        (AutoListH.list___mul___list_int_3 x _ n1 k u (by simp [Builtin.List.listFitsIndex]; (first | lia | omega)) (by simp; (first | lia | omega)) (by simp [Builtin.List.listTooLong, sizeLine]; (first | lia | omega)))
        ⟨e1, ?_⟩⟩)
  have e : List.foldl (fun x1 x2 => x1 ++ x2) #[] (List.replicate (if ([Value.int a t].toArray).isEmpty = true then 0 else k.toNat) [Value.int a t].toArray) = (List.replicate k.toNat (Value.int a t)).toArray := by
    simp only [List.isEmpty_toArray, List.isEmpty_cons, Bool.false_eq_true, if_false, listMul_foldl]
    apply Array.ext'
    simp
  rw [e]
  exact h
end
end Mine
end
section
namespace Mine
/-- a disk's dict, filled -/
noncomputable def DictD (es : List DictEntry) (G D : Addr) : Prop :=
  (∃ t, getL "blocks" es = some (some (.int 8 t))) ∧ (∃ t, getL "block" es = some (some (.int 32 t))) ∧ (∃ t, getL "record" es = some (some (.int 16 t))) ∧ (∃ t, getL "entries" es = some (some (.int 4 t))) ∧
    getL "is_read_only" es = some (some (.bool false)) ∧ getL "given" es = some (some (.ref G)) ∧ getL "data" es = some (some (.ref D))
section
variable {c : Cfg} {p : Params} {mean : ExcName → Option Value} {A : Around} {s : Shared} {R : Result → Shared → Prop}
theorem dinit (B : Base c p mean) (base : ∀ a o, c.B0.get? a = some o → s.heap.get? a = some o) (hroom : A.depth < recursionLimit) {x d : Addr} {t1 t2 t3 t4 : Tok} (hx : s.heap.get? x = some (instObj 53 d)) (hd : s.heap.get? d = some (dictOf [] 0)) (hdB : c.B0.get? d = none) (hxd : x ≠ d)
    (h : ∀ h' tk es k G D kg kd vs, h'.get? x = some (instObj 53 d) → h'.get? d = some (dictOf es k) → DictD es G D → h'.get? G = some (listOf #[] kg) → h'.get? D = some (listOf (List.toArray vs) kd) → IntsAre vs (List.replicate 256 229) → s.heap.get? G = none → s.heap.get? D = none → G ≠ D →
      (∀ b o, b ≠ d → s.heap.get? b = some o → h'.get? b = some o) → R (.ok (.ret .none)) { s with heap := h', toks := tk }) :
    codeAny (model c.prog c.w) A (.call (.ref 50) ⟨[.ref x, .int 8 t1, .int 32 t2, .int 16 t3, .int 4 t4], []⟩) R s := by
  have T0 := B.top0
  have K := B.cfg
  have ho := f50o p
  have hg := f50g p
  simp only [Prod.mk.injEq] at ho hg
  have hcell : ∀ x ∈ (fdK p 50).scope.names, x.2 ≠ .cell := fun y hy => by
    rw [f50n] at hy
    have : ((inm 8).all fun x => x.2 != .cell) = true := rfl
    simpa using List.all_eq_true.mp this y hy
  have hloc : ∀ y ∈ dargs (.ref x) (.int 8 t1) (.int 32 t2) (.int 16 t3) (.int 4 t4), (fdK p 50).scope.names.lookup y.1 = some .local := fun y hy => by
    rw [f50n]
    unfold dargs at hy
    simp only [List.mem_cons, List.not_mem_nil, or_false] at hy
    rcases hy with rfl | rfl | rfl | rfl | rfl <;> rfl
  refine codeAny_call_function hroom (base _ _ (B.inK _ _ (o50 p))) (f50 p) ho.1 ho.2 (f50b p) ((codeRec_of B.inK (f50d p)).keeps base) ?_
  rw [f50a]
  refine wpAny_pure (wpAny_newFunctionEnv hcell hloc (fun h₀ hns hsb => ⟨(K.nolimit.keeps base).fresh _ hsb, codeAny_func ?_⟩) (f50k p))
  have k0 : ∀ b o, s.heap.get? b = some o → h₀.get? b = some o := fun b o e => hsb.extBut b o (Nat.ne_of_lt (Heap.lt_size e)) (Heap.get?_push_of_some _ e)
  generalize hL : s.heap.objs.size = L at hns ⊢
  generalize henv : newEnv (fdK p 50).scope L (fdK p 50).globals (fdK p 50).closure ((fdK p 50).qualname ++ ".<locals>.") (some 50) (fdK p 50).code none (fdK p 50).builtins = env
  have hkind : env.scope.kind = .function := by rw [← henv]; exact f50k p
  have hk : ∀ x kd, (inm 8).lookup x = some kd → env.kindOf x = some kd := fun x kd h => by
    rw [← henv]
    show (fdK p 50).scope.names.lookup x = _
    rw [f50n]; exact h
  have hl : env.locals = L := by rw [← henv]; rfl
  have hgl : env.globals = mainGlobals := by rw [← henv]; exact hg.1
  rw [← hl] at hns
  have gl : ∀ {h : Heap}, (∀ b o, h₀.get? b = some o → b ≠ d → h.get? b = some o) → h.Ns env.globals c.mg := fun kk => by
    rw [hgl]
    exact K.g.keeps fun b o z => kk b o (k0 _ _ (base _ _ z)) (fun q => by rw [q, hdB] at z; cases z)
  let lk : Str → Option Value := fun y => (dargs (.ref x) (.int 8 t1) (.int 32 t2) (.int 16 t3) (.int 4 t4)).reverse.lookup y
  have dL : d ≠ L := by rw [← hL]; exact Nat.ne_of_lt (Heap.lt_size hd)
  have ns1 : ∀ {h : Heap}, (∀ b o, b ≠ d → h₀.get? b = some o → h.get? b = some o) → h.Ns env.locals lk := fun kk => ns_kp (M := (· = d)) (.of_keeps fun b o hb z => kk b o hb z) (fun q => dL (by rw [← q, hl])) hns
  have X1 : ∀ {h : Heap}, (∀ b o, b ≠ d → h₀.get? b = some o → h.get? b = some o) → c.K.In h := fun kk => K.X.keeps fun b o z => kk b o (fun q => by rw [q, hdB] at z; cases z) (k0 _ _ (base _ _ z))
  have hx0 := k0 _ _ hx
  have step : ∀ {a : Str} {e : PySem.Expr} {v : Value} {es : List DictEntry} {k : Nat} {h h1 : Heap} {tk tk1 : Nat} {p1 p2 p4 : Pos} {rest : List Stmt} {Q : Flow → Shared → Prop} {E : Value → Shared → Prop}, a ∈ diskN → (∀ b o, b ≠ d → h₀.get? b = some o → h1.get? b = some o) → h1.get? d = some (dictOf es k) → (getL a es).isSome = true → es.length < 1000 →
      (∀ Q', Q' v { s with heap := h1, toks := tk1 } → wpAny (model c.prog c.w) (A.deeper env) (eval e env) Q' E { s with heap := h, toks := tk }) → swapsWith e (some (.Attribute (.Name "self" p1) a p2)) p4.line env = pure false →
      (∀ h2 tk2 hs tk', (∀ b o, b ≠ d → h1.get? b = some o → h2.get? b = some o) → h2.get? d = some (dictOf (putL a hs (.str a tk') v es) (putN a es k)) → wpAny (model c.prog c.w) (A.deeper env) (execs rest env) Q E { s with heap := h2, toks := tk2 }) →
      wpAny (model c.prog c.w) (A.deeper env) (execs (.Assign [.Attribute (.Name "self" p1) a p2] e p4 :: rest) env) Q E { s with heap := h, toks := tk } := by
    intro a e v es k h h1 tk tk1 p1 p2 p4 rest Q E ha kk hd1 hl1 hz he hsw hr
    refine wpAny_execs_cons (plainObj_wpAny_Assign_Attribute (he _ (nm_loc (v := .ref x) hkind (hk _ _ rfl) (ns1 kk) rfl (setA (s := { s with heap := h1, toks := tk1 }) (X1 kk) (B.dset a ha) (kk _ _ hxd hx0) hd1 hl1 hz fun h2 tk2 hs tk' q1 q2 => ?_))) hsw)
    exact hr h2 tk2 hs tk' (fun b o hb z => (q2 b hb).trans z) q1
  obtain ⟨tE, hE⟩ := T0.ENTRY_SIZE
  obtain ⟨tF, hF⟩ := T0.FREE
  have kk0 : ∀ b o, b ≠ d → h₀.get? b = some o → h₀.get? b = some o := fun _ _ _ z => z
  have tr : ∀ {h h1 h2 : Heap}, (∀ b o, b ≠ d → h.get? b = some o → h1.get? b = some o) → (∀ b o, b ≠ d → h1.get? b = some o → h2.get? b = some o) → ∀ b o, b ≠ d → h.get? b = some o → h2.get? b = some o := fun a b i o hb z => b i o hb (a i o hb z)
  refine wpAny_execs_cons (wpAny_If (wpAny_isTrue_Compare1 (wpAny_BinOp (nm_loc (v := .int 4 t4) hkind (hk _ _ rfl) (ns1 kk0) rfl (nm_glob (v := .int 32 tE) hkind (hk _ _ rfl) (gl fun b o z _ => z) hE (PyProof.Rows.mul_int (wpAny_BinOp (nm_loc (v := .int 8 t1) hkind (hk _ _ rfl) (ns1 kk0) rfl (nm_loc (v := .int 32 t2) hkind (hk _ _ rfl) (ns1 kk0) rfl (PyProof.Rows.mul_int (gt_int (wpAny_truthy_bool ?_)) (.of_left (by decide)))))) (.of_left (by decide)))))) rfl))
  rw [if_neg (by decide)]
  refine wpAny_execs_nil ?_
  refine step (e := .Name _ _) (v := .int 8 t1) (es := []) (k := 0) (by decide) kk0 (k0 _ _ hd) rfl (by decide) (fun Q' q => nm_loc hkind (hk _ _ rfl) (ns1 kk0) rfl q) rfl fun h1 tk1 a1 b1 k1 d1 => ?_
  refine step (e := .Name _ _) (v := .int 32 t2) (by decide) k1 d1 rfl (by show 1 < 1000; decide) (fun Q' q => nm_loc hkind (hk _ _ rfl) (ns1 k1) rfl q) rfl fun h2 tk2 a2 b2 k2' d2 => ?_
  have k2 := tr k1 k2'
  refine step (e := .Name _ _) (v := .int 16 t3) (by decide) k2 d2 rfl (by show 2 < 1000; decide) (fun Q' q => nm_loc hkind (hk _ _ rfl) (ns1 k2) rfl q) rfl fun h3 tk3 a3 b3 k3' d3 => ?_
  have k3 := tr k2 k3'
  refine step (e := .Name _ _) (v := .int 4 t4) (by decide) k3 d3 rfl (by show 3 < 1000; decide) (fun Q' q => nm_loc hkind (hk _ _ rfl) (ns1 k3) rfl q) rfl fun h4 tk4 a4 b4 k4' d4 => ?_
  have k4 := tr k3 k4'
  refine step (e := .Constant _ _ _) (v := .bool false) (by decide) k4 d4 rfl (by show 4 < 1000; decide) (fun Q' q => wpAny_Constant_bool q) rfl fun h5 tk5 a5 b5 k5' d5 => ?_
  have k5 := tr k4 k5'
  -- self.given = []
  have k6a : ∀ b o, b ≠ d → h5.get? b = some o → (h5.push (listOf #[] 0)).get? b = some o := fun b o _ z => Heap.get?_push_of_some _ z
  have G5 : (h5.push (listOf #[] 0)).get? h5.objs.size = some (listOf #[] 0) := Heap.get?_push_size _ rfl
  refine step (e := .List [] _) (v := .ref h5.objs.size) (h1 := h5.push (listOf #[] 0)) (tk1 := tk5) (by decide) (tr k5 k6a) (Heap.get?_push_of_some _ d5) rfl (by show 5 < 1000; decide) (fun Q' q => wpAny_List (wpAny_items_nil ⟨by decide, q⟩)) rfl fun h6 tk6 a6 b6 k6' d6 => ?_
  have k6 := tr (tr k5 k6a) k6'
  have dG : h5.objs.size ≠ d := Nat.ne_of_gt (Heap.lt_size d5)
  have G6 := k6' _ _ dG G5
  -- self.data = [FREE] * (blocks * block)
  have k7a : ∀ b o, b ≠ d → h6.get? b = some o → (h6.push (listOf #[.int 229 tF] 0)).get? b = some o := fun b o _ z => Heap.get?_push_of_some _ z
  have F7 : (h6.push (listOf #[.int 229 tF] 0)).get? h6.objs.size = some (listOf #[.int 229 tF] 0) := Heap.get?_push_size _ rfl
  have d7 : (h6.push (listOf #[.int 229 tF] 0)).get? d = _ := Heap.get?_push_of_some _ d6
  generalize hh7 : h6.push (listOf #[.int 229 tF] 0) = h7 at k7a F7 d7
  have k7 := tr k6 k7a
  have k8a : ∀ b o, b ≠ d → h7.get? b = some o → (h7.push (listOf (List.replicate (8 * 32 : Int).toNat (Value.int 229 tF)).toArray 0)).get? b = some o := fun b o _ z => Heap.get?_push_of_some _ z
  have D8 : (h7.push (listOf (List.replicate (8 * 32 : Int).toNat (Value.int 229 tF)).toArray 0)).get? h7.objs.size = some (listOf (List.replicate (8 * 32 : Int).toNat (Value.int 229 tF)).toArray 0) := Heap.get?_push_size _ rfl
  have dD : h7.objs.size ≠ d := Nat.ne_of_gt (Heap.lt_size d7)
  have gG7 := k7a _ _ dG G6
  have GD : h5.objs.size ≠ h7.objs.size := Nat.ne_of_lt (Heap.lt_size gG7)
  refine step (e := .BinOp (.List [.Name "FREE" _] _) .Mult (.BinOp (.Name "blocks" _) .Mult (.Name "block" _) _) _) (v := .ref h7.objs.size) (h1 := h7.push (listOf (List.replicate (8 * 32 : Int).toNat (Value.int 229 tF)).toArray 0)) (tk1 := tk6 + 1) (by decide) (tr k7 k8a) (Heap.get?_push_of_some _ d7) rfl (by show 6 < 1000; decide) (fun Q' q => ?_) rfl fun h9 tk9 a9 b9 k9' d9 => ?_
  · refine wpAny_BinOp (wpAny_List (wpAny_items_cons (nm_glob (v := .int 229 tF) hkind (hk _ _ rfl) (gl fun b o z hb => k6 b o hb z) hF (wpAny_items_nil ⟨by show 1 ≤ _; decide, ?_⟩)) rfl))
    show wpAny _ _ _ _ _ { s with heap := h6.push (listOf #[.int 229 tF] 0), toks := tk6 }
    rw [hh7]
    exact wpAny_BinOp (nm_loc (v := .int 8 t1) hkind (hk _ _ rfl) (ns1 k7) rfl (nm_loc (v := .int 32 t2) hkind (hk _ _ rfl) (ns1 k7) rfl (PyProof.Rows.mul_int (mulrep_at F7 (by decide) (by decide) q) (.of_left (by decide)))))
  refine wpAny_execs_nil ?_
  have kf := tr (tr k7 k8a) k9'
  have D9 := k9' _ _ dD D8
  have G9 := k9' _ _ dG (k8a _ _ dG gG7)
  have sn : ∀ {a : Addr}, L < a → s.heap.get? a = none := fun {a} q => ge_none (by rw [hL]; exact Nat.le_of_lt q)
  have L5 : L < h5.objs.size := by
    obtain ⟨o, _, _, e1, _⟩ := ns1 (h := h5) k5
    rw [hl] at e1
    exact Heap.lt_size e1
  have L7 : L < h7.objs.size := by
    obtain ⟨o, _, _, e1, _⟩ := ns1 (h := h7) k7
    rw [hl] at e1
    exact Heap.lt_size e1
  exact h h9 tk9 _ _ h5.objs.size h7.objs.size _ _ _ (kf _ _ hxd hx0) d9 ⟨⟨t1, rfl⟩, ⟨t2, rfl⟩, ⟨t3, rfl⟩, ⟨t4, rfl⟩, rfl, rfl, rfl⟩ G9 D9 (IntsAre.rep rfl _) (sn L5) (sn L7) GD fun b o hb z => kf b o hb (k0 _ _ z)
end
end Mine
end
section
namespace Mine
/-- what a new disk leaves -/
structure NewDisk (h h' : Heap) (x d G D : Addr) : Prop where
  ob : h'.get? x = some (instObj 53 d)
  di : ∃ es k, h'.get? d = some (dictOf es k) ∧ DictD es G D
  gi : ∃ k, h'.get? G = some (listOf #[] k)
  da : ∃ vs k, h'.get? D = some (listOf (List.toArray vs) k) ∧ IntsAre vs (List.replicate 256 229)
  nx : h.get? x = none
  nd : h.get? d = none
  nG : h.get? G = none
  nD : h.get? D = none
  xd : x ≠ d
  GD : G ≠ D
  xG : x ≠ G
  xD : x ≠ D
  dG : d ≠ G
  dD : d ≠ D
  keep : ∀ b o, h.get? b = some o → h'.get? b = some o
section
variable {c : Cfg} {p : Params} {mean : ExcName → Option Value} {A : Around} {s : Shared} {Q E : Value → Shared → Prop}
theorem mk_disk (B : Base c p mean) (base : ∀ a o, c.B0.get? a = some o → s.heap.get? a = some o) (hroom : A.depth + 4 < recursionLimit) {t1 t2 t3 t4 : Tok}
    (h : ∀ x d G D h' tk, NewDisk s.heap h' x d G D → Q (.ref x) { s with heap := h', toks := tk }) : wpAny (model c.prog c.w) A (call (.ref 53) [.int 8 t1, .int 32 t2, .int 16 t3, .int 4 t4]) Q E s := by
  have K := B.cfg
  have XK : c.K.In s.heap := K.X.keeps base
  have hm := dmk p
  simp only [Prod.mk.injEq] at hm
  rw [← B.K] at hm
  obtain ⟨hh, g, dr, t, os⟩ := s
  refine wpAny_call (make_core (makes_of XK hm.1) (looks_findIn XK hm.2.1) (fun self => bind_fn XK self hm.2.2.1) (.inl rfl) ?_)
  have keep : ∀ b o, hh.get? b = some o → ((hh.push emptyDict).push (instObj 53 hh.objs.size)).get? b = some o := fun b o e => Heap.get?_push_of_some _ (Heap.get?_push_of_some _ e)
  have ea : ((hh.push emptyDict).push (instObj 53 hh.objs.size)).get? (hh.objs.size + 1) = some (instObj 53 hh.objs.size) := by
    have := Heap.get?_push_size (hh.push emptyDict) (o := instObj 53 hh.objs.size) rfl
    rwa [Heap.size_push] at this
  have ed : ((hh.push emptyDict).push (instObj 53 hh.objs.size)).get? hh.objs.size = some (dictOf [] 0) := Heap.get?_push_of_some _ (Heap.get?_push_size _ rfl)
  have nd : hh.get? hh.objs.size = none := ge_none (Nat.le_refl _)
  have na : hh.get? (hh.objs.size + 1) = none := ge_none (Nat.le_succ _)
  have hne : @Ne Addr (hh.objs.size + 1) hh.objs.size := ane (Nat.succ_ne_self _)
  have hB : c.B0.get? hh.objs.size = none := by
    cases z : c.B0.get? hh.objs.size with
    | none => rfl
    | some o => exact (off_none (base _ _ z) nd).elim
  refine dinit (s := ⟨(hh.push emptyDict).push (instObj 53 hh.objs.size), g, dr, t, os⟩) B (fun a o z => keep _ _ (base a o z)) (by rw [depth_under_make]; (first | lia | omega)) ea ed hB hne fun h' tk es k G D kg kd vs q1 q2 q3 q4 q5 q6 q7 q8 q9 q10 => ?_
  have ne1 : ∀ {a b : Addr} {o : Obj}, ((hh.push emptyDict).push (instObj 53 hh.objs.size)).get? a = some o → ((hh.push emptyDict).push (instObj 53 hh.objs.size)).get? b = none → a ≠ b := fun {a b o} e1 e2 z => by rw [z, e2] at e1; cases e1
  have old : ∀ {a : Addr}, ((hh.push emptyDict).push (instObj 53 hh.objs.size)).get? a = none → hh.get? a = none := fun {a} e => by
    cases z : hh.get? a with
    | none => rfl
    | some o => have := keep _ _ z; rw [e] at this; cases this
  refine ⟨rfl, h (hh.objs.size + 1) hh.objs.size G D h' tk ⟨q1, ⟨es, k, q2, q3⟩, ⟨kg, q4⟩, ⟨vs, kd, q5, q6⟩, na, nd, old q7, old q8, hne, q9, ne1 ea q7, ne1 ea q8, ne1 ed q7, ne1 ed q8, fun b o z => q10 b o (fun y => ?_) (keep b o z)⟩⟩
  rw [y, nd] at z; cases z
end
end Mine
end
section
namespace Mine
noncomputable abbrev lawProg : Program := PySem.Challenge.rw_sm0122_01.row.prog
noncomputable abbrev mkC (w : World) (h : Heap) (mg mb : Str → Option Value) (D Fd x d G cl : Addr) : Cfg :=
  { prog := lawProg, w := w, K := hd.heap_1 w.params, B0 := h, mg := mg, mb := mb, D := D, Fd := Fd, disk := x, dd := d, G := G, cl := cl, DiskC := 53, EntC := 74, ErrC := 33, ep := fun _ => False }
/-- the law's frame, as it stands -/
structure FrameAt (h0 : Heap) (env : Env) (L : Addr) (h : Heap) : Prop where
  fr : ∃ o es j, h.get? L = some o ∧ o.cls = .type "frame" ∧ o.data = .dict es j
  ns : ∃ m, h.Ns L m
  L0 : h0.get? L = none
  cell : ∀ x b, (x, b) ∈ env.cells → (∃ v, h.IsCell b v) ∧ h0.get? b = none
  apart : env.cells.Pairwise fun x y => x.2 ≠ y.2
  has : ∀ x, env.kindOf x = some .cell → ∃ a, env.cells.lookup x = some a
  keep : ∀ b o, h0.get? b = some o → h.get? b = some o
theorem FrameAt.grow {h0 : Heap} {env : Env} {L : Addr} {h h' : Heap} (F : FrameAt h0 env L h) (k : ∀ b o, h.get? b = some o → h'.get? b = some o) : FrameAt h0 env L h' :=
  ⟨let ⟨o, es, j, a, b, c⟩ := F.fr; ⟨o, es, j, k _ _ a, b, c⟩, let ⟨m, q⟩ := F.ns; ⟨m, q.keeps k⟩, F.L0, fun x b q => let ⟨⟨v, z⟩, y⟩ := F.cell x b q; ⟨⟨v, z.keeps k⟩, y⟩, F.apart, F.has, fun b o z => k _ _ (F.keep b o z)⟩
section
variable {w : World} {s0 : Heap} {s : Shared} {mg mb : Str → Option Value} {mean : ExcName → Option Value} {env : Env} {L : Addr}
theorem base_mk (inK : (hd.heap_1 w.params).In s0) (T : Top vw (looseW vw []) mean mg mb s0) (D Fd x d G cl : Addr) : Base (mkC w s0 mg mb D Fd x d G cl) w.params mean := ⟨rfl, inK, T, rfl, rfl, rfl, rfl⟩
theorem law_tail (inK : (hd.heap_1 w.params).In s0) (T : Top vw (looseW vw []) mean mg mb s0) (vk : env.scope.kind = .function) (vn : env.scope.names = nm 58) (vg : env.globals = mainGlobals) (vb : env.builtins = builtinsNs) (vl : env.locals = L) (vf : env.frame = some L)
    (F : FrameAt s0 env L s.heap) {tp Fd cl0 x d G D : Addr} {hB : Heap} {cells : List Int} {us : List Value} {tz : Tok} {nf nc : Nat} {xp yp tpp : Pos} {kk : Nat}
    (ht : s.heap.get? tp = some { cls := .type "tuple", data := .seq #[.ref Fd, .ref x] }) (hF : s.heap.get? Fd = some (listOf #[.ref cl0, .int 0 tz] nf)) (hc : s.heap.get? cl0 = some (listOf us.toArray nc)) (hu : IntsAre us cells) (hlen : cells.length ≤ 63)
    (ND : NewDisk hB s.heap x d G D) (F0 : s0.get? Fd = none) (D0 : s0.get? D = none) (n1 : D ≠ Fd) (n2 : cl0 ≠ D) (n3 : cl0 ≠ Fd) (n4 : G ≠ Fd)
    {Q : Flow → Shared → Prop} {E : Value → Shared → Prop} (hQ : ∀ h' tk, (∀ b o, s0.get? b = some o → h'.get? b = some o) → Q (.ret (.bool true)) { s with heap := h', toks := tk }) :
    wpAny (model lawProg w) (callerA.deeper env) (assign (.Tuple [.Name "feed" xp, .Name "disk" yp] kk tpp) env (.ref tp)) (fun _ s' => wpAny (model lawProg w) (callerA.deeper env) (execs ((bd 58).drop 1) env) Q E s') E s := by
  let c : Cfg := mkC w s0 mg mb D Fd x d G cl0
  have B : Base c w.params mean := base_mk inK T D Fd x d G cl0
  have K := B.cfg
  let X : Addr → Prop := fun b => b = L ∨ (∃ y, (y, b) ∈ env.cells) ∨ c.Mut b
  have hX : ∀ b, c.Mut b → X b := fun b q => .inr (.inr q)
  obtain ⟨oL, esL, jL, eL, cL, dL⟩ := F.fr
  obtain ⟨es, ke, hde, hD⟩ := ND.di
  obtain ⟨kG, hG⟩ := ND.gi
  obtain ⟨vs, kD, hDa, hDi⟩ := ND.da
  have nX : ∀ {b : Addr} {o : Obj}, s.heap.get? b = some o → (∀ es j, o.data ≠ .dict es j) → (∀ v, o.data ≠ .cell v) → b ≠ D → b ≠ Fd → ¬ X b := fun {b o} e h1 h2 h3 h4 q => by
    rcases q with q | ⟨y, q⟩ | q | q
    · rw [q, eL] at e; cases e; exact h1 _ _ dL
    · obtain ⟨⟨v, o', e', dc⟩, _⟩ := F.cell y b q
      rw [e] at e'; cases e'; exact h2 _ dc
    · exact h3 q
    · exact h4 q
  have live : ∀ b, X b → ∃ o, s.heap.get? b = some o := fun b q => by
    rcases q with q | ⟨y, q⟩ | q | q
    · exact ⟨_, by rw [q]; exact eL⟩
    · obtain ⟨⟨v, o', e', _⟩, _⟩ := F.cell y b q; exact ⟨_, e'⟩
    · exact ⟨_, by rw [q]; exact hDa⟩
    · exact ⟨_, by rw [q]; exact hF⟩
  have fresh : ∀ b, c.Mut b → c.B0.get? b = none := fun b q => by
    rcases q with q | q
    · rw [q]; exact D0
    · rw [q]; exact F0
  have stay : ∀ b, X b → c.B0.get? b = none := fun b q => by
    rcases q with q | ⟨y, q⟩ | q
    · rw [q]; exact F.L0
    · exact (F.cell y b q).2
    · exact fresh b q
  have dLne : d ≠ L := fun q => by rw [q, eL] at hde; cases hde; exact dict_cls cL
  have xD : x ≠ D := ND.xD
  have xF : x ≠ Fd := fun q => by have z := ND.ob; rw [q, hF] at z; have z := congrArg Obj.data (Option.some.inj z); cases z
  have dF : d ≠ Fd := fun q => by rw [q, hF] at hde; have z := congrArg Obj.data (Option.some.inj hde); cases z
  have nXd : ¬ X d := fun q => by
    rcases q with q | ⟨y, q⟩ | q | q
    · exact dLne q
    · obtain ⟨⟨v, o', e', dc⟩, _⟩ := F.cell y d q
      rw [hde] at e'; cases e'; cases dc
    · exact ND.dD q
    · exact dF q
  have RX : RelH c X ⟨List.replicate 256 229, 0, cells⟩ s.heap :=
    { base := F.keep
      live := live
      muts := hX
      ne := n1
      data := ⟨vs, kD, hDa, hDi⟩
      feed := ⟨tz, nf, hF⟩
      cells := ⟨nX hc (fun _ _ z => by cases z) (fun _ z => by cases z) n2 n3, us, nc, hc, hu⟩
      given := ⟨nX hG (fun _ _ z => by cases z) (fun _ z => by cases z) ND.GD n4, [], kG, hG, .nil⟩
      obj := ⟨nX ND.ob (fun _ _ z => by cases z) (fun _ z => by cases z) xD xF, ND.ob⟩
      dict := ⟨nXd, es, ke, hde, hD⟩
      fresh := fresh
      stay := stay
      epl := fun _ q => q.elim }
  have R : RelH c (Un X No) ⟨List.replicate 256 229, 0, cells⟩ s.heap := by rw [Un.no]; exact RX
  have hfrs : (callerA.deeper env).frames = some [env] := rfl
  have FF : FrsOk s.heap [env] := ⟨vk, ⟨L, oL, esL, jL, vf, eL, cL, dL⟩, trivial⟩
  obtain ⟨m, hns⟩ := F.ns
  have W : Act c X No (callerA.deeper env) 21 env (nm 58) [] ⟨List.replicate 256 229, 0, cells⟩ s.heap :=
    { ok := ⟨rfl, by show 1 + claimMargin + 1 + 21 < recursionLimit; decide, by show 4 + 3 + 8 * 21 + 8 < cLine; decide, fun l hl f hf' L' e => by
        rw [hfrs] at hl; cases hl
        obtain rfl := List.mem_singleton.mp hf'
        rw [vf] at e; cases e
        exact F.L0⟩
      frs := ⟨[env], hfrs, FF⟩
      kind := vk
      names := vn
      glob := vg
      blt := vb
      excl := fun b q => by
        rcases q with q | q
        · exact .inl (by rw [q, vl])
        · exact .inr (.inl q)
      fr := ⟨⟨m, by rw [vl]; exact hns, fun x t e => by simp at e⟩, fun x t e => by simp at e, fun x b q => (F.cell x b q).1, F.apart, F.has⟩
      rel := R }
  refine assign_Tuple_tuple W.ok.1 ⟨_, ht, rfl, _, rfl⟩ rfl rfl fun h2 he => ?_
  have k2 : ∀ b o, s.heap.get? b = some o → h2.get? b = some o := fun b o e => he b o (Nat.ne_of_lt (Heap.lt_size e)) e
  have R2 := rel_keeps R k2
  have kN : Kp No s.heap h2 := .of_keeps fun a o _ e => k2 a o e
  have W2 := W.kp (kN.mono fun _ q => q.elim) R2 hX
  have S : Start ⟨List.replicate 256 229, 0, cells⟩ 0 := ⟨by simp, .rep ⟨by decide, by decide⟩, fun _ h => absurd h (by (first | lia | omega)), by show (0 : Int) ≤ 0; decide, by show (0 : Int) ≤ 6 * 0; decide, hlen⟩
  refine store_two (s := { s with heap := h2 }) (fun v s Q h => wpAny_assign_Name h) (fun v s Q h => wpAny_assign_Name h) hX W2 (t := .feed) (u := .disk) (by simp only [Rep]; rfl) (by simp only [Rep]; rfl) (.inl (by rfl)) (.inr (by rfl)) fun h3 tk3 W3 k3 => ?_
  have L3 := W3.rel.base
  refine law_rest (P := fun o => ∃ σ, o = .ret (.bool true) σ) B.top0 B.raise B.errOk S (fun σ' => ⟨_, rfl⟩) K X No _ env { s with heap := h3, toks := tk3 } _ _ hX W3 ⟨fun loc' σ' h' tk q => ?_, fun t σ' v h' tk q R' k' r => ?_, fun w' σ' e h' tk q => ?_⟩
  · obtain ⟨_, q⟩ := q; cases q
  · obtain ⟨_, q⟩ := q
    cases q
    simp only [Rep] at r
    subst r
    exact hQ h' tk R'.base
  · obtain ⟨_, q⟩ := q; cases q
end
end Mine
end
section
namespace Mine
noncomputable def Keeps (h h' : Heap) : Prop := ∀ b o, h.get? b = some o → h'.get? b = some o
section
variable {prog : Program} {w : World} {A : Around} {E : Value → Shared → Prop} {s : Shared} {env : Env} {Q : Value → Shared → Prop}
theorem row_cut {a : Addr} {vs : List Value} {l : List Int} {m : Str → Option Value} {q1 q2 q3 q4 : Pos} {k1 : Nat} (hk : env.scope.kind = .function) (hx : env.kindOf "script" = some .local) (hn : s.heap.Ns env.locals m) (hm : m "script" = some (.ref a)) (hL : s.heap.IsList a vs.toArray) (hI : IntsAre vs l) (hlen : l.length ≤ 63)
    (h : ∀ cl us h' tk, h'.get? cl = some (listOf (List.toArray us) 0) → IntsAre us (cut l none (some 60)) → Keeps s.heap h' → s.heap.get? cl = none → Q (.ref cl) { s with heap := h', toks := tk }) :
    wpAny (model prog w) A (eval (.Subscript (.Name "script" q1) (.Slice none (some (.Constant (.int 60) k1 q2)) none q3) q4) env) Q E s := by
  obtain ⟨us, hpick, hus⟩ := pick_ints hI none (some 60)
  have hvs := ints_len hI
  refine wpAny_Subscript_list_slice (nm_loc hk hx hn hm ?_) (fun _ _ => rfl)
  rw [evalPart_none]
  refine wpAny_pure ?_
  rw [evalPart_some]
  refine wpAny_Constant_int ⟨a, vs.toArray, none, some 60, rfl, hL, by rw [List.size_toArray, hvs]; exact Nat.le_trans hlen (by decide), .none, .int _ _, ?_⟩
  have hpick : slicePick vs.toArray none (some 60) none = us.toArray := hpick
  rw [hpick]
  have e1 := Heap.get?_push_size (s.heap.push { cls := .type "slice", data := .fields #[.none, .int 60 s.toks, .none] }) (o := listOf us.toArray 0) rfl
  rw [Heap.size_push] at e1
  exact h _ us _ (s.toks + 1) e1 hus (fun b o z => Heap.get?_push_of_some _ (Heap.get?_push_of_some _ z)) (ge_none (Nat.le_succ _))
theorem row_list {a : Addr} {vs : List Value} {l : List Int} {m : Str → Option Value} {q1 q2 q3 q4 q5 q6 : Pos} {k1 k2 : Nat} (hk : env.scope.kind = .function) (hx : env.kindOf "script" = some .local) (hn : s.heap.Ns env.locals m) (hm : m "script" = some (.ref a)) (hL : s.heap.IsList a vs.toArray) (hI : IntsAre vs l) (hlen : l.length ≤ 63)
    (h : ∀ cl us Fd tz h' tk, h'.get? cl = some (listOf (List.toArray us) 0) → IntsAre us (cut l none (some 60)) → h'.get? Fd = some (listOf #[.ref cl, .int 0 tz] 0) → Keeps s.heap h' → s.heap.get? Fd = none → cl ≠ Fd → Q (.ref Fd) { s with heap := h', toks := tk }) :
    wpAny (model prog w) A (eval (.List [.Subscript (.Name "script" q1) (.Slice none (some (.Constant (.int 60) k1 q2)) none q3) q4, .Constant (.int 0) k2 q5] q6) env) Q E s := by
  refine wpAny_List (wpAny_items_cons (row_cut hk hx hn hm hL hI hlen fun cl us h' tk e1 i1 k1 n1 => ?_) rfl)
  refine wpAny_items_cons (wpAny_Constant_int (wpAny_items_nil ⟨by show 2 ≤ _; decide, ?_⟩)) rfl
  have e2 := Heap.get?_push_size h' (o := listOf #[.ref cl, .int 0 tk] 0) rfl
  refine h cl us _ tk _ (tk + 1) (Heap.get?_push_of_some _ e1) i1 e2 (fun b o z => Heap.get?_push_of_some _ (k1 b o z)) ?_ (Nat.ne_of_lt (Heap.lt_size e1))
  cases z : s.heap.get? h'.objs.size with
  | none => rfl
  | some o => exact absurd (Heap.lt_size (k1 _ _ z)) (Nat.lt_irrefl _)
theorem row_disk {c : Cfg} {p : Params} {mean : ExcName → Option Value} (B : Base c p mean) (base : ∀ a o, c.B0.get? a = some o → s.heap.get? a = some o) (hroom : A.depth + 4 < recursionLimit) {q1 q2 q3 q4 q5 q6 : Pos} {k1 k2 k3 k4 : Nat} (hk : env.scope.kind = .function) (hx : env.kindOf "Disk" = some .globalImplicit) (hg : env.globals = mainGlobals)
    (h : ∀ x d G D h' tk, NewDisk s.heap h' x d G D → Q (.ref x) { s with heap := h', toks := tk }) :
    wpAny (model c.prog c.w) A (eval (.Call (.Name "Disk" q1) [.Constant (.int 8) k1 q2, .Constant (.int 32) k2 q3, .Constant (.int 16) k3 q4, .Constant (.int 4) k4 q5] [] q6) env) Q E s := by
  have K := B.cfg
  have hm := dmk p
  simp only [Prod.mk.injEq] at hm
  rw [← B.K] at hm
  show wpAny _ _ (do callWith q6 (← eval (.Name "Disk" q1) env) [] (backTo q6 (starEach [.Constant (.int 8) k1 q2, .Constant (.int 32) k2 q3, .Constant (.int 16) k3 q4, .Constant (.int 4) k4 q5] env)) (backToKw q6 (keywordEach [] env))) _ _ _
  refine wpAny_bind (nm_glob hk hx (by rw [hg]; exact K.g.keeps base) B.cls.2.2 ?_)
  show wpAny _ _ (callWith q6 (.ref 53) [] (backTo q6 (starEach [.Constant (.int 8) k1 q2, .Constant (.int 32) k2 q3, .Constant (.int 16) k3 q4, .Constant (.int 4) k4 q5] env)) []) _ _ _
  have XK : c.K.In s.heap := K.X.keeps base
  refine callWith_K (h₀ := s.heap) XK hm.2.2.2 ?_ rfl rfl
  refine wpAny_items_cons (wpAny_Constant_int (wpAny_items_cons (wpAny_Constant_int (wpAny_items_cons (wpAny_Constant_int (wpAny_items_cons (wpAny_Constant_int (wpAny_items_nil ⟨XK, ?_⟩)) rfl)) rfl)) rfl)) rfl
  exact mk_disk (s := { s with toks := s.toks + 1 + 1 + 1 + 1 }) B base hroom fun x d G D h' tk ND => h x d G D h' tk ND
/-- the value of the law's first row -/
theorem row_value {c : Cfg} {p : Params} {mean : ExcName → Option Value} (B : Base c p mean) (base : ∀ a o, c.B0.get? a = some o → s.heap.get? a = some o) (hroom : A.depth + 4 < recursionLimit) {a : Addr} {vs : List Value} {l : List Int} {m : Str → Option Value} {q1 q2 q3 q4 q5 q6 r1 r2 r3 r4 r5 r6 r7 : Pos} {k1 k2 k3 k4 k5 k6 k7 : Nat}
    (hk : env.scope.kind = .function) (hx : env.kindOf "script" = some .local) (hxd : env.kindOf "Disk" = some .globalImplicit) (hg : env.globals = mainGlobals) (hn : s.heap.Ns env.locals m) (hm : m "script" = some (.ref a)) (hL : s.heap.IsList a vs.toArray) (hI : IntsAre vs l) (hlen : l.length ≤ 63)
    (h : ∀ cl us Fd tz x d G D hB h' tk tp, h'.get? cl = some (listOf (List.toArray us) 0) → IntsAre us (cut l none (some 60)) → h'.get? Fd = some (listOf #[.ref cl, .int 0 tz] 0) → Keeps s.heap h' → s.heap.get? Fd = none → cl ≠ Fd → NewDisk hB h' x d G D → hB.get? cl ≠ none → hB.get? Fd ≠ none → Keeps s.heap hB →
      h'.get? tp = some { cls := .type "tuple", data := .seq #[.ref Fd, .ref x] } → Q (.ref tp) { s with heap := h', toks := tk }) :
    wpAny (model c.prog c.w) A (eval (.Tuple [.List [.Subscript (.Name "script" q1) (.Slice none (some (.Constant (.int 60) k1 q2)) none q3) q4, .Constant (.int 0) k2 q5] q6, .Call (.Name "Disk" r1) [.Constant (.int 8) k3 r2, .Constant (.int 32) k4 r3, .Constant (.int 16) k5 r4, .Constant (.int 4) k6 r5] [] r6] k7 r7) env) Q E s := by
  refine wpAny_Tuple (wpAny_items_cons (row_list hk hx hn hm hL hI hlen fun cl us Fd tz h1 tk1 e1 i1 e2 k1 n1 n2 => ?_) rfl)
  refine wpAny_items_cons (row_disk (s := { s with heap := h1, toks := tk1 }) B (fun b o z => k1 b o (base b o z)) hroom hk hxd hg fun x d G D h2 tk2 ND => wpAny_items_nil ⟨by show 2 ≤ _; decide, ?_⟩) rfl
  have up : Keeps h2 (h2.push { cls := .type "tuple", data := .seq #[.ref Fd, .ref x] }) := fun b o z => Heap.get?_push_of_some _ z
  have ND' : NewDisk h1 (h2.push { cls := .type "tuple", data := .seq #[.ref Fd, .ref x] }) x d G D :=
    { ob := up _ _ ND.ob
      di := let ⟨es, k, z, y⟩ := ND.di; ⟨es, k, up _ _ z, y⟩
      gi := let ⟨k, z⟩ := ND.gi; ⟨k, up _ _ z⟩
      da := let ⟨vs, k, z, y⟩ := ND.da; ⟨vs, k, up _ _ z, y⟩
      nx := ND.nx
      nd := ND.nd
      nG := ND.nG
      nD := ND.nD
      xd := ND.xd
      GD := ND.GD
      xG := ND.xG
      xD := ND.xD
      dG := ND.dG
      dD := ND.dD
      keep := fun b o z => up _ _ (ND.keep b o z) }
  exact h cl us Fd tz x d G D h1 _ tk2 h2.objs.size (up _ _ (ND.keep _ _ e1)) i1 (up _ _ (ND.keep _ _ e2)) (fun b o z => up _ _ (ND.keep _ _ (k1 b o z))) n1 n2 ND' (by rw [e1]; simp) (by rw [e2]; simp) k1 (Heap.get?_push_size _ rfl)
end
end Mine
end
section
namespace Mine
section
variable {w : World} {s : Shared} {mg mb : Str → Option Value} {mean : ExcName → Option Value}
theorem law_call (inK : (hd.heap_1 w.params).In s.heap) (T : Top vw (looseW vw []) mean mg mb s.heap) {lf : Addr} (hm : mg "law" = some (.ref lf)) {a : Addr} {vs : List Value} {l : List Int} (hL : s.heap.IsList a vs.toArray) (hI : IntsAre vs l) (hlen : l.length ≤ 63)
    {R : Result → Shared → Prop} (hR : ∀ h' tk, (∀ b o, s.heap.get? b = some o → h'.get? b = some o) → R (.ok (.ret (.bool true))) { s with heap := h', toks := tk }) : codeAny (model lawProg w) callerA (.call (.ref lf) ⟨[.ref a], []⟩) R s := by
  have B0 := base_mk inK T 0 0 0 0 0 0
  have K0 := B0.cfg
  obtain ⟨e1, hf⟩ := fn_at B0 58 rfl
  have hlf : fa (mkC w s.heap mg mb 0 0 0 0 0 0) 58 = lf := by
    have e1 : mg "law" = _ := e1
    rw [hm] at e1
    cases e1; rfl
  rw [hlf] at hf
  obtain ⟨o, fd, ho, hd, hbody, hclo, hkind, hnames, hco, hgen, hglob, hblt, hcd, hbind⟩ := hf
  refine codeAny_call_function (by decide) ho hd hco hgen hbody hcd ?_
  rw [hbind [.ref a] rfl, hclo, hglob, hblt]
  refine wpAny_pure ?_
  simp only [newFunctionEnv, Option.isSome_none, Bool.false_eq_true, if_false]
  refine wpAny_bind (wpAny_alloc ?_)
  refine wpAny_bind (wpAny_layCells _ (fun name kind cells => by cases hkc : kind == NameKind.cell <;> simp [hkc]) _ _ _ _ ?_)
  have hsz : ({ s with heap := s.heap.push { cls := .type "frame", data := .dict #[] } } : Shared).heap.objs.size = s.heap.objs.size + 1 := Heap.size_push ..
  rw [hsz]
  generalize hLe : s.heap.objs.size = L
  have okc := cellsFrom_ok fd.scope.names (s.heap.push { cls := .type "frame", data := .dict #[] }) (s.heap.objs.size + 1) [] ⟨fun _ _ hm => (nomatch hm), List.Pairwise.nil⟩ (by rw [Heap.size_push]; exact Nat.le_refl _)
  rw [Heap.size_push, hLe] at okc
  generalize hcl : cellsFrom (L + 1) fd.scope.names [] = cl at okc ⊢
  generalize hh1 : pushCells ({ s with heap := s.heap.push { cls := .type "frame", data := .dict #[] } } : Shared).heap fd.scope.names = h1
  have hh1' : pushCells (s.heap.push { cls := .type "frame", data := .dict #[] }) fd.scope.names = h1 := hh1
  rw [hh1'] at okc
  have up : ∀ b o, (s.heap.push { cls := .type "frame", data := .dict #[] }).get? b = some o → h1.get? b = some o := fun b o e => by rw [← hh1']; exact pushCells_keeps _ _ b o e
  have keep : ∀ b o, s.heap.get? b = some o → h1.get? b = some o := fun b o e => up b o (Heap.get?_push_of_some _ e)
  have oL : h1.get? L = some { cls := .type "frame", data := .dict #[] } := up _ _ (by rw [← hLe]; exact Heap.get?_push_size _ rfl)
  have hL0 : s.heap.get? L = none := ge_none (Nat.le_of_eq hLe)
  let env : Env := { scope := fd.scope, locals := L, globals := mainGlobals, cells := cl, qual := fd.qualname ++ ".<locals>.", func := some lf, code := fd.code, frame := some L, builtins := builtinsNs }
  have hk : ∀ x kd, (nm 58).lookup x = some kd → env.kindOf x = some kd := fun x kd h => by
    show fd.scope.names.lookup x = _
    rw [hnames]; exact h
  have hn1 : h1.Ns L (fun _ => none) := ⟨_, #[], 0, oL, rfl, fun _ he => by simp at he, fun _ => rfl⟩
  refine wpAny_bind ?_
  show wpAny _ _ (forIn [(("script" : Str), Value.ref a)] _ _) _ _ _
  rw [List.forIn_cons]
  refine wpAny_bind (wpAny_bind ?_)
  show wpAny _ _ (storeName env ("script" : Str) (.ref a)) _ _ _
  rw [storeName_local (env := env) (hk _ _ rfl) (by show (fd.scope.kind == .class || (fd.scope.kind == .module && _)) = false; rw [hkind]; rfl)]
  refine nsSet_own hn1 fun h2 hn2 hs2 hcls => ?_
  have hn2 : h2.Ns L (fun x => if x = "script" then some (.ref a) else none) := hn2
  have hs2 : Heap.SameBut L h1 h2 := hs2
  have hcls : ∀ o o', h1.get? L = some o → h2.get? L = some o' → o'.cls = o.cls := hcls
  refine wpAny_pure ?_
  show wpAny _ _ (forIn [] _ _) _ _ _
  rw [List.forIn_nil]
  have k2 : ∀ b o, b ≠ L → h1.get? b = some o → h2.get? b = some o := fun b o hb e => (hs2.2 b hb).trans e
  have k20 : ∀ b o, s.heap.get? b = some o → h2.get? b = some o := fun b o e => k2 b o (fun q => by rw [q, hL0] at e; cases e) (keep b o e)
  refine wpAny_pure (wpAny_pure ⟨T.nolimit.keeps k20, codeAny_func ?_⟩)
  change wpAny _ (callerA.deeper env) (execs (bd 58) env) _ _ _
  have vk : env.scope.kind = .function := hkind
  have vn : env.scope.names = nm 58 := hnames
  have vg : env.globals = mainGlobals := rfl
  have vb : env.builtins = builtinsNs := rfl
  have vl : env.locals = L := rfl
  have vc : env.cells = cl := rfl
  have vf : env.frame = some L := rfl
  clear_value env
  refine wpAny_execs_cons (Assign_Tuple ?gA ?gB ?gC)
  case gB => rfl
  case gC =>
    obtain ⟨⟨k, ns, g, co, mo⟩, a1, a2, a3, a4, a5, a6, a7, a8⟩ := env
    have vk : k = .function := vk
    have vn : ns = nm 58 := vn
    subst vk vn
    rfl
  case gA =>
    have F1 : FrameAt s.heap env L h2 :=
      { fr := by
          obtain ⟨o', es, ep, z1, z2, _⟩ := hn2
          exact ⟨o', es, ep, z1, (hcls _ _ oL z1), z2⟩
        ns := ⟨_, hn2⟩
        L0 := hL0
        cell := fun x b q => by
          rw [vc] at q
          obtain ⟨⟨o', e', dc⟩, hlo⟩ := okc.empty x b q
          have hb : b ≠ L := Nat.ne_of_gt hlo
          exact ⟨⟨_, o', k2 _ _ hb e', dc⟩, ge_none (by rw [hLe]; exact Nat.le_of_succ_le hlo)⟩
        apart := by rw [vc]; exact okc.apart
        has := fun x q => by
          rw [vc]
          have q : (nm 58).lookup x = some .cell := by rw [← vn]; exact q
          rw [← hnames] at q
          obtain ⟨b, hb⟩ := cells_has fd.scope.names (L + 1) [] x (.inl (mem_of_lookup q))
          rw [hcl] at hb
          exact lookup_mem_ex hb
        keep := k20 }
    have hcut : (cut l none (some 60)).length ≤ 63 := by
      unfold cut; rw [List.length_take]; exact Nat.le_trans (Nat.min_le_left _ _) (by simp; (first | lia | omega))
    have vx : ∀ x kd, (nm 58).lookup x = some kd → env.kindOf x = some kd := fun x kd h => by
      show env.scope.names.lookup x = _
      rw [vn]; exact h
    refine row_value (c := mkC w s.heap mg mb 0 0 0 0 0 0) B0 k20 (by show 1 + claimMargin + 1 + 4 < recursionLimit; decide) vk (vx _ _ rfl) (vx _ _ rfl) vg (by rw [vl]; exact hn2) rfl (hL.at fun o e => k20 _ _ e) hI hlen fun c1 us Fd tz x d G D hB h' tk tp z1 z2 z3 z4 z5 z6 ND z7 z8 z9 z10 => ?_
    have old : ∀ {b : Addr}, h2.get? b = none → s.heap.get? b = none := fun {b} e => by
      cases z : s.heap.get? b with
      | none => rfl
      | some o => have := k20 _ _ z; rw [e] at this; cases this
    have oldB : ∀ {b : Addr}, hB.get? b = none → h2.get? b = none := fun {b} e => by
      cases z : h2.get? b with
      | none => rfl
      | some o => have := z9 _ _ z; rw [e] at this; cases this
    exact law_tail inK T vk vn vg vb vl vf (F1.grow (h' := h') fun b o q => z4 b o q) z10 z3 z1 z2 hcut ND (old z5) (old (oldB ND.nD)) (fun q => z8 (by rw [← q]; exact ND.nD)) (fun q => z7 (by rw [q]; exact ND.nD)) z6 (fun q => z8 (by rw [← q]; exact ND.nG)) fun h4 tk4 k4 => hR h4 tk4 k4
end
end Mine
end
section
namespace Mine
theorem lawRec_name : lawRec.1.name = "law" := by kernel_rfl
theorem law_raises (a : List WData) (k : ExcName) : PySem.Challenge.rw_sm0122_01.row.claim.raises a k = false := by kernel_rfl
theorem law_post (a : List WData) : PySem.Challenge.rw_sm0122_01.row.claim.post a (WData.bool true) a = true := by kernel_rfl
theorem law_holds : PySem.Challenge.rw_sm0122_01.Holds := hd (by
  intro w s₀ s₁ mg mb G Y fa o pm cd doc dV kV ho hd hcd hD hmg hg args vals as hpre hlay hrd hwl hlo
  have KX := kIn_of Y
  have hmg' : mg "law" = some (.ref fa) := by rw [← lawRec_name]; exact hmg
  refine Ground.open G ?_
  intro T B D TE TW
  try (refine guard_noD D (by decide +kernel) ?_; clear D)
  wrow_args hpre hlay hrd hwl hlo
  all_goals (first | refine callC_kw (enter_call ?_) | refine enter_call ?_ | refine callC_kw (enter_callW ?_) | refine enter_callW ?_ | w_how)
  refine codeAny_mono ?_ (fun _ _ g => GoodW.toG g)
  exact law_call KX T hmg' (by assumption) (by assumption) (by (first | lia | omega)) fun h' tk keep =>
    ⟨.inl ⟨.bool true, WData.bool true, [], rfl, law_raises _, .bool _, law_post _, fun _ => ⟨.nil, fun _ h => absurd h (by simp)⟩⟩, keep, rfl, hg⟩)
end Mine
end

theorem PySem.Challenge.cw_sm0122_01_holds : PySem.Challenge.rw_sm0122_01.Holds := by
  exact Mine.law_holds
