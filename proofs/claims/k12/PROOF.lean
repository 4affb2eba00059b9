import PyProof.Rows.All
import Wide.All
import OpenK.AllK
import Wide.FinOn
import HandS.ForMost
import HandS.Exc
import HandS.TryOnly
import HandS.TryMany
import HandS.WordsExc
import HandS.Defaults
import HandS.MakeKwOnly
import HandS.IsInst
import HandS.Sort
import HandS.OwnEq
import HandS.Conv
import HandS.Flow
import HandS.Wide
import HandS.Evl
import HandS.Style
import HandS.Head0
import HandS.Head1
import HandS.Head2
import HandS.HeadEnd
import HandS.HeadHook1
import HandS.HeadHook2
import KE.KStateDown
import PyProof.LongRange
import PySem.Challenge.RW_keeprows_k12_whole_packings_of_like_sett
set_option Elab.async false
set_option linter.all false
set_option maxRecDepth 100000
set_option maxHeartbeats 16000000
set_option pp.deepTerms false
set_option pp.deepTerms.threshold 2
namespace KR
open PySem PySem.Spec PyProof.Rows L2
/-! ### small rules -/
theorem iteB {c : Bool} {A B : Prop} (h1 : c = true → A) (h2 : c = false → B) : if c = true then A else B := by
  cases c with
  | true => exact h1 rfl
  | false => exact h2 rfl
theorem iteT_of {c : Bool} {A B : Prop} (h : c = true) (a : A) : if c = true then A else B := by subst h; exact iteT a
theorem iteF_of {c : Bool} {A B : Prop} (h : c = false) (b : B) : if c = true then A else B := by subst h; exact iteF b
@[irreducible] def rIsiI (K : PySem.W.Frag) : List V → Hp → VK → Prop := rIsi K
theorem call_isiI {X : Cx} : CallR X (.builtin "isinstance") (rIsiI X.K) := by unfold rIsiI; exact call_isi
theorem isi_int {K : PySem.W.Frag} {H : Hp} {i : Int} {Q : VK} (q : Q (.bl true) H) : rIsiI K [.int i, .ty "int"] H Q := by
  unfold rIsiI; exact ⟨_, _, _, _, true, rfl, .ty _, .base (.int i), kit_ty (by decide +kernel), q⟩
theorem isi_bool {K : PySem.W.Frag} {H : Hp} {i : Int} {Q : VK} (q : Q (.bl false) H) : rIsiI K [.int i, .ty "bool"] H Q := by
  unfold rIsiI; exact ⟨_, _, _, _, false, rfl, .ty _, .base (.int i), kit_ty (by decide +kernel), q⟩
theorem isi_list {K : PySem.W.Frag} {H : Hp} {a : Addr} {xs : List V} {Q : VK} (h : H a = some (.lst xs)) (q : Q (.bl true) H) : rIsiI K [.ref a, .ty "list"] H Q := by
  unfold rIsiI; exact ⟨_, _, _, _, true, rfl, .ty _, .base (.lst h), kit_ty (by decide +kernel), q⟩
theorem pe_le {X : Cx} {e : Expr} {t t' : TE} (h : PE X e t) (k : ∀ σ H Q, t' σ H Q → t σ H Q) : PE X e t' := ⟨fun pins s σ H Q I hw => h.run pins s σ H Q I (k σ H Q hw)⟩
theorem pe_powc {X : Cx} {a b c : Int} {i j : Nat} {p1 p2 pos : Pos} (h : 0 ≤ b ∧ b ≤ 1000000 ∧ a.natAbs < 2 ^ 64 ∧ a ^ b.toNat = c) :
    PE X (.BinOp (.Constant (.int a) i p1) .Pow (.Constant (.int b) j p2) pos) (tC (.int c)) :=
  pe_le (pe_op op_pow pe_int pe_int) fun σ H Q q => ⟨a, b, rfl, rfl, ⟨h.1, h.2.1, h.2.2.1⟩, (show Q (.int (a ^ b.toNat)) H by rw [h.2.2.2]; exact q)⟩
theorem pe_globi {X : Cx} {x : Str} {i : Int} {pos : Pos} (hm : ∃ t, X.mg x = some (.int i t)) (hg : Gl X x := by rfl) (hd : (x == ("__debug__" : Str)) = false := by decide) : PE X (.Name x pos) (tC (.int i)) := by
  obtain ⟨t, h⟩ := hm
  exact pe_glob hg h ⟨t, rfl⟩ hd
/-! ### side conditions of numbers -/
theorem log2_lt {n : Nat} {k : Nat} (h : n < 2 ^ k) (hk : 0 < k) : n.log2 < k := by
  by_cases hn : n = 0
  · subst hn; simpa using hk
  · exact (Nat.log2_lt hn).2 h
theorem cdw {i j : Int} (h0 : 0 < j) (h1 : j ≤ 1000000000000000000000000000000000000000000) : CDivW i j :=
  ⟨h0, log2_lt (Nat.lt_of_lt_of_le (Nat.lt_succ_of_le (show j.natAbs ≤ 1000000000000000000000000000000000000000000 by omega)) (by decide +kernel)) (by decide)⟩
theorem cdv {i j : Int} (h0 : 0 < j) (h1 : j < 1073741824) : CDiv i j := ⟨h0, h1⟩
theorem cml {i j : Int} (h0 : -18446744073709551616 < i) (h1 : i < 18446744073709551616) : CMul i j := .inl ⟨h0, h1⟩
theorem cmr {i j : Int} (h0 : -18446744073709551616 < j) (h1 : j < 18446744073709551616) : CMul i j := .inr ⟨h0, h1⟩
/-! ### heaps: what was tracked stands, but for one address -/
def SB (s : Addr) (H H' : Hp) : Prop := ∀ b o, b ≠ s → H b = some o → H' b = some o
theorem SB.refl {s : Addr} {H : Hp} : SB s H H := fun _ _ _ h => h
theorem SB.trans {s : Addr} {H H1 H2 : Hp} (a : SB s H H1) (b : SB s H1 H2) : SB s H H2 := fun c o n h => b c o n (a c o n h)
theorem _root_.L2.Same.sb {s : Addr} {H H' : Hp} (a : Same H H') : SB s H H' := fun c o _ h => a c o h
theorem SB.free {s : Addr} {H H' : Hp} (e : SB s H H') {l : Addr} (n : l ≠ s) (h : H' l = none) : H l = none := by
  cases q : H l with
  | none => rfl
  | some o => rw [e l o n q] at h; cases h
theorem SB.upd {s : Addr} {H : Hp} {o : HO} : SB s H (upd H s o) := fun b u n h => by rw [upd_ne n]; exact h
theorem same_new {H : Hp} {p : Addr} {o : HO} (h : H p = none) : Same H (upd H p o) := fun b u e => by rw [upd_ne (ne_of_none e h)]; exact e
theorem gen_new {H H' : Hp} {p : Addr} {o : HO} (n : H p = none) (e : upd H p o = H') : Same H H' ∧ H' p = some o := by
  subst e
  exact ⟨same_new n, upd_same⟩
/-- a new object, its heap a letter -/
theorem new_obj {H : Hp} {o : HO} {R : Addr → Hp → Prop} (h : ∀ p H', H p = none → Same H H' → H' p = some o → R p H') : ∀ p, H p = none → R p (upd H p o) :=
  fun p hp => h p _ hp (same_new hp) upd_same
theorem new_ref {H : Hp} {o : HO} {Q : VK} (h : ∀ p H', H p = none → Same H H' → H' p = some o → Q (.ref p) H') : ∀ p, H p = none → Q (.ref p) (upd H p o) :=
  fun p hp => h p _ hp (same_new hp) upd_same
theorem hp_same {H H' : Hp} {a : Addr} {o : HO} (s : Same H H') (h : H a = some o) : H' a = some o := s a o h
theorem hp_sb {s a : Addr} {H H' : Hp} {o : HO} (e : SB s H H') (n : a ≠ s) (h : H a = some o) : H' a = some o := e a o n h
end KR
namespace KR
open PySem PySem.Spec PyProof.Rows L2 MeetsSeq
/-! ### list + list where the left one may be of the written part -/
theorem add_any {l b : Addr} {items items2 : Array Value} {n n2 : Nat} {sl sl2 : Array (Option Value)} (hz : items.size + items2.size ≤ sizeLine) :
    Meets (Builtin.«list.__add__» ⟨[.ref l, .ref b], []⟩) (fun _ R s =>
      (s.heap.get? l = some ⟨.type "list", none, .seq items n, sl⟩ ∧ s.heap.get? b = some ⟨.type "list", none, .seq items2 n2, sl2⟩) ∧
      R (.ok (.ret (Value.ref s.heap.objs.size))) { s with heap := s.heap.push { cls := Value.type "list", data := Data.seq (items ++ items2) } }) :=
  .of_wp fun prog w A R s h => by
    obtain ⟨hp, g, d, tk, os⟩ := s
    obtain ⟨⟨e1, e2⟩, h⟩ := h
    have f1 := AutoSeq1.idx_int
    have f2 := AutoSeq1.sub_tuple_tuple
    have f3 := AutoSeq1.sub_list_list
    have f4 := AutoSeq1.sub_tuple_list
    have f5 := AutoSeq1.sub_list_tuple
    wp_walk using wpAny_loadPart' e1, wpAny_loadPart' e2
    exact ⟨_, rfl, h⟩
def rCatS (K : PySem.W.Frag) : R2 := fun x y H Q => ∃ l b xs zs, x = .ref l ∧ y = .ref b ∧ SqL K H l xs ∧ SqL K H b zs ∧ xs.length + zs.length ≤ 100000 ∧
  ∀ p H', H p = none → Same H H' → H' p = some (.lst (xs ++ zs)) → Q (.ref p) H'
theorem op_catS {X : Cx} : OpR X (binaryOp .Add) (rCatS X.K) := by
  intro pins s σ H x y v u Q I rx ry h
  obtain ⟨l, b, xs, zs, rfl, rfl, hl, hb, hz, q⟩ := h
  cases rx
  cases ry
  obtain ⟨its, r, ⟨o, n, e, ec, ed, es⟩, _⟩ := I.list hl
  obtain ⟨its2, r2, ⟨o2, n2, e2, ec2, ed2, es2⟩, _⟩ := I.list hb
  obtain ⟨c, d, dt, sl⟩ := o
  obtain ⟨c2, d2, dt2, sl2⟩ := o2
  dsimp only at ec ed es ec2 ed2 es2
  subst ec ed es ec2 ed2 es2
  have hlen : its.length + its2.length ≤ sizeLine := by
    rw [← r.length, ← r2.length]
    exact Nat.le_trans hz (by decide)
  refine concat_meets ⟨_, e, rfl⟩ ⟨_, e2, rfl⟩ noFill_list_add seq_list_add F.slot_list_add F.entry_list_add (F.args_list_add_2 _ _) (add_any (by rw [List.size_toArray, List.size_toArray]; exact hlen)) ⟨⟨e, e2⟩, ?_⟩
  have ea : its.toArray ++ its2.toArray = (its ++ its2).toArray := by simp
  rw [ea]
  have hn := I.fresh
  have J := I.lnew (t' := s.toks) (r.append r2) (by rw [List.length_append]; exact Nat.le_trans hz (by decide))
  exact ⟨.ref _, _, J, rfl, q _ _ hn (same_new hn) upd_same⟩
end KR
namespace KR
open PySem PySem.Spec PyProof.Rows L2
/-! ### frames -/
def SX (X : List Addr) (H H' : Hp) : Prop := ∀ b o, b ∉ X → H b = some o → H' b = some o
theorem SX.refl {X : List Addr} {H : Hp} : SX X H H := fun _ _ _ h => h
theorem SX.trans {X : List Addr} {H H1 H2 : Hp} (a : SX X H H1) (b : SX X H1 H2) : SX X H H2 := fun c o n h => b c o n (a c o n h)
theorem SX.mono {X Y : List Addr} {H H1 : Hp} (a : SX X H H1) (h : ∀ x ∈ X, x ∈ Y) : SX Y H H1 := fun c o n q => a c o (fun z => n (h c z)) q
theorem SB.sx {s : Addr} {X : List Addr} {H H1 : Hp} (a : SB s H H1) (h : s ∈ X) : SX X H H1 := fun c o n q => a c o (fun z => n (z ▸ h)) q
theorem _root_.L2.Same.sx {X : List Addr} {H H1 : Hp} (a : Same H H1) : SX X H H1 := fun c o _ q => a c o q
theorem SX.sb {s : Addr} {H H1 : Hp} (a : SX [s] H H1) : SB s H H1 := fun c o n q => a c o (by simpa using n) q
theorem SX.upd {X : List Addr} {H H' : Hp} {p : Addr} {o : HO} (a : SX X H H') (h : p ∈ X) : SX X H (upd H' p o) := fun c u n q => by
  have e : c ≠ p := fun z => n (by rw [z]; exact h)
  rw [upd_ne e]; exact a c u n q
theorem SX.mut {X : List Addr} {H H' : Hp} {p : Addr} {o : HO} (a : SX X H H') (h : H p = none) : SX X H (L2.upd H' p o) := fun c u n q => by
  rw [upd_ne (ne_of_none q h)]; exact a c u n q
theorem SB.mut {s : Addr} {H H' : Hp} {p : Addr} {o : HO} (a : SB s H H') (h : H p = none) : SB s H (L2.upd H' p o) := fun c u n q => by
  rw [upd_ne (ne_of_none q h)]; exact a c u n q
theorem _root_.L2.Same.mut {H H' : Hp} {p : Addr} {o : HO} (a : Same H H') (h : H p = none) : Same H (L2.upd H' p o) := fun c u q => by
  rw [upd_ne (ne_of_none q h)]; exact a c u q
theorem SX.drop {X : List Addr} {H H' : Hp} {p : Addr} (a : SX (p :: X) H H') (h : H p = none) : SX X H H' := fun c u n q => by
  refine a c u (fun z => ?_) q
  rcases List.mem_cons.mp z with e | e
  · rw [e, h] at q; cases q
  · exact n e
theorem szl {n : Nat} (h : n ≤ 100000) : n ≤ sizeLine := Nat.le_trans h (by decide)
theorem szlt {n : Nat} (h : n ≤ 100000) : n < sizeLine := Nat.lt_of_le_of_lt h (by decide)
theorem atI_int {xs : List V} {i : Int} {j : Nat} {v : V} (hi : i = (j : Int)) (h : xs[j]? = some v) : atI xs i = some v := by subst hi; exact atI_nat h
theorem at_of_lt {xs : List V} {i : Int} (h0 : 0 ≤ i) (h1 : i < xs.length) : ∃ v, v ∈ xs ∧ atI xs i = some v ∧ xs[i.toNat]? = some v := by
  have h : i.toNat < xs.length := by omega
  refine ⟨xs[i.toNat], List.getElem_mem h, ?_, List.getElem?_eq_getElem h⟩
  have e : i = (i.toNat : Int) := by omega
  exact atI_int (xs := xs) (v := xs[i.toNat]) e (List.getElem?_eq_getElem h)
theorem map_some {ns : List Int} {i : Nat} {v : V} (h : (ns.map V.int)[i]? = some v) : ∃ z, ns[i]? = some z ∧ v = .int z := by
  rw [List.getElem?_map] at h
  cases e : ns[i]? with
  | none => rw [e] at h; cases h
  | some z => rw [e] at h; exact ⟨z, rfl, (Option.some.inj h).symm⟩
theorem gen_st {H H' : Hp} {a : Addr} {o : HO} (e : upd H a o = H') : SB a H H' ∧ H' a = some o := by subst e; exact ⟨SB.upd, upd_same⟩
theorem lt1000 {n : Nat} (h : Nat.ble (n + 1) 1000 = true) : n < 1000 := Nat.le_of_ble_eq_true h
theorem kb_of {K : PySem.W.Frag} {x qual : Str} {params : Arguments} {body : List Stmt} {scope : Scope} {f : Addr} {fd : FuncData} {ps : List Str} (F : FunD K x qual params body scope [] [] f fd) (n : Nat) (ks : List Str)
    (g : {α : Type} → List α → List α → List α) (hrel : ∀ {vs zs : List V} {us ws : List Value}, Vals vs us → Vals zs ws → vs.length = n → zs.length = ks.length → Vals (g vs zs) (g us ws))
    (h : ∀ (kV doc pm : Value) (an : Option Addr) (cdv ct : Value) (us ws : List Value), us.length = n → ws.length = ks.length → bindArgs (PySem.W.fnOf x qual params body scope .none kV doc pm an cdv ct) ⟨us, ks.zip ws⟩ = pure (ps.zip (g us ws)))
    (hb : ∀ {vs zs : List V} {us ws : List Value}, Vals vs us → Vals zs ws → Vals (g vs zs) (g us ws)) :
    KBn K fd ps n ks (fun us ws => g us ws) (fun vs zs => g vs zs) := by
  obtain ⟨oc, od, dV, kV, doc, pm, an, cdv, ct, osl, rfl, lk, hcd, hD, hK⟩ := F.ex
  rcases hD with ⟨_, rfl⟩ | ⟨e, _⟩
  · exact ⟨fun s us ws _ l1 l2 => BindsTo.of_eq (h kV doc pm an cdv ct us ws l1 l2), fun r1 r2 => hb r1 r2⟩
  · exact absurd rfl e
/-- keywords in the parameters' order -/
theorem kb_app {K : PySem.W.Frag} {x qual : Str} {params : Arguments} {body : List Stmt} {scope : Scope} {f : Addr} {fd : FuncData} {ps : List Str} (F : FunD K x qual params body scope [] [] f fd) (n : Nat) (ks : List Str)
    (h : ∀ (kV doc pm : Value) (an : Option Addr) (cdv ct : Value) (us ws : List Value), us.length = n → ws.length = ks.length → bindArgs (PySem.W.fnOf x qual params body scope .none kV doc pm an cdv ct) ⟨us, ks.zip ws⟩ = pure (ps.zip (us ++ ws))) :
    KBn K fd ps n ks (fun us ws => us ++ ws) (fun vs zs => vs ++ zs) := kb_of F n ks (fun a b => a ++ b) (fun r1 r2 _ _ => r1.append r2) h fun r1 r2 => r1.append r2
theorem gen_mk {H H' : Hp} {x dx : Addr} {o u : HO} (n : H x = none) (nd : H dx = none) (e : upd (upd H dx u) x o = H') : Same H H' ∧ H' x = some o := by
  subst e
  exact ⟨fun b v h => by rw [upd_ne (ne_of_none h n), upd_ne (ne_of_none h nd)]; exact h, upd_same⟩
theorem same_sb_new {H H1 H2 : Hp} {x : Addr} (a : Same H H1) (b : SB x H1 H2) (n : H x = none) : Same H H2 := fun c o h => b c o (ne_of_none h n) (a c o h)
/-! ### the head's facts, and a further Bool -/
def obsB (n : Nat) (fa : List He.Fa) (fn : List He.DefD) (ex : PySem.W.Frag → Bool) (g : Addr → Option Obj) : He.AlD :=
  ((He.obsD fa fn (He.frG g (He.asD g n))).1 && ex (He.frG g (He.asD g n)), (He.obsD fa fn (He.frG g (He.asD g n))).2)
def hookB (n : Nat) (fa : List He.Fa) (fn : List He.DefD) (ex : PySem.W.Frag → Bool) : PySem.W.Hook where
  α := He.AlD
  obs := fun s => obsB n fa fn ex s.heap.get?
  val := fun _ => He.valD fn
  says := fun _ h => ∃ K : PySem.W.Frag, K.In h ∧ He.SaysD fa fn K ∧ ex K = true
  of := fun _ s e => by
    refine ⟨He.frG s.heap.get? (He.asD s.heap.get? n), He.frG_in, ?_⟩
    have e1 : ((He.obsD fa fn (He.frG s.heap.get? (He.asD s.heap.get? n))).1 && ex (He.frG s.heap.get? (He.asD s.heap.get? n))) = true := congrArg (fun z : He.AlD => z.1) e
    have e2 : (obsB n fa fn ex s.heap.get?).2 = (He.valD fn).2 := congrArg (fun z : He.AlD => z.2) e
    obtain ⟨h1, h2⟩ := He.ba e1
    exact ⟨Prod.ext h1 e2, h2⟩
  keeps := fun _ _ _ h k => by
    obtain ⟨K, hK, c⟩ := h
    exact ⟨K, PySem.W.Frag.In.keeps hK k, c⟩
theorem obsB_eq {n : Nat} {fa : List He.Fa} {fn : List He.DefD} {ex : PySem.W.Frag → Bool} {g : Addr → Option Obj} {s : Shared} (h : ∀ a, g a = s.heap.get? a) : obsB n fa fn ex g = (hookB n fa fn ex).obs s := by
  have e : g = s.heap.get? := funext h
  subst e
  rfl
/-- what isinstance wants of a class -/
structure IsC (K : PySem.W.Frag) (C : Addr) : Prop where
  cl : PySem.W.findIn K (.ref C) "__class__" = some (some (.builtin "object.__class__"))
  g : PySem.W.specialIn K (.builtin "object.__class__") "__get__" = some (some (.builtin "getset_descriptor.__get__"))
  t : PySem.W.takesIn K (.builtin "object.__class__") = some true
  m : PySem.W.mroIn K C (.type "object") = some true
def isCB (C : Str) (K : PySem.W.Frag) : Bool :=
  decide (PySem.W.findIn K (.ref (He.ga K C)) "__class__" = some (some (.builtin "object.__class__"))) && (decide (PySem.W.specialIn K (.builtin "object.__class__") "__get__" = some (some (.builtin "getset_descriptor.__get__"))) &&
    (decide (PySem.W.takesIn K (.builtin "object.__class__") = some true) && decide (PySem.W.mroIn K (He.ga K C) (.type "object") = some true)))
theorem isCB_ok {C : Str} {K : PySem.W.Frag} (h : isCB C K = true) : IsC K (He.ga K C) := by
  unfold isCB at h
  obtain ⟨h1, h⟩ := He.ba h
  obtain ⟨h2, h⟩ := He.ba h
  obtain ⟨h3, h4⟩ := He.ba h
  exact ⟨of_decide_eq_true h1, of_decide_eq_true h2, of_decide_eq_true h3, of_decide_eq_true h4⟩
def kitB1 (ty : String) (C : Str) (b : Bool) (K : PySem.W.Frag) : Bool := decide (PySem.W.kitOne K (.type ty) (.ref (He.ga K C)) = some b)
def kitB2 (C : Str) (ty : String) (b : Bool) (K : PySem.W.Frag) : Bool := decide (PySem.W.kitOne K (.ref (He.ga K C)) (.type ty) = some b)
def kitB3 (C D : Str) (b : Bool) (K : PySem.W.Frag) : Bool := decide (PySem.W.kitOne K (.ref (He.ga K C)) (.ref (He.ga K D)) = some b)
theorem isi_own {K : PySem.W.Frag} {H : Hp} {a C dx D : Addr} {fs : List (Str × V)} {b : Bool} {Q : VK} (h : H a = some (.ins C dx fs)) (c : Cls K C) (i : IsC K C) (k : PySem.W.kitOne K (.ref C) (.ref D) = some b) (q : Q (.bl b) H) :
    rIsiI K [.ref a, .ref D] H Q := by
  unfold rIsiI; exact ⟨_, _, _, _, b, rfl, .own _, .base (.ins h c i.cl i.g i.t i.m), k, q⟩
theorem none_all {l : List Str} {fs : List (Str × V)} (h : (l.all fun x => (List.lookup x fs).isNone) = true) : ∀ x ∈ l, List.lookup x fs = none := fun x hx => by
  have := List.all_eq_true.mp h x hx
  exact Option.isNone_iff_eq_none.mp this
/-! ### data without bools: == is equality -/
mutual
def nbD : PyData → Bool
  | .none => true
  | .int _ => true
  | .str x => PyData.strOk x
  | .list xs => nbA xs
  | .tuple xs => nbA xs
  | .bool _ => false
  | .dict _ => false
def nbA : List PyData → Bool
  | [] => true
  | x :: xs => nbD x && nbA xs
end
mutual
theorem nb_lay : ∀ d : PyData, nbD d = true → PyData.canLay0 d = true
  | .none, _ => rfl
  | .int _, _ => rfl
  | .str x, h => h
  | .list xs, h => nb_layA xs h
  | .tuple xs, h => nb_layA xs h
  | .bool _, h => by cases h
  | .dict _, h => by cases h
theorem nb_layA : ∀ ds : List PyData, nbA ds = true → PyData.canLayAll0 ds = true
  | [], _ => rfl
  | x :: xs, h => by
    obtain ⟨h1, h2⟩ := He.ba (show (nbD x && nbA xs) = true from h)
    show (PyData.canLay0 x && PyData.canLayAll0 xs) = true
    rw [nb_lay x h1, nb_layA xs h2]
    rfl
end
mutual
theorem eqv_nb : ∀ d e : PyData, nbD d = true → nbD e = true → (PyData.eqv d e = true ↔ d = e)
  | .none, e, _, he => by cases e <;> simp_all [PyData.eqv, nbD]
  | .int i, e, _, he => by cases e <;> simp_all [PyData.eqv, nbD]
  | .str x, e, _, he => by cases e <;> simp_all [PyData.eqv, nbD]
  | .list xs, e, hd, he => by
    cases e with
    | list ys =>
      have k := eqv_nbA xs ys hd he
      constructor
      · intro h
        exact congrArg PyData.list (k.mp (by simpa [PyData.eqv] using h))
      · intro h
        injection h with h
        simpa [PyData.eqv] using k.mpr h
    | _ => simp_all [PyData.eqv, nbD]
  | .tuple xs, e, hd, he => by
    cases e with
    | tuple ys =>
      have k := eqv_nbA xs ys hd he
      constructor
      · intro h
        exact congrArg PyData.tuple (k.mp (by simpa [PyData.eqv] using h))
      · intro h
        injection h with h
        simpa [PyData.eqv] using k.mpr h
    | _ => simp_all [PyData.eqv, nbD]
  | .bool _, _, hd, _ => by cases hd
  | .dict _, _, hd, _ => by cases hd
theorem eqv_nbA : ∀ ds es : List PyData, nbA ds = true → nbA es = true → (PyData.eqvAll ds es = true ↔ ds = es)
  | [], [], _, _ => by simp [PyData.eqvAll]
  | [], _ :: _, _, _ => by simp [PyData.eqvAll]
  | _ :: _, [], _, _ => by simp [PyData.eqvAll]
  | x :: xs, y :: ys, hd, he => by
    obtain ⟨h1, h2⟩ := He.ba (show (nbD x && nbA xs) = true from hd)
    obtain ⟨h3, h4⟩ := He.ba (show (nbD y && nbA ys) = true from he)
    have k1 := eqv_nb x y h1 h3
    have k2 := eqv_nbA xs ys h2 h4
    simp only [PyData.eqvAll, Bool.and_eq_true, List.cons.injEq, k1, k2]
end
/-- d, without bools, not deep -/
def NB (d : PyData) : Prop := nbD d = true ∧ PyData.depth d ≤ 64
@[irreducible] def rEqN (K : PySem.W.Frag) : R2 := fun x y H Q => ∃ d e, Dp K H x d ∧ Dp K H y e ∧ NB d ∧ NB e ∧ ∀ b, (b = true ↔ d = e) → Q (.bl b) H
@[irreducible] def rNeN (K : PySem.W.Frag) : R2 := fun x y H Q => ∃ d e, Dp K H x d ∧ Dp K H y e ∧ NB d ∧ NB e ∧ ∀ b, (b = true ↔ ¬ d = e) → Q (.bl b) H
theorem NB.sh {d : PyData} (h : NB d) : SeqAt.shaped d = true := by
  unfold SeqAt.shaped
  rw [nb_lay d h.1, decide_eq_true h.2]
  rfl
theorem op_eqN {X : Cx} (hu : X.A.units + 64 < cLine) : OpR X (compareOp .Eq) (rEqN X.K) := by
  intro pins s σ H x y v u Q I rx ry h
  unfold rEqN at h
  obtain ⟨d, e, hd, he, n1, n2, q⟩ := h
  exact op_eqD hu pins s σ H x y v u Q I rx ry ⟨d, e, hd, he, n1.sh, n2.sh, q _ (eqv_nb d e n1.1 n2.1)⟩
theorem op_neN {X : Cx} (hu : X.A.units + 64 < cLine) : OpR X (compareOp .NotEq) (rNeN X.K) := by
  intro pins s σ H x y v u Q I rx ry h
  unfold rNeN at h
  obtain ⟨d, e, hd, he, n1, n2, q⟩ := h
  refine op_neD hu pins s σ H x y v u Q I rx ry ⟨d, e, hd, he, n1.sh, n2.sh, q _ ?_⟩
  have k := eqv_nb d e n1.1 n2.1
  cases hb : PyData.eqv d e with
  | true => rw [hb] at k; simp [k.mp rfl]
  | false => rw [hb] at k; simp at k; simp [k]
theorem use_eqN {K : PySem.W.Frag} {H : Hp} {x y : V} {d e : PyData} {Q : VK} (hx : Dp K H x d) (hy : Dp K H y e) (n1 : NB d) (n2 : NB e) (q : ∀ b, (b = true ↔ d = e) → Q (.bl b) H) : rEqN K x y H Q := by unfold rEqN; exact ⟨d, e, hx, hy, n1, n2, q⟩
theorem use_neN {K : PySem.W.Frag} {H : Hp} {x y : V} {d e : PyData} {Q : VK} (hx : Dp K H x d) (hy : Dp K H y e) (n1 : NB d) (n2 : NB e) (q : ∀ b, (b = true ↔ ¬ d = e) → Q (.bl b) H) : rNeN K x y H Q := by unfold rNeN; exact ⟨d, e, hx, hy, n1, n2, q⟩
/-! lists of pyi as data -/
def pyi (xs : List Int) : List PyData := xs.map PyData.int
theorem dp_pyi {K : PySem.W.Frag} {H : Hp} : ∀ xs : List Int, DpAll K H (xs.map V.int) (pyi xs)
  | [] => .nil
  | x :: xs => .cons (.int x) (dp_pyi xs)
theorem nb_ints : ∀ xs : List Int, nbA (pyi xs) = true
  | [] => rfl
  | x :: xs => by
    show (nbD (.int x) && nbA (pyi xs)) = true
    rw [nb_ints xs]
    rfl
theorem dep_ints : ∀ xs : List Int, PyData.depthAll (pyi xs) = 0
  | [] => rfl
  | x :: xs => by
    show max (PyData.depth (.int x)) (PyData.depthAll (pyi xs)) = 0
    rw [dep_ints xs]
    rfl
theorem nb_list (xs : List Int) : NB (.list (pyi xs)) := ⟨nb_ints xs, by show PyData.depthAll (pyi xs) + 1 ≤ 64; rw [dep_ints]; decide⟩
theorem nb_tup (xs : List Int) : NB (.tuple (pyi xs)) := ⟨nb_ints xs, by show PyData.depthAll (pyi xs) + 1 ≤ 64; rw [dep_ints]; decide⟩
theorem ints_inj {xs ys : List Int} (h : pyi xs = pyi ys) : xs = ys := by
  have := congrArg (fun z : List PyData => z.map fun d => match d with | .int i => i | _ => 0) h
  simpa [pyi, List.map_map, Function.comp_def] using this
theorem list_ints {xs ys : List Int} : PyData.list (pyi xs) = PyData.list (pyi ys) ↔ xs = ys := ⟨fun h => ints_inj (by injection h), fun h => by rw [h]⟩
theorem tup_ints {xs ys : List Int} : PyData.tuple (pyi xs) = PyData.tuple (pyi ys) ↔ xs = ys := ⟨fun h => ints_inj (by injection h), fun h => by rw [h]⟩
/-! ### the rules, the written part named (a comprehension's block has the def's) -/
section
variable {X : Cx} {K : PySem.W.Frag}
theorem ix_listK (h : X.K = K := by rfl) : IxR X (rIxL K) := h ▸ ix_list
theorem ix_tupK (h : X.K = K := by rfl) : IxR X (rIxT K) := h ▸ ix_tup
def rLenN (K : PySem.W.Frag) : List V → Hp → VK → Prop := fun xs H Q => ∃ p ys, xs = [.ref p] ∧ (SqL K H p ys ∨ SqT K H p ys) ∧ Q (.int ys.length) H
theorem call_lenK (h : X.K = K := by rfl) : CallR X (.builtin "len") (rLenN K) := h ▸ call_len_seq
def rListN (K : PySem.W.Frag) : List V → Hp → VK → Prop := fun xs H Q => ∃ p ys, xs = [.ref p] ∧ (SqL K H p ys ∨ SqT K H p ys) ∧ ∀ l, H l = none → Q (.ref l) (upd H l (.lst ys))
theorem call_listK (h : X.K = K := by rfl) : CallR X (.type "list") (rListN K) := h ▸ call_list_of
def rTupN (K : PySem.W.Frag) : List V → Hp → VK → Prop := fun xs H Q => ∃ p ys, xs = [.ref p] ∧ ((SqL K H p ys ∧ ∀ l, H l = none → Q (.ref l) (upd H l (.tup ys))) ∨ (SqT K H p ys ∧ Q (.ref p) H))
theorem call_tupK (h : X.K = K := by rfl) : CallR X (.type "tuple") (rTupN K) := h ▸ call_tuple_of
theorem op_catSK (h : X.K = K := by rfl) : OpR X (binaryOp .Add) (rCatS K) := h ▸ op_catS
theorem op_inK (h : X.K = K := by rfl) : OpR X (compareOp .In) (rIn K false) := h ▸ op_in_seq
theorem op_notInK (h : X.K = K := by rfl) : OpR X (compareOp .NotIn) (rIn K true) := h ▸ op_notIn_seq
theorem op_eqNK (hu : X.A.units + 64 < cLine) (h : X.K = K := by rfl) : OpR X (compareOp .Eq) (rEqN K) := h ▸ op_eqN hu
theorem op_neNK (hu : X.A.units + 64 < cLine) (h : X.K = K := by rfl) : OpR X (compareOp .NotEq) (rNeN K) := h ▸ op_neN hu
theorem sl_listK (h : X.K = K := by rfl) : SlR X (rSlL K) := h ▸ sl_list
theorem sl_tupK (h : X.K = K := by rfl) : SlR X (rSlT K) := h ▸ sl_tup
theorem cr_sumK (hc : X.calm = true) (h : X.K = K := by rfl) : CallR X (.builtin "sum") (rSum K) := h ▸ cr_sum hc
theorem cr_maxK (hc : X.calm = true) (h : X.K = K := by rfl) : CallR X (.builtin "max") (rMax K) := h ▸ cr_max hc
theorem cr_minK (hc : X.calm = true) (h : X.K = K := by rfl) : CallR X (.builtin "min") (rMin K) := h ▸ cr_min hc
theorem call_isiK2 (h : X.K = K := by rfl) : CallR X (.builtin "isinstance") (rIsiI K) := h ▸ call_isiI
theorem pe_fldK {e : Expr} {ta : TE} {f : Str} {pos : Pos} (he : PE X e ta) (hb : attributeBase e f X.env (eval e X.env) = eval e X.env) (h : X.K = K := by rfl) : PE X (.Attribute e f pos) (tFld K ta f) := h ▸ pe_fld he hb
end
end KR
namespace KR
open PySem PySem.Spec PyProof.Rows L2
/-! ### ranges of any size, by ones -/
theorem turn_long {P : Program} {w : World} {K : PySem.W.Frag} {tg : Expr} (j : Addr) (lo : Int) (n : Nat) : Turn P w K tg (Itr lo n) [j] j (fun i h => IsLongIter h j (lo + (i : Nat) * 1) ((n : Int) - (i : Nat)) 1) where
  mem := List.mem_singleton.mpr rfl
  obj := fun i h q b hb => by
    rw [List.mem_singleton.mp hb]
    exact ⟨_, q, fun v z => by
      have y : Data.fields _ = Data.cell v := z
      cases y⟩
  keep := fun i h h' q k => k j (List.mem_singleton.mpr rfl) _ q
  item := by
    intro Y e1 e2 e3 hc i pins s σ H E I fp q g
    subst e1 e2 e3
    obtain ⟨a0, a1, a2, a3, a4, a5⟩ := fp j (List.mem_singleton.mpr rfl)
    refine (Walks.longrange (prog := Y.prog) (w := Y.w) (I.ok.hd hc) j lo 1 n).item i s _ _ g q fun v h' tk hv q' kk => ?_
    obtain ⟨t, rfl⟩ := hv
    have J : Inv Y pins σ H { s with heap := h', toks := tk } := I.turned (fun b o hb e => kk b o (by simpa using hb) e) a0 a1 a3 a4 a5
    exact ⟨_, rfl, go_of (s := { s with heap := h', toks := tk }) (n := "longrange_iterator") q' rfl rfl (by decide) ⟨.int (lo + i), H, J, ⟨t, by rw [Int.mul_one]⟩, ⟨rfl, rfl⟩, q', fun b hb => (fp b hb).1⟩⟩
  done := by
    intro Y e1 e2 e3 hc i pins s σ H E I fp q g
    subst e1 e2 e3
    obtain ⟨a0, a1, a2, a3, a4, a5⟩ := fp j (List.mem_singleton.mpr rfl)
    have hle : n ≤ i := g
    exact wpAny_pyNext_long_end (I.ok.hd hc) q (by omega) fun h' eb => ⟨rfl, I.turned (t' := s.toks) (fun b o hb e => eb b o hb e) a0 a1 a3 a4 a5⟩
  self := fun _ _ _ _ _ q h => wpAny_pyIter_longiter q h
section
variable {X : Cx} {tg : Expr}
theorem long_it {pins : List (Addr × Obj)} {σ : L2.St} {H : Hp} {s : Shared} {R : It → Hp → Prop} {E : Value → Shared → Prop} {lo hi : Int} {t u v : Tok} {tk : Nat} (I : Inv X pins σ H s) (hb : Builtin.Range.small lo hi 1 = false)
    (q : R (Itr lo (hi - lo).toNat) H) : wpAny (model X.prog X.w) X.A (pyIter (.ref s.heap.objs.size)) (PIE X pins σ tg R) E { s with heap := s.heap.push { cls := .type "range", data := .fields #[.int lo t, .int hi u, .int 1 v] }, toks := tk } := by
  refine wpAny_pyIter_longrange (IsRange.new ..) hb ?_
  have J := I.kept (h' := s.heap.push { cls := .type "range", data := .fields #[.int lo t, .int hi u, .int 1 v] }) (t' := tk) fun b o e => Heap.get?_push_of_some _ e
  refine ⟨_, [_], _, _, H, rfl, J.kept (t' := tk) fun b o e => Heap.get?_push_of_some _ e, turn_long _ lo (hi - lo).toNat, ?_, fun b hb => ?_, q⟩
  · have f1 : lo + ((0 : Nat) : Int) * 1 = lo := by simp
    have f2 : (((hi - lo).toNat : Nat) : Int) - ((0 : Nat) : Int) = Builtin.Range.rangeSize lo hi 1 := by
      rw [rangeSize_one]
      split <;> omega
    show IsLongIter _ _ (lo + ((0 : Nat) : Int) * 1) ((((hi - lo).toNat : Nat) : Int) - ((0 : Nat) : Int)) 1
    rw [f1, f2]
    exact Heap.get?_push_size _ rfl
  · rw [List.mem_singleton.mp hb]
    exact J.fpOk (Nat.le_refl _) (J.hok.fresh (Nat.le_refl _))
/-- small with the bounds that the library's rule wants, or any size -/
theorem any_it {pins : List (Addr × Obj)} {σ : L2.St} {H : Hp} {s : Shared} {R : It → Hp → Prop} {E : Value → Shared → Prop} {lo hi : Int} {t u v : Tok} {tk : Nat} (I : Inv X pins σ H s)
    (q : R (Itr lo (hi - lo).toNat) H) : wpAny (model X.prog X.w) X.A (pyIter (.ref s.heap.objs.size)) (PIE X pins σ tg R) E { s with heap := s.heap.push { cls := .type "range", data := .fields #[.int lo t, .int hi u, .int 1 v] }, toks := tk } := by
  cases hb : Builtin.Range.small lo hi 1 with
  | false => exact long_it I hb q
  | true =>
    refine wpAny_pyIter_range (IsRange.new ..) hb ?_
    have J := I.kept (h' := s.heap.push { cls := .type "range", data := .fields #[.int lo t, .int hi u, .int 1 v] }) (t' := tk) fun b o e => Heap.get?_push_of_some _ e
    refine ⟨_, [_], _, _, H, rfl, J.kept (t' := tk) fun b o e => Heap.get?_push_of_some _ e, turn_range _ lo (hi - lo).toNat, ?_, fun b hb => ?_, q⟩
    · have f1 : lo + ((0 : Nat) : Int) * 1 = lo := by simp
      have f2 : (((hi - lo).toNat : Nat) : Int) - ((0 : Nat) : Int) = Builtin.Range.rangeSize lo hi 1 := by
        rw [rangeSize_one]
        split <;> omega
      show IsRangeIter _ _ (lo + ((0 : Nat) : Int) * 1) ((((hi - lo).toNat : Nat) : Int) - ((0 : Nat) : Int)) 1
      rw [f1, f2]
      exact Heap.get?_push_size _ rfl
    · rw [List.mem_singleton.mp hb]
      exact J.fpOk (Nat.le_refl _) (J.hok.fresh (Nat.le_refl _))
def iRngB (ta : TA) : TI := fun σ H R => ta σ H fun vs H1 => ∃ i j : Int, vs = [.int i, .int j] ∧ R (Itr i (j - i).toNat) H1
theorem pi_rangeB {a b : Expr} {ta : TA} {p pos : Pos} (hg : Gl X "range") (hm : X.mg "range" = none) (ha : PA X [a, b] ta) (hs : starEach [a, b] X.env = [(false, eval a X.env), (false, eval b X.env)] := by rfl) (hs2 : starEach [b] X.env = [(false, eval b X.env)] := by rfl) :
    PI X tg (.Call (.Name "range" p) [a, b] [] pos) (iRngB ta) := by
  refine ⟨fun pins s σ H R I h => ?_⟩
  refine Call_ (ld_blt I hg hm boot_range (PyProof.Rows.callWith_type1 (thn (ha.run pos pins s σ H _ I h) fun us s1 z => ?_) (by rw [hs, hs2]) (by rw [hs2]; rfl)))
  obtain ⟨vs, H1, I1, r1, i, j, e, q⟩ := z
  subst e
  obtain ⟨u1, u2, e, ⟨t, e1⟩, ⟨t', e2⟩⟩ := vals2 r1
  subst e e1 e2
  exact call_range_2 (any_it I1 q)
end
end KR
namespace PySem.W
open PySem PySem.Calls PyProof.Rows Builtin
section
variable {prog : Program} {w : World} {A : Around} {E : Value → Shared → Prop} {s : Shared} {K : Frag} {x C L f : Addr} {h₀ : Heap} {m : Str → Option Value} {ox : Obj} {od : Option Obj} {b tb : Value}
/-- != of an instance whose class has its own __eq__ and object's __ne__ -/
theorem ne_own {Q : Value → Shared → Prop} (hu : A.units + 1 < cLine) (X : K.In s.heap) (I : InstAt s.heap x ox C od) (hb : Looks (model prog w) s.heap (typeOf b) tb) (hn : notFirst K C tb = true)
    (hs : findIn K (.ref C) "__eq__" = some (some (.ref f))) (hf : isFn K (.ref f) = true) (hne : findIn K (.ref C) "__ne__" = some (some (.builtin "object.__ne__"))) (hob : mroIn K C (.type "object") = some true)
    (h : wpAny (model prog w) A.in1 (call (.ref f) [.ref x, b]) (fun v s' => ∃ r, v = .bool r ∧ Q (.bool (!r)) s') E s) : wpAny (model prog w) A (richCompare .NotEq (.ref x) b) Q E s := by
  have S : Slot "object" "__ne__" "object.__ne__" := F.cmp_object.ne
  have body : wpAny (model prog w) A.in1 (Builtin.«object.__ne__» ⟨[.ref x, b], []⟩) (fun fin s' => match fin with | .done g => wants (fun v s' => ∃ r, v = .bool r ∧ Q v s') E (.ok g) s' | .again c' => c'.quiet = true ∧ codeAny (model prog w) A c' (wants (fun v s' => ∃ r, v = .bool r ∧ Q v s') E) s') (fun e s' => wants (fun v s' => ∃ r, v = .bool r ∧ Q v s') E (.error e) s') s := by
    unfold Builtin.«object.__ne__»
    have hu1 : A.in1.units < cLine := hu
    refine wpAny_bind (wpAny_pure ?_)
    refine wpAny_bind (wpAny_cRoomFor hu1 ?_)
    refine wpAny_bind (ifBound_K X I hs hf (wpAny_mono h (fun v s' hv => ?_) fun _ _ e => e))
    obtain ⟨r, rfl, q⟩ := hv
    dsimp only
    refine wpAny_bind (wpAny_truthy_bool ?_)
    exact wpAny_pure ⟨_, rfl, q⟩
  have one : wpAny (model prog w) A (tryCompare (.ref x) "__ne__" b) (fun r s' => ∃ v, r = some v ∧ Q v s') E s := by
    unfold tryCompare
    refine wpAny_bind ?_
    simp only [callSpecialIfBound?, bindSpecialIfBound?]
    refine wpAny_holding (wpAny_bind (wpAny_bind (wpAny_bind (I.type.here ((looks_findIn X hne).here ?_)))))
    simp only [S.bind]
    refine wpAny_bind (wpAny_askSetting (wpAny_ite ?_))
    have hcall : wpAny (model prog w) A (call (.builtin "object.__ne__") [.ref x, b]) (fun v s' => ∃ r, v = .bool r ∧ Q v s') E s := by
      refine wpAny_call (codeAny_call_builtin S.plain F.cmpEntry_ne (check_slot F.cmpKind_ne F.cmpSplit_ne (I.type.andThen (looks_mroIn X hob)) (F.cmpArgs_ne _ _) body))
    have fin : wpAny (model prog w) A (call (.builtin "object.__ne__") ([.ref x] ++ [b]) >>= fun v => pure (some v)) (fun (r : Option Value) s' => wpAny (model prog w) A (match r with | some .notImplemented | none => pure none | some v => pure (some v)) (fun r s' => ∃ v, r = some v ∧ Q v s') E s') E s := by
      refine wpAny_bind (wpAny_mono hcall (fun v s' h' => ?_) fun _ _ h' => h')
      obtain ⟨r, rfl, q⟩ := h'
      exact wpAny_pure (wpAny_pure ⟨_, rfl, q⟩)
    split
    · exact wpAny_bind (wpAny_pure (wpAny_pure fin))
    · exact wpAny_tryCatch (wpAny_bind (wpAny_pure (wpAny_pure fin)))
  have hu0 : A.units < cLine := Nat.lt_of_succ_lt hu
  unfold richCompare
  simp only [oneThing_ref]
  refine wpAny_holding (wpAny_bind (wpAny_cRoomFor hu0 ?_))
  refine wpAny_bind (I.type.here (wpAny_bind (hb.here ?_)))
  split
  · rename_i q
    have e : subIn K tb (.ref C) = some false := by
      rcases Bool.or_eq_true_iff.mp hn with e | e
      · rw [beq_iff_eq.mp e] at q; simp at q
      · exact beq_iff_eq.mp e
    refine wpAny_bind ((looks_subIn X e).here ?_)
    simp only [Bool.false_eq_true, if_false]
    refine wpAny_bind (wpAny_mono one (fun r s' z => ?_) fun _ _ e => e)
    obtain ⟨v, rfl, hq⟩ := z
    exact wpAny_pure hq
  · refine wpAny_bind (wpAny_pure ?_)
    simp only [Bool.false_eq_true, if_false]
    refine wpAny_bind (wpAny_mono one (fun r s' z => ?_) fun _ _ e => e)
    obtain ⟨v, rfl, hq⟩ := z
    exact wpAny_pure hq
end
end PySem.W
namespace KR
open PySem PySem.Spec PyProof.Rows L2
/-- what == by an own __eq__ wants of the class -/
structure EqC (K : PySem.W.Frag) (C : Addr) : Prop where
  nf : ∀ t ∈ (["int", "NoneType", "bool", "str", "list", "tuple", "dict"] : List String), PySem.W.notFirst K C (.type t) = true
  ne : PySem.W.findIn K (.ref C) "__ne__" = some (some (.builtin "object.__ne__"))
  ob : PySem.W.mroIn K C (.type "object") = some true
def eqCB (C : Str) (K : PySem.W.Frag) : Bool :=
  ((["int", "NoneType", "bool", "str", "list", "tuple", "dict"] : List String).all fun t => PySem.W.notFirst K (He.ga K C) (.type t)) &&
    (decide (PySem.W.findIn K (.ref (He.ga K C)) "__ne__" = some (some (.builtin "object.__ne__"))) && decide (PySem.W.mroIn K (He.ga K C) (.type "object") = some true))
theorem eqCB_ok {C : Str} {K : PySem.W.Frag} (h : eqCB C K = true) : EqC K (He.ga K C) := by
  unfold eqCB at h
  obtain ⟨h1, h⟩ := He.ba h
  obtain ⟨h2, h3⟩ := He.ba h
  exact ⟨fun t ht => List.all_eq_true.mp h1 t ht, of_decide_eq_true h2, of_decide_eq_true h3⟩
/-- the other side: a plain value, a list, a tuple or an instance of the same class -/
def OthV (K : PySem.W.Frag) (C : Addr) (H : Hp) : V → Prop
  | .int _ | .non | .bl _ | .str _ => True
  | .ref b => (∃ xs, SqL K H b xs) ∨ (∃ xs, SqT K H b xs) ∨ ∃ dx fs, H b = some (.ins C dx fs)
  | _ => False
theorem OthV.looks {X : Cx} {C : Addr} {pins : List (Addr × Obj)} {s : Shared} {σ : L2.St} {H : Hp} {y : V} {u : Value} (ec : EqC X.K C) (I : Inv X pins σ H s) (o : OthV X.K C H y) (r : RelV y u) :
    ∃ tb, PySem.W.Looks (model X.prog X.w) s.heap (typeOf u) tb ∧ PySem.W.notFirst X.K C tb = true := by
  cases y with
  | non => cases r; exact ⟨_, .now, ec.nf "NoneType" (by decide)⟩
  | bl i => cases r; exact ⟨_, .now, ec.nf "bool" (by decide)⟩
  | int i => obtain ⟨t, rfl⟩ := r; exact ⟨_, .now, ec.nf "int" (by decide)⟩
  | str i => obtain ⟨t, rfl⟩ := r; exact ⟨_, .now, ec.nf "str" (by decide)⟩
  | ref b =>
    cases r
    rcases o with ⟨xs, h⟩ | ⟨xs, h⟩ | ⟨dx, fs, h⟩
    · obtain ⟨its, _, ⟨o, n, ho, hc, _⟩, _⟩ := I.list h
      exact ⟨_, by rw [← hc]; exact (PySem.W.Looks.ld ho).andThen .now, ec.nf "list" (by decide)⟩
    · obtain ⟨its, _, ⟨o, ho, hc, _⟩, _⟩ := I.tuple h
      exact ⟨_, by rw [← hc]; exact (PySem.W.Looks.ld ho).andThen .now, ec.nf "tuple" (by decide)⟩
    · obtain ⟨m, J, _⟩ := ins_get I.hok h
      obtain ⟨od, J, _⟩ := J.look
      exact ⟨.ref C, J.type, by simp [PySem.W.notFirst]⟩
  | _ => exact absurd o (by intro z; exact z)
/-- x == y, x != y by the own __eq__ with the promise sp -/
@[irreducible] def rEqO (K : PySem.W.Frag) (C : Addr) (sp : Sp) (E : XK) : R2 := fun x y H Q => ∃ a dx fs, x = .ref a ∧ H a = some (.ins C dx fs) ∧ OthV K C H y ∧ sp [x, y] H (fun v H' => ∃ b, v = .bl b ∧ Q (.bl b) H') E
@[irreducible] def rNeO (K : PySem.W.Frag) (C : Addr) (sp : Sp) (E : XK) : R2 := fun x y H Q => ∃ a dx fs, x = .ref a ∧ H a = some (.ins C dx fs) ∧ OthV K C H y ∧ sp [x, y] H (fun v H' => ∃ b, v = .bl b ∧ Q (.bl (!b)) H') E
theorem use_eqO {K : PySem.W.Frag} {C : Addr} {sp : Sp} {E : XK} {a dx : Addr} {fs : List (Str × V)} {y : V} {H : Hp} {Q : VK} (h : H a = some (.ins C dx fs)) (o : OthV K C H y) (k : sp [.ref a, y] H (fun v H' => ∃ b, v = .bl b ∧ Q (.bl b) H') E) : rEqO K C sp E (.ref a) y H Q := by
  unfold rEqO; exact ⟨a, dx, fs, rfl, h, o, k⟩
theorem use_neO {K : PySem.W.Frag} {C : Addr} {sp : Sp} {E : XK} {a dx : Addr} {fs : List (Str × V)} {y : V} {H : Hp} {Q : VK} (h : H a = some (.ins C dx fs)) (o : OthV K C H y) (k : sp [.ref a, y] H (fun v H' => ∃ b, v = .bl b ∧ Q (.bl (!b)) H') E) : rNeO K C sp E (.ref a) y H Q := by
  unfold rNeO; exact ⟨a, dx, fs, rfl, h, o, k⟩
section
variable {X : Cx} {CX : CXT} {C f : Addr} {fd : FuncData} {ps : List Str} {sp : Sp} {E : XK} {k : Nat}
theorem run_own {A : Around} {pins : List (Addr × Obj)} {σ : L2.St} {H : Hp} {s : Shared} {Q : VK} {us : List Value} {vs : List V} (hA : A.frames = X.A.frames) (F : FnOk X.prog X.w X.K X.mg X.base CX k f fd ps sp) (hr : Room k A) (hb : Binds X.K fd ps []) (hx : Passes CX X E)
    (I : Inv X pins σ H s) (r : Vals vs us) (h : sp vs H Q E) : wpAny (model X.prog X.w) A (call (.ref f) us) (EP X pins σ Q) X.xe s := by
  have hl : us.length = ps.length := by rw [← r.length]; exact F.len _ _ _ _ h
  have e0 : Env0 X.prog X.w X.K X.mg X.base A X.stack s H := by
    have e := I.env0
    exact ⟨by rw [hA]; exact e.frames, e.mod, e.bs, e.bsz, e.funs, e.frf, e.hok, e.bare⟩
  refine wpAny_call (codeAny_mono (F.run A X.stack s H ⟨us, []⟩ us vs Q E hr e0 (by
    have := hb s us I.kIn (by simpa using hl)
    simpa using this) r h) fun r s' hq => ?_)
  cases r with
  | error e => exact hx pins σ H s e s' I hq
  | ok fl =>
    cases fl with
    | ret u => exact I.after hq
    | next => exact False.elim hq
    | brk => exact False.elim hq
    | cont => exact False.elim hq
theorem op_eqO (F : FnOk X.prog X.w X.K X.mg X.base CX k f fd ps sp) (hm : Meth X.K C "__eq__" f) (ec : EqC X.K C) (hr : Room k X.A) (hb : Binds X.K fd ps []) (hx : Passes CX X E) : OpR X (compareOp .Eq) (rEqO X.K C sp E) := by
  intro pins s σ H x y v u Q I rx ry hq
  unfold rEqO at hq
  obtain ⟨a, dx, fs, rfl, ha, o, q⟩ := hq
  cases rx
  obtain ⟨mA, J, _⟩ := ins_get I.hok ha
  obtain ⟨od, J, _⟩ := J.look
  obtain ⟨tb, hl, hn⟩ := o.looks ec I ry
  obtain ⟨m, hF⟩ := I.fr
  show wpAny (model X.prog X.w) X.A (richCompare .Eq (.ref a) u) (EP X pins σ Q) X.xe s
  refine PySem.W.cmp_K (op := .Eq) hr.units0 hF I.ok.mod.kin J hl hn hm.at_ hm.fn ?_
  refine wpAny_mono (run_own rfl F hr hb hx I (.cons (show RelV (.ref a) (.ref a) from rfl) (.cons ry .nil)) q) (fun r s' hq => ?_) fun _ _ e => e
  obtain ⟨w, H', I', rw', b, rfl, q⟩ := hq
  cases rw'
  exact ⟨.bl b, H', I', rfl, q⟩
theorem op_neO (F : FnOk X.prog X.w X.K X.mg X.base CX k f fd ps sp) (hm : Meth X.K C "__eq__" f) (ec : EqC X.K C) (hr : Room (k + 1) X.A) (hb : Binds X.K fd ps []) (hx : Passes CX X E) : OpR X (compareOp .NotEq) (rNeO X.K C sp E) := by
  intro pins s σ H x y v u Q I rx ry hq
  unfold rNeO at hq
  obtain ⟨a, dx, fs, rfl, ha, o, q⟩ := hq
  cases rx
  obtain ⟨mA, J, _⟩ := ins_get I.hok ha
  obtain ⟨od, J, _⟩ := J.look
  obtain ⟨tb, hl, hn⟩ := o.looks ec I ry
  show wpAny (model X.prog X.w) X.A (richCompare .NotEq (.ref a) u) (EP X pins σ Q) X.xe s
  refine PySem.W.ne_own hr.in1.units0 I.kIn J hl hn hm.at_ hm.fn ec.ne ec.ob ?_
  refine wpAny_mono (run_own rfl F hr.in1 hb hx I (.cons (show RelV (.ref a) (.ref a) from rfl) (.cons ry .nil)) q) (fun r s' hq => ?_) fun _ _ e => e
  obtain ⟨w, H', I', rw', b, rfl, q⟩ := hq
  cases rw'
  exact ⟨b, rfl, .bl (!b), H', I', rfl, q⟩
end
end KR
namespace KR
open PySem PySem.Spec PyProof.Rows L2
def topS (i : Nat) : Stmt := PySem.Challenge.pw_keeprows_k12_whole_packings_of_like_sett.main.body.getD i (.Pass ⟨0, 0, 0, 0⟩)
abbrev s_is_integer : Stmt := topS 15
abbrev P_is_integer : List Str := ["value"]
abbrev N_is_integer : List Str := ["value"]
def dd_is_integer : He.DefD := ⟨("is_integer", none), "is_integer", "is_integer", defArgs s_is_integer, defBody s_is_integer, defScope s_is_integer, [], []⟩
theorem sc_is_integer : FnScope N_is_integer P_is_integer (defScope s_is_integer) := ⟨rfl, rfl, rfl, by decide +kernel, rfl, by decide +kernel, by decide +kernel⟩
abbrev F_is_integer (K : PySem.W.Frag) (fd : FuncData) : Prop := FunD K "is_integer" "is_integer" (defArgs s_is_integer) (defBody s_is_integer) (defScope s_is_integer) [] [] (He.fAd K ("is_integer", none)) fd
abbrev s_is_between : Stmt := topS 16
abbrev P_is_between : List Str := ["value", "low", "high"]
abbrev N_is_between : List Str := ["value", "low", "high"]
def dd_is_between : He.DefD := ⟨("is_between", none), "is_between", "is_between", defArgs s_is_between, defBody s_is_between, defScope s_is_between, [], []⟩
theorem sc_is_between : FnScope N_is_between P_is_between (defScope s_is_between) := ⟨rfl, rfl, rfl, by decide +kernel, rfl, by decide +kernel, by decide +kernel⟩
abbrev F_is_between (K : PySem.W.Frag) (fd : FuncData) : Prop := FunD K "is_between" "is_between" (defArgs s_is_between) (defBody s_is_between) (defScope s_is_between) [] [] (He.fAd K ("is_between", none)) fd
abbrev s_check_part : Stmt := topS 17
abbrev P_check_part : List Str := ["part", "value", "low", "high"]
abbrev N_check_part : List Str := ["part", "value", "low", "high"]
def dd_check_part : He.DefD := ⟨("check_part", none), "check_part", "check_part", defArgs s_check_part, defBody s_check_part, defScope s_check_part, [], []⟩
theorem sc_check_part : FnScope N_check_part P_check_part (defScope s_check_part) := ⟨rfl, rfl, rfl, by decide +kernel, rfl, by decide +kernel, by decide +kernel⟩
abbrev F_check_part (K : PySem.W.Frag) (fd : FuncData) : Prop := FunD K "check_part" "check_part" (defArgs s_check_part) (defBody s_check_part) (defScope s_check_part) [] [] (He.fAd K ("check_part", none)) fd
abbrev s_Settings___init__ : Stmt := inClass (topS 18) 0
abbrev P_Settings___init__ : List Str := ["self", "lengths", "size", "fanout", "records", "every", "keep"]
abbrev N_Settings___init__ : List Str := ["self", "lengths", "size", "fanout", "records", "every", "keep", "length"]
def dd_Settings___init__ : He.DefD := ⟨("Settings", some "__init__"), "__init__", "Settings.__init__", defArgs s_Settings___init__, defBody s_Settings___init__, defScope s_Settings___init__, [], []⟩
theorem sc_Settings___init__ : FnScope N_Settings___init__ P_Settings___init__ (defScope s_Settings___init__) := ⟨rfl, rfl, rfl, by decide +kernel, rfl, by decide +kernel, by decide +kernel⟩
abbrev F_Settings___init__ (K : PySem.W.Frag) (fd : FuncData) : Prop := FunD K "__init__" "Settings.__init__" (defArgs s_Settings___init__) (defBody s_Settings___init__) (defScope s_Settings___init__) [] [] (He.fAd K ("Settings", some "__init__")) fd
abbrev s_Settings___eq__ : Stmt := inClass (topS 18) 1
abbrev P_Settings___eq__ : List Str := ["self", "other"]
abbrev N_Settings___eq__ : List Str := ["self", "other"]
def dd_Settings___eq__ : He.DefD := ⟨("Settings", some "__eq__"), "__eq__", "Settings.__eq__", defArgs s_Settings___eq__, defBody s_Settings___eq__, defScope s_Settings___eq__, [], []⟩
theorem sc_Settings___eq__ : FnScope N_Settings___eq__ P_Settings___eq__ (defScope s_Settings___eq__) := ⟨rfl, rfl, rfl, by decide +kernel, rfl, by decide +kernel, by decide +kernel⟩
abbrev F_Settings___eq__ (K : PySem.W.Frag) (fd : FuncData) : Prop := FunD K "__eq__" "Settings.__eq__" (defArgs s_Settings___eq__) (defBody s_Settings___eq__) (defScope s_Settings___eq__) [] [] (He.fAd K ("Settings", some "__eq__")) fd
abbrev s_Settings_parts : Stmt := inClass (topS 18) 2
abbrev P_Settings_parts : List Str := ["self"]
abbrev N_Settings_parts : List Str := ["self"]
def dd_Settings_parts : He.DefD := ⟨("Settings", some "parts"), "parts", "Settings.parts", defArgs s_Settings_parts, defBody s_Settings_parts, defScope s_Settings_parts, [], []⟩
theorem sc_Settings_parts : FnScope N_Settings_parts P_Settings_parts (defScope s_Settings_parts) := ⟨rfl, rfl, rfl, by decide +kernel, rfl, by decide +kernel, by decide +kernel⟩
abbrev F_Settings_parts (K : PySem.W.Frag) (fd : FuncData) : Prop := FunD K "parts" "Settings.parts" (defArgs s_Settings_parts) (defBody s_Settings_parts) (defScope s_Settings_parts) [] [] (He.fAd K ("Settings", some "parts")) fd
abbrev s_check_settings : Stmt := topS 19
abbrev P_check_settings : List Str := ["value"]
abbrev N_check_settings : List Str := ["value"]
def dd_check_settings : He.DefD := ⟨("check_settings", none), "check_settings", "check_settings", defArgs s_check_settings, defBody s_check_settings, defScope s_check_settings, [], []⟩
theorem sc_check_settings : FnScope N_check_settings P_check_settings (defScope s_check_settings) := ⟨rfl, rfl, rfl, by decide +kernel, rfl, by decide +kernel, by decide +kernel⟩
abbrev F_check_settings (K : PySem.W.Frag) (fd : FuncData) : Prop := FunD K "check_settings" "check_settings" (defArgs s_check_settings) (defBody s_check_settings) (defScope s_check_settings) [] [] (He.fAd K ("check_settings", none)) fd
abbrev s_check_moment : Stmt := topS 20
abbrev P_check_moment : List Str := ["value"]
abbrev N_check_moment : List Str := ["value"]
def dd_check_moment : He.DefD := ⟨("check_moment", none), "check_moment", "check_moment", defArgs s_check_moment, defBody s_check_moment, defScope s_check_moment, [], []⟩
theorem sc_check_moment : FnScope N_check_moment P_check_moment (defScope s_check_moment) := ⟨rfl, rfl, rfl, by decide +kernel, rfl, by decide +kernel, by decide +kernel⟩
abbrev F_check_moment (K : PySem.W.Frag) (fd : FuncData) : Prop := FunD K "check_moment" "check_moment" (defArgs s_check_moment) (defBody s_check_moment) (defScope s_check_moment) [] [] (He.fAd K ("check_moment", none)) fd
abbrev s_check_row : Stmt := topS 21
abbrev P_check_row : List Str := ["value", "moment"]
abbrev N_check_row : List Str := ["value", "moment"]
def dd_check_row : He.DefD := ⟨("check_row", none), "check_row", "check_row", defArgs s_check_row, defBody s_check_row, defScope s_check_row, [.int (1000000000000000000000000000000)], []⟩
theorem sc_check_row : FnScope N_check_row P_check_row (defScope s_check_row) := ⟨rfl, rfl, rfl, by decide +kernel, rfl, by decide +kernel, by decide +kernel⟩
abbrev F_check_row (K : PySem.W.Frag) (fd : FuncData) : Prop := FunD K "check_row" "check_row" (defArgs s_check_row) (defBody s_check_row) (defScope s_check_row) [.int (1000000000000000000000000000000)] [] (He.fAd K ("check_row", none)) fd
abbrev s_Packing___init__ : Stmt := inClass (topS 23) 0
abbrev P_Packing___init__ : List Str := ["self", "settings"]
abbrev N_Packing___init__ : List Str := ["self", "settings", "seen"]
def dd_Packing___init__ : He.DefD := ⟨("Packing", some "__init__"), "__init__", "Packing.__init__", defArgs s_Packing___init__, defBody s_Packing___init__, defScope s_Packing___init__, [], []⟩
theorem sc_Packing___init__ : FnScope N_Packing___init__ P_Packing___init__ (defScope s_Packing___init__) := ⟨rfl, rfl, rfl, by decide +kernel, rfl, by decide +kernel, by decide +kernel⟩
abbrev F_Packing___init__ (K : PySem.W.Frag) (fd : FuncData) : Prop := FunD K "__init__" "Packing.__init__" (defArgs s_Packing___init__) (defBody s_Packing___init__) (defScope s_Packing___init__) [] [] (He.fAd K ("Packing", some "__init__")) fd
abbrev s_Packing_length : Stmt := inClass (topS 23) 1
abbrev P_Packing_length : List Str := ["self", "row"]
abbrev N_Packing_length : List Str := ["self", "row"]
def dd_Packing_length : He.DefD := ⟨("Packing", some "length"), "length", "Packing.length", defArgs s_Packing_length, defBody s_Packing_length, defScope s_Packing_length, [], []⟩
theorem sc_Packing_length : FnScope N_Packing_length P_Packing_length (defScope s_Packing_length) := ⟨rfl, rfl, rfl, by decide +kernel, rfl, by decide +kernel, by decide +kernel⟩
abbrev F_Packing_length (K : PySem.W.Frag) (fd : FuncData) : Prop := FunD K "length" "Packing.length" (defArgs s_Packing_length) (defBody s_Packing_length) (defScope s_Packing_length) [] [] (He.fAd K ("Packing", some "length")) fd
abbrev s_Packing_rows_from : Stmt := inClass (topS 23) 2
abbrev P_Packing_rows_from : List Str := ["self", "row"]
abbrev N_Packing_rows_from : List Str := ["self", "row", "found", "units"]
def dd_Packing_rows_from : He.DefD := ⟨("Packing", some "rows_from"), "rows_from", "Packing.rows_from", defArgs s_Packing_rows_from, defBody s_Packing_rows_from, defScope s_Packing_rows_from, [], []⟩
theorem sc_Packing_rows_from : FnScope N_Packing_rows_from P_Packing_rows_from (defScope s_Packing_rows_from) := ⟨rfl, rfl, rfl, by decide +kernel, rfl, by decide +kernel, by decide +kernel⟩
abbrev F_Packing_rows_from (K : PySem.W.Frag) (fd : FuncData) : Prop := FunD K "rows_from" "Packing.rows_from" (defArgs s_Packing_rows_from) (defBody s_Packing_rows_from) (defScope s_Packing_rows_from) [] [] (He.fAd K ("Packing", some "rows_from")) fd
abbrev s_Packing_start : Stmt := inClass (topS 23) 3
abbrev P_Packing_start : List Str := ["self", "page"]
abbrev N_Packing_start : List Str := ["self", "page", "times", "place"]
def dd_Packing_start : He.DefD := ⟨("Packing", some "start"), "start", "Packing.start", defArgs s_Packing_start, defBody s_Packing_start, defScope s_Packing_start, [], []⟩
theorem sc_Packing_start : FnScope N_Packing_start P_Packing_start (defScope s_Packing_start) := ⟨rfl, rfl, rfl, by decide +kernel, rfl, by decide +kernel, by decide +kernel⟩
abbrev F_Packing_start (K : PySem.W.Frag) (fd : FuncData) : Prop := FunD K "start" "Packing.start" (defArgs s_Packing_start) (defBody s_Packing_start) (defScope s_Packing_start) [] [] (He.fAd K ("Packing", some "start")) fd
abbrev s_Packing_holder : Stmt := inClass (topS 23) 4
abbrev P_Packing_holder : List Str := ["self", "row"]
abbrev N_Packing_holder : List Str := ["self", "row", "times", "near", "page", "place"]
def dd_Packing_holder : He.DefD := ⟨("Packing", some "holder"), "holder", "Packing.holder", defArgs s_Packing_holder, defBody s_Packing_holder, defScope s_Packing_holder, [], []⟩
theorem sc_Packing_holder : FnScope N_Packing_holder P_Packing_holder (defScope s_Packing_holder) := ⟨rfl, rfl, rfl, by decide +kernel, rfl, by decide +kernel, by decide +kernel⟩
abbrev F_Packing_holder (K : PySem.W.Frag) (fd : FuncData) : Prop := FunD K "holder" "Packing.holder" (defArgs s_Packing_holder) (defBody s_Packing_holder) (defScope s_Packing_holder) [] [] (He.fAd K ("Packing", some "holder")) fd
abbrev s_Packing_check_page : Stmt := inClass (topS 23) 5
abbrev P_Packing_check_page : List Str := ["self", "page"]
abbrev N_Packing_check_page : List Str := ["self", "page"]
def dd_Packing_check_page : He.DefD := ⟨("Packing", some "check_page"), "check_page", "Packing.check_page", defArgs s_Packing_check_page, defBody s_Packing_check_page, defScope s_Packing_check_page, [], []⟩
theorem sc_Packing_check_page : FnScope N_Packing_check_page P_Packing_check_page (defScope s_Packing_check_page) := ⟨rfl, rfl, rfl, by decide +kernel, rfl, by decide +kernel, by decide +kernel⟩
abbrev F_Packing_check_page (K : PySem.W.Frag) (fd : FuncData) : Prop := FunD K "check_page" "Packing.check_page" (defArgs s_Packing_check_page) (defBody s_Packing_check_page) (defScope s_Packing_check_page) [] [] (He.fAd K ("Packing", some "check_page")) fd
abbrev s_Packing_units_of : Stmt := inClass (topS 23) 6
abbrev P_Packing_units_of : List Str := ["self", "row", "behind"]
abbrev N_Packing_units_of : List Str := ["self", "row", "behind", "one"]
def dd_Packing_units_of : He.DefD := ⟨("Packing", some "units_of"), "units_of", "Packing.units_of", defArgs s_Packing_units_of, defBody s_Packing_units_of, defScope s_Packing_units_of, [], []⟩
theorem sc_Packing_units_of : FnScope N_Packing_units_of P_Packing_units_of (defScope s_Packing_units_of) := ⟨rfl, rfl, rfl, by decide +kernel, rfl, by decide +kernel, by decide +kernel⟩
abbrev F_Packing_units_of (K : PySem.W.Frag) (fd : FuncData) : Prop := FunD K "units_of" "Packing.units_of" (defArgs s_Packing_units_of) (defBody s_Packing_units_of) (defScope s_Packing_units_of) [] [] (He.fAd K ("Packing", some "units_of")) fd
abbrev s_Packing_first_row : Stmt := inClass (topS 23) 7
abbrev P_Packing_first_row : List Str := ["self", "page"]
abbrev N_Packing_first_row : List Str := ["self", "page"]
def dd_Packing_first_row : He.DefD := ⟨("Packing", some "first_row"), "first_row", "Packing.first_row", defArgs s_Packing_first_row, defBody s_Packing_first_row, defScope s_Packing_first_row, [], []⟩
theorem sc_Packing_first_row : FnScope N_Packing_first_row P_Packing_first_row (defScope s_Packing_first_row) := ⟨rfl, rfl, rfl, by decide +kernel, rfl, by decide +kernel, by decide +kernel⟩
abbrev F_Packing_first_row (K : PySem.W.Frag) (fd : FuncData) : Prop := FunD K "first_row" "Packing.first_row" (defArgs s_Packing_first_row) (defBody s_Packing_first_row) (defScope s_Packing_first_row) [] [] (He.fAd K ("Packing", some "first_row")) fd
abbrev s_Packing_page_of : Stmt := inClass (topS 23) 8
abbrev P_Packing_page_of : List Str := ["self", "row"]
abbrev N_Packing_page_of : List Str := ["self", "row"]
def dd_Packing_page_of : He.DefD := ⟨("Packing", some "page_of"), "page_of", "Packing.page_of", defArgs s_Packing_page_of, defBody s_Packing_page_of, defScope s_Packing_page_of, [], []⟩
theorem sc_Packing_page_of : FnScope N_Packing_page_of P_Packing_page_of (defScope s_Packing_page_of) := ⟨rfl, rfl, rfl, by decide +kernel, rfl, by decide +kernel, by decide +kernel⟩
abbrev F_Packing_page_of (K : PySem.W.Frag) (fd : FuncData) : Prop := FunD K "page_of" "Packing.page_of" (defArgs s_Packing_page_of) (defBody s_Packing_page_of) (defScope s_Packing_page_of) [] [] (He.fAd K ("Packing", some "page_of")) fd
abbrev s_Packing_rows_on : Stmt := inClass (topS 23) 9
abbrev P_Packing_rows_on : List Str := ["self", "page"]
abbrev N_Packing_rows_on : List Str := ["self", "page"]
def dd_Packing_rows_on : He.DefD := ⟨("Packing", some "rows_on"), "rows_on", "Packing.rows_on", defArgs s_Packing_rows_on, defBody s_Packing_rows_on, defScope s_Packing_rows_on, [], []⟩
theorem sc_Packing_rows_on : FnScope N_Packing_rows_on P_Packing_rows_on (defScope s_Packing_rows_on) := ⟨rfl, rfl, rfl, by decide +kernel, rfl, by decide +kernel, by decide +kernel⟩
abbrev F_Packing_rows_on (K : PySem.W.Frag) (fd : FuncData) : Prop := FunD K "rows_on" "Packing.rows_on" (defArgs s_Packing_rows_on) (defBody s_Packing_rows_on) (defScope s_Packing_rows_on) [] [] (He.fAd K ("Packing", some "rows_on")) fd
abbrev s_Packing_units_on : Stmt := inClass (topS 23) 10
abbrev P_Packing_units_on : List Str := ["self", "page"]
abbrev N_Packing_units_on : List Str := ["self", "page"]
def dd_Packing_units_on : He.DefD := ⟨("Packing", some "units_on"), "units_on", "Packing.units_on", defArgs s_Packing_units_on, defBody s_Packing_units_on, defScope s_Packing_units_on, [], []⟩
theorem sc_Packing_units_on : FnScope N_Packing_units_on P_Packing_units_on (defScope s_Packing_units_on) := ⟨rfl, rfl, rfl, by decide +kernel, rfl, by decide +kernel, by decide +kernel⟩
abbrev F_Packing_units_on (K : PySem.W.Frag) (fd : FuncData) : Prop := FunD K "units_on" "Packing.units_on" (defArgs s_Packing_units_on) (defBody s_Packing_units_on) (defScope s_Packing_units_on) [] [] (He.fAd K ("Packing", some "units_on")) fd
abbrev s_Packing_units_left : Stmt := inClass (topS 23) 11
abbrev P_Packing_units_left : List Str := ["self", "row"]
abbrev N_Packing_units_left : List Str := ["self", "row"]
def dd_Packing_units_left : He.DefD := ⟨("Packing", some "units_left"), "units_left", "Packing.units_left", defArgs s_Packing_units_left, defBody s_Packing_units_left, defScope s_Packing_units_left, [], []⟩
theorem sc_Packing_units_left : FnScope N_Packing_units_left P_Packing_units_left (defScope s_Packing_units_left) := ⟨rfl, rfl, rfl, by decide +kernel, rfl, by decide +kernel, by decide +kernel⟩
abbrev F_Packing_units_left (K : PySem.W.Frag) (fd : FuncData) : Prop := FunD K "units_left" "Packing.units_left" (defArgs s_Packing_units_left) (defBody s_Packing_units_left) (defScope s_Packing_units_left) [] [] (He.fAd K ("Packing", some "units_left")) fd
abbrev s_Packing_begun : Stmt := inClass (topS 23) 12
abbrev P_Packing_begun : List Str := ["self", "moment"]
abbrev N_Packing_begun : List Str := ["self", "moment"]
def dd_Packing_begun : He.DefD := ⟨("Packing", some "begun"), "begun", "Packing.begun", defArgs s_Packing_begun, defBody s_Packing_begun, defScope s_Packing_begun, [], []⟩
theorem sc_Packing_begun : FnScope N_Packing_begun P_Packing_begun (defScope s_Packing_begun) := ⟨rfl, rfl, rfl, by decide +kernel, rfl, by decide +kernel, by decide +kernel⟩
abbrev F_Packing_begun (K : PySem.W.Frag) (fd : FuncData) : Prop := FunD K "begun" "Packing.begun" (defArgs s_Packing_begun) (defBody s_Packing_begun) (defScope s_Packing_begun) [] [] (He.fAd K ("Packing", some "begun")) fd
abbrev s_Packing_cycle : Stmt := inClass (topS 23) 13
abbrev P_Packing_cycle : List Str := ["self"]
abbrev N_Packing_cycle : List Str := ["self"]
def dd_Packing_cycle : He.DefD := ⟨("Packing", some "cycle"), "cycle", "Packing.cycle", defArgs s_Packing_cycle, defBody s_Packing_cycle, defScope s_Packing_cycle, [], []⟩
theorem sc_Packing_cycle : FnScope N_Packing_cycle P_Packing_cycle (defScope s_Packing_cycle) := ⟨rfl, rfl, rfl, by decide +kernel, rfl, by decide +kernel, by decide +kernel⟩
abbrev F_Packing_cycle (K : PySem.W.Frag) (fd : FuncData) : Prop := FunD K "cycle" "Packing.cycle" (defArgs s_Packing_cycle) (defBody s_Packing_cycle) (defScope s_Packing_cycle) [] [] (He.fAd K ("Packing", some "cycle")) fd
abbrev s_law_mix : Stmt := topS 25
abbrev P_law_mix : List Str := ["cell", "lap"]
abbrev N_law_mix : List Str := ["cell", "lap", "blend"]
def dd_law_mix : He.DefD := ⟨("_law_mix", none), "_law_mix", "_law_mix", defArgs s_law_mix, defBody s_law_mix, defScope s_law_mix, [], []⟩
theorem sc_law_mix : FnScope N_law_mix P_law_mix (defScope s_law_mix) := ⟨rfl, rfl, rfl, by decide +kernel, rfl, by decide +kernel, by decide +kernel⟩
abbrev F_law_mix (K : PySem.W.Frag) (fd : FuncData) : Prop := FunD K "_law_mix" "_law_mix" (defArgs s_law_mix) (defBody s_law_mix) (defScope s_law_mix) [] [] (He.fAd K ("_law_mix", none)) fd
abbrev s_law_source : Stmt := topS 26
abbrev P_law_source : List Str := ["script", "k"]
abbrev N_law_source : List Str := ["script", "k", "cell"]
def dd_law_source : He.DefD := ⟨("_law_source", none), "_law_source", "_law_source", defArgs s_law_source, defBody s_law_source, defScope s_law_source, [], []⟩
theorem sc_law_source : FnScope N_law_source P_law_source (defScope s_law_source) := ⟨rfl, rfl, rfl, by decide +kernel, rfl, by decide +kernel, by decide +kernel⟩
abbrev F_law_source (K : PySem.W.Frag) (fd : FuncData) : Prop := FunD K "_law_source" "_law_source" (defArgs s_law_source) (defBody s_law_source) (defScope s_law_source) [] [] (He.fAd K ("_law_source", none)) fd
abbrev s_law_draw : Stmt := topS 27
abbrev P_law_draw : List Str := ["source", "limit"]
abbrev N_law_draw : List Str := ["source", "limit", "drawn"]
def dd_law_draw : He.DefD := ⟨("_law_draw", none), "_law_draw", "_law_draw", defArgs s_law_draw, defBody s_law_draw, defScope s_law_draw, [], []⟩
theorem sc_law_draw : FnScope N_law_draw P_law_draw (defScope s_law_draw) := ⟨rfl, rfl, rfl, by decide +kernel, rfl, by decide +kernel, by decide +kernel⟩
abbrev F_law_draw (K : PySem.W.Frag) (fd : FuncData) : Prop := FunD K "_law_draw" "_law_draw" (defArgs s_law_draw) (defBody s_law_draw) (defScope s_law_draw) [] [] (He.fAd K ("_law_draw", none)) fd
abbrev s_law_pick : Stmt := topS 28
abbrev P_law_pick : List Str := ["source", "items"]
abbrev N_law_pick : List Str := ["source", "items"]
def dd_law_pick : He.DefD := ⟨("_law_pick", none), "_law_pick", "_law_pick", defArgs s_law_pick, defBody s_law_pick, defScope s_law_pick, [], []⟩
theorem sc_law_pick : FnScope N_law_pick P_law_pick (defScope s_law_pick) := ⟨rfl, rfl, rfl, by decide +kernel, rfl, by decide +kernel, by decide +kernel⟩
abbrev F_law_pick (K : PySem.W.Frag) (fd : FuncData) : Prop := FunD K "_law_pick" "_law_pick" (defArgs s_law_pick) (defBody s_law_pick) (defScope s_law_pick) [] [] (He.fAd K ("_law_pick", none)) fd
abbrev s_law_settings : Stmt := topS 29
abbrev P_law_settings : List Str := ["p"]
abbrev N_law_settings : List Str := ["p"]
def dd_law_settings : He.DefD := ⟨("_law_settings", none), "_law_settings", "_law_settings", defArgs s_law_settings, defBody s_law_settings, defScope s_law_settings, [], []⟩
theorem sc_law_settings : FnScope N_law_settings P_law_settings (defScope s_law_settings) := ⟨rfl, rfl, rfl, by decide +kernel, rfl, by decide +kernel, by decide +kernel⟩
abbrev F_law_settings (K : PySem.W.Frag) (fd : FuncData) : Prop := FunD K "_law_settings" "_law_settings" (defArgs s_law_settings) (defBody s_law_settings) (defScope s_law_settings) [] [] (He.fAd K ("_law_settings", none)) fd
abbrev s_law_small : Stmt := topS 30
abbrev P_law_small : List Str := ["source"]
abbrev N_law_small : List Str := ["source", "room", "k"]
def dd_law_small : He.DefD := ⟨("_law_small", none), "_law_small", "_law_small", defArgs s_law_small, defBody s_law_small, defScope s_law_small, [], []⟩
theorem sc_law_small : FnScope N_law_small P_law_small (defScope s_law_small) := ⟨rfl, rfl, rfl, by decide +kernel, rfl, by decide +kernel, by decide +kernel⟩
abbrev F_law_small (K : PySem.W.Frag) (fd : FuncData) : Prop := FunD K "_law_small" "_law_small" (defArgs s_law_small) (defBody s_law_small) (defScope s_law_small) [] [] (He.fAd K ("_law_small", none)) fd
abbrev s_law_rest : Stmt := topS 31
abbrev P_law_rest : List Str := ["source"]
abbrev N_law_rest : List Str := ["source"]
def dd_law_rest : He.DefD := ⟨("_law_rest", none), "_law_rest", "_law_rest", defArgs s_law_rest, defBody s_law_rest, defScope s_law_rest, [], []⟩
theorem sc_law_rest : FnScope N_law_rest P_law_rest (defScope s_law_rest) := ⟨rfl, rfl, rfl, by decide +kernel, rfl, by decide +kernel, by decide +kernel⟩
abbrev F_law_rest (K : PySem.W.Frag) (fd : FuncData) : Prop := FunD K "_law_rest" "_law_rest" (defArgs s_law_rest) (defBody s_law_rest) (defScope s_law_rest) [] [] (He.fAd K ("_law_rest", none)) fd
abbrev s_law_alike : Stmt := topS 32
abbrev P_law_alike : List Str := ["source", "one", "other", "times"]
abbrev N_law_alike : List Str := ["source", "one", "other", "times", "turn", "row", "page"]
def dd_law_alike : He.DefD := ⟨("_law_alike", none), "_law_alike", "_law_alike", defArgs s_law_alike, defBody s_law_alike, defScope s_law_alike, [], []⟩
theorem sc_law_alike : FnScope N_law_alike P_law_alike (defScope s_law_alike) := ⟨rfl, rfl, rfl, by decide +kernel, rfl, by decide +kernel, by decide +kernel⟩
abbrev F_law_alike (K : PySem.W.Frag) (fd : FuncData) : Prop := FunD K "_law_alike" "_law_alike" (defArgs s_law_alike) (defBody s_law_alike) (defScope s_law_alike) [] [] (He.fAd K ("_law_alike", none)) fd
abbrev s_law_right : Stmt := topS 33
abbrev P_law_right : List Str := ["source"]
abbrev N_law_right : List Str := ["source", "some", "room", "one", "times", "longer", "great", "row", "twice", "first", "pages", "rows_so", "length"]
def dd_law_right : He.DefD := ⟨("_law_right", none), "_law_right", "_law_right", defArgs s_law_right, defBody s_law_right, defScope s_law_right, [], []⟩
theorem sc_law_right : FnScope N_law_right P_law_right (defScope s_law_right) := ⟨rfl, rfl, rfl, by decide +kernel, rfl, by decide +kernel, by decide +kernel⟩
abbrev F_law_right (K : PySem.W.Frag) (fd : FuncData) : Prop := FunD K "_law_right" "_law_right" (defArgs s_law_right) (defBody s_law_right) (defScope s_law_right) [] [] (He.fAd K ("_law_right", none)) fd
abbrev s_law : Stmt := topS 34
abbrev P_law : List Str := ["script"]
abbrev N_law : List Str := ["script", "k", "source"]
def dd_law : He.DefD := ⟨("law", none), "law", "law", defArgs s_law, defBody s_law, defScope s_law, [], []⟩
theorem sc_law : FnScope N_law P_law (defScope s_law) := ⟨rfl, rfl, rfl, by decide +kernel, rfl, by decide +kernel, by decide +kernel⟩
abbrev F_law (K : PySem.W.Frag) (fd : FuncData) : Prop := FunD K "law" "law" (defArgs s_law) (defBody s_law) (defScope s_law) [] [] (He.fAd K ("law", none)) fd
abbrev s_InvalidSettings___init__ : Stmt := inClass (topS 3) 0
abbrev P_InvalidSettings___init__ : List Str := ["self", "part"]
abbrev N_InvalidSettings___init__ : List Str := ["self", "part"]
def dd_InvalidSettings___init__ : He.DefD := ⟨("InvalidSettings", some "__init__"), "__init__", "InvalidSettings.__init__", defArgs s_InvalidSettings___init__, defBody s_InvalidSettings___init__, defScope s_InvalidSettings___init__, [], []⟩
theorem sc_InvalidSettings___init__ : FnScope N_InvalidSettings___init__ P_InvalidSettings___init__ (defScope s_InvalidSettings___init__) := ⟨rfl, rfl, rfl, by decide +kernel, rfl, by decide +kernel, by decide +kernel⟩
abbrev F_InvalidSettings___init__ (K : PySem.W.Frag) (fd : FuncData) : Prop := FunD K "__init__" "InvalidSettings.__init__" (defArgs s_InvalidSettings___init__) (defBody s_InvalidSettings___init__) (defScope s_InvalidSettings___init__) [] [] (He.fAd K ("InvalidSettings", some "__init__")) fd
abbrev s_InvalidRow___init__ : Stmt := inClass (topS 4) 0
abbrev P_InvalidRow___init__ : List Str := ["self", "row"]
abbrev N_InvalidRow___init__ : List Str := ["self", "row"]
def dd_InvalidRow___init__ : He.DefD := ⟨("InvalidRow", some "__init__"), "__init__", "InvalidRow.__init__", defArgs s_InvalidRow___init__, defBody s_InvalidRow___init__, defScope s_InvalidRow___init__, [], []⟩
theorem sc_InvalidRow___init__ : FnScope N_InvalidRow___init__ P_InvalidRow___init__ (defScope s_InvalidRow___init__) := ⟨rfl, rfl, rfl, by decide +kernel, rfl, by decide +kernel, by decide +kernel⟩
abbrev F_InvalidRow___init__ (K : PySem.W.Frag) (fd : FuncData) : Prop := FunD K "__init__" "InvalidRow.__init__" (defArgs s_InvalidRow___init__) (defBody s_InvalidRow___init__) (defScope s_InvalidRow___init__) [] [] (He.fAd K ("InvalidRow", some "__init__")) fd
abbrev s_InvalidPage___init__ : Stmt := inClass (topS 5) 0
abbrev P_InvalidPage___init__ : List Str := ["self", "page"]
abbrev N_InvalidPage___init__ : List Str := ["self", "page"]
def dd_InvalidPage___init__ : He.DefD := ⟨("InvalidPage", some "__init__"), "__init__", "InvalidPage.__init__", defArgs s_InvalidPage___init__, defBody s_InvalidPage___init__, defScope s_InvalidPage___init__, [], []⟩
theorem sc_InvalidPage___init__ : FnScope N_InvalidPage___init__ P_InvalidPage___init__ (defScope s_InvalidPage___init__) := ⟨rfl, rfl, rfl, by decide +kernel, rfl, by decide +kernel, by decide +kernel⟩
abbrev F_InvalidPage___init__ (K : PySem.W.Frag) (fd : FuncData) : Prop := FunD K "__init__" "InvalidPage.__init__" (defArgs s_InvalidPage___init__) (defBody s_InvalidPage___init__) (defScope s_InvalidPage___init__) [] [] (He.fAd K ("InvalidPage", some "__init__")) fd
abbrev s_InvalidNumber___init__ : Stmt := inClass (topS 6) 0
abbrev P_InvalidNumber___init__ : List Str := ["self", "number"]
abbrev N_InvalidNumber___init__ : List Str := ["self", "number"]
def dd_InvalidNumber___init__ : He.DefD := ⟨("InvalidNumber", some "__init__"), "__init__", "InvalidNumber.__init__", defArgs s_InvalidNumber___init__, defBody s_InvalidNumber___init__, defScope s_InvalidNumber___init__, [], []⟩
theorem sc_InvalidNumber___init__ : FnScope N_InvalidNumber___init__ P_InvalidNumber___init__ (defScope s_InvalidNumber___init__) := ⟨rfl, rfl, rfl, by decide +kernel, rfl, by decide +kernel, by decide +kernel⟩
abbrev F_InvalidNumber___init__ (K : PySem.W.Frag) (fd : FuncData) : Prop := FunD K "__init__" "InvalidNumber.__init__" (defArgs s_InvalidNumber___init__) (defBody s_InvalidNumber___init__) (defScope s_InvalidNumber___init__) [] [] (He.fAd K ("InvalidNumber", some "__init__")) fd
theorem lk_Settings_1_0 {v0 : V} : List.lookup ("lengths" : Str) [(("lengths" : Str), v0)] = some v0 := by kernel_rfl
theorem lk_Settings_2_0 {v0 v1 : V} : List.lookup ("lengths" : Str) [(("lengths" : Str), v0), (("size" : Str), v1)] = some v0 := by kernel_rfl
theorem lk_Settings_2_1 {v0 v1 : V} : List.lookup ("size" : Str) [(("lengths" : Str), v0), (("size" : Str), v1)] = some v1 := by kernel_rfl
theorem lk_Settings_3_0 {v0 v1 v2 : V} : List.lookup ("lengths" : Str) [(("lengths" : Str), v0), (("size" : Str), v1), (("fanout" : Str), v2)] = some v0 := by kernel_rfl
theorem lk_Settings_3_1 {v0 v1 v2 : V} : List.lookup ("size" : Str) [(("lengths" : Str), v0), (("size" : Str), v1), (("fanout" : Str), v2)] = some v1 := by kernel_rfl
theorem lk_Settings_3_2 {v0 v1 v2 : V} : List.lookup ("fanout" : Str) [(("lengths" : Str), v0), (("size" : Str), v1), (("fanout" : Str), v2)] = some v2 := by kernel_rfl
theorem lk_Settings_4_0 {v0 v1 v2 v3 : V} : List.lookup ("lengths" : Str) [(("lengths" : Str), v0), (("size" : Str), v1), (("fanout" : Str), v2), (("records" : Str), v3)] = some v0 := by kernel_rfl
theorem lk_Settings_4_1 {v0 v1 v2 v3 : V} : List.lookup ("size" : Str) [(("lengths" : Str), v0), (("size" : Str), v1), (("fanout" : Str), v2), (("records" : Str), v3)] = some v1 := by kernel_rfl
theorem lk_Settings_4_2 {v0 v1 v2 v3 : V} : List.lookup ("fanout" : Str) [(("lengths" : Str), v0), (("size" : Str), v1), (("fanout" : Str), v2), (("records" : Str), v3)] = some v2 := by kernel_rfl
theorem lk_Settings_4_3 {v0 v1 v2 v3 : V} : List.lookup ("records" : Str) [(("lengths" : Str), v0), (("size" : Str), v1), (("fanout" : Str), v2), (("records" : Str), v3)] = some v3 := by kernel_rfl
theorem lk_Settings_5_0 {v0 v1 v2 v3 v4 : V} : List.lookup ("lengths" : Str) [(("lengths" : Str), v0), (("size" : Str), v1), (("fanout" : Str), v2), (("records" : Str), v3), (("every" : Str), v4)] = some v0 := by kernel_rfl
theorem lk_Settings_5_1 {v0 v1 v2 v3 v4 : V} : List.lookup ("size" : Str) [(("lengths" : Str), v0), (("size" : Str), v1), (("fanout" : Str), v2), (("records" : Str), v3), (("every" : Str), v4)] = some v1 := by kernel_rfl
theorem lk_Settings_5_2 {v0 v1 v2 v3 v4 : V} : List.lookup ("fanout" : Str) [(("lengths" : Str), v0), (("size" : Str), v1), (("fanout" : Str), v2), (("records" : Str), v3), (("every" : Str), v4)] = some v2 := by kernel_rfl
theorem lk_Settings_5_3 {v0 v1 v2 v3 v4 : V} : List.lookup ("records" : Str) [(("lengths" : Str), v0), (("size" : Str), v1), (("fanout" : Str), v2), (("records" : Str), v3), (("every" : Str), v4)] = some v3 := by kernel_rfl
theorem lk_Settings_5_4 {v0 v1 v2 v3 v4 : V} : List.lookup ("every" : Str) [(("lengths" : Str), v0), (("size" : Str), v1), (("fanout" : Str), v2), (("records" : Str), v3), (("every" : Str), v4)] = some v4 := by kernel_rfl
theorem lk_Settings_6_0 {v0 v1 v2 v3 v4 v5 : V} : List.lookup ("lengths" : Str) [(("lengths" : Str), v0), (("size" : Str), v1), (("fanout" : Str), v2), (("records" : Str), v3), (("every" : Str), v4), (("keep" : Str), v5)] = some v0 := by kernel_rfl
theorem lk_Settings_6_1 {v0 v1 v2 v3 v4 v5 : V} : List.lookup ("size" : Str) [(("lengths" : Str), v0), (("size" : Str), v1), (("fanout" : Str), v2), (("records" : Str), v3), (("every" : Str), v4), (("keep" : Str), v5)] = some v1 := by kernel_rfl
theorem lk_Settings_6_2 {v0 v1 v2 v3 v4 v5 : V} : List.lookup ("fanout" : Str) [(("lengths" : Str), v0), (("size" : Str), v1), (("fanout" : Str), v2), (("records" : Str), v3), (("every" : Str), v4), (("keep" : Str), v5)] = some v2 := by kernel_rfl
theorem lk_Settings_6_3 {v0 v1 v2 v3 v4 v5 : V} : List.lookup ("records" : Str) [(("lengths" : Str), v0), (("size" : Str), v1), (("fanout" : Str), v2), (("records" : Str), v3), (("every" : Str), v4), (("keep" : Str), v5)] = some v3 := by kernel_rfl
theorem lk_Settings_6_4 {v0 v1 v2 v3 v4 v5 : V} : List.lookup ("every" : Str) [(("lengths" : Str), v0), (("size" : Str), v1), (("fanout" : Str), v2), (("records" : Str), v3), (("every" : Str), v4), (("keep" : Str), v5)] = some v4 := by kernel_rfl
theorem lk_Settings_6_5 {v0 v1 v2 v3 v4 v5 : V} : List.lookup ("keep" : Str) [(("lengths" : Str), v0), (("size" : Str), v1), (("fanout" : Str), v2), (("records" : Str), v3), (("every" : Str), v4), (("keep" : Str), v5)] = some v5 := by kernel_rfl
theorem lk_Packing_1_0 {v0 : V} : List.lookup ("row_lengths" : Str) [(("row_lengths" : Str), v0)] = some v0 := by kernel_rfl
theorem lk_Packing_2_0 {v0 v1 : V} : List.lookup ("row_lengths" : Str) [(("row_lengths" : Str), v0), (("room" : Str), v1)] = some v0 := by kernel_rfl
theorem lk_Packing_2_1 {v0 v1 : V} : List.lookup ("room" : Str) [(("row_lengths" : Str), v0), (("room" : Str), v1)] = some v1 := by kernel_rfl
theorem lk_Packing_3_0 {v0 v1 v2 : V} : List.lookup ("row_lengths" : Str) [(("row_lengths" : Str), v0), (("room" : Str), v1), (("starts" : Str), v2)] = some v0 := by kernel_rfl
theorem lk_Packing_3_1 {v0 v1 v2 : V} : List.lookup ("room" : Str) [(("row_lengths" : Str), v0), (("room" : Str), v1), (("starts" : Str), v2)] = some v1 := by kernel_rfl
theorem lk_Packing_3_2 {v0 v1 v2 : V} : List.lookup ("starts" : Str) [(("row_lengths" : Str), v0), (("room" : Str), v1), (("starts" : Str), v2)] = some v2 := by kernel_rfl
theorem lk_Packing_4_0 {v0 v1 v2 v3 : V} : List.lookup ("row_lengths" : Str) [(("row_lengths" : Str), v0), (("room" : Str), v1), (("starts" : Str), v2), (("first" : Str), v3)] = some v0 := by kernel_rfl
theorem lk_Packing_4_1 {v0 v1 v2 v3 : V} : List.lookup ("room" : Str) [(("row_lengths" : Str), v0), (("room" : Str), v1), (("starts" : Str), v2), (("first" : Str), v3)] = some v1 := by kernel_rfl
theorem lk_Packing_4_2 {v0 v1 v2 v3 : V} : List.lookup ("starts" : Str) [(("row_lengths" : Str), v0), (("room" : Str), v1), (("starts" : Str), v2), (("first" : Str), v3)] = some v2 := by kernel_rfl
theorem lk_Packing_4_3 {v0 v1 v2 v3 : V} : List.lookup ("first" : Str) [(("row_lengths" : Str), v0), (("room" : Str), v1), (("starts" : Str), v2), (("first" : Str), v3)] = some v3 := by kernel_rfl
theorem lk_Packing_5_0 {v0 v1 v2 v3 v4 : V} : List.lookup ("row_lengths" : Str) [(("row_lengths" : Str), v0), (("room" : Str), v1), (("starts" : Str), v2), (("first" : Str), v3), (("pages" : Str), v4)] = some v0 := by kernel_rfl
theorem lk_Packing_5_1 {v0 v1 v2 v3 v4 : V} : List.lookup ("room" : Str) [(("row_lengths" : Str), v0), (("room" : Str), v1), (("starts" : Str), v2), (("first" : Str), v3), (("pages" : Str), v4)] = some v1 := by kernel_rfl
theorem lk_Packing_5_2 {v0 v1 v2 v3 v4 : V} : List.lookup ("starts" : Str) [(("row_lengths" : Str), v0), (("room" : Str), v1), (("starts" : Str), v2), (("first" : Str), v3), (("pages" : Str), v4)] = some v2 := by kernel_rfl
theorem lk_Packing_5_3 {v0 v1 v2 v3 v4 : V} : List.lookup ("first" : Str) [(("row_lengths" : Str), v0), (("room" : Str), v1), (("starts" : Str), v2), (("first" : Str), v3), (("pages" : Str), v4)] = some v3 := by kernel_rfl
theorem lk_Packing_5_4 {v0 v1 v2 v3 v4 : V} : List.lookup ("pages" : Str) [(("row_lengths" : Str), v0), (("room" : Str), v1), (("starts" : Str), v2), (("first" : Str), v3), (("pages" : Str), v4)] = some v4 := by kernel_rfl
theorem lk_Packing_6_0 {v0 v1 v2 v3 v4 v5 : V} : List.lookup ("row_lengths" : Str) [(("row_lengths" : Str), v0), (("room" : Str), v1), (("starts" : Str), v2), (("first" : Str), v3), (("pages" : Str), v4), (("rows" : Str), v5)] = some v0 := by kernel_rfl
theorem lk_Packing_6_1 {v0 v1 v2 v3 v4 v5 : V} : List.lookup ("room" : Str) [(("row_lengths" : Str), v0), (("room" : Str), v1), (("starts" : Str), v2), (("first" : Str), v3), (("pages" : Str), v4), (("rows" : Str), v5)] = some v1 := by kernel_rfl
theorem lk_Packing_6_2 {v0 v1 v2 v3 v4 v5 : V} : List.lookup ("starts" : Str) [(("row_lengths" : Str), v0), (("room" : Str), v1), (("starts" : Str), v2), (("first" : Str), v3), (("pages" : Str), v4), (("rows" : Str), v5)] = some v2 := by kernel_rfl
theorem lk_Packing_6_3 {v0 v1 v2 v3 v4 v5 : V} : List.lookup ("first" : Str) [(("row_lengths" : Str), v0), (("room" : Str), v1), (("starts" : Str), v2), (("first" : Str), v3), (("pages" : Str), v4), (("rows" : Str), v5)] = some v3 := by kernel_rfl
theorem lk_Packing_6_4 {v0 v1 v2 v3 v4 v5 : V} : List.lookup ("pages" : Str) [(("row_lengths" : Str), v0), (("room" : Str), v1), (("starts" : Str), v2), (("first" : Str), v3), (("pages" : Str), v4), (("rows" : Str), v5)] = some v4 := by kernel_rfl
theorem lk_Packing_6_5 {v0 v1 v2 v3 v4 v5 : V} : List.lookup ("rows" : Str) [(("row_lengths" : Str), v0), (("room" : Str), v1), (("starts" : Str), v2), (("first" : Str), v3), (("pages" : Str), v4), (("rows" : Str), v5)] = some v5 := by kernel_rfl
theorem pf_Settings_0 {v0 : V} : putF ("lengths" : Str) v0 ([] : List (Str × V)) = ([(("lengths" : Str), v0)] : List (Str × V)) := by kernel_rfl
theorem pf_Settings_1 {v0 v1 : V} : putF ("size" : Str) v1 ([(("lengths" : Str), v0)] : List (Str × V)) = ([(("lengths" : Str), v0), (("size" : Str), v1)] : List (Str × V)) := by kernel_rfl
theorem pf_Settings_2 {v0 v1 v2 : V} : putF ("fanout" : Str) v2 ([(("lengths" : Str), v0), (("size" : Str), v1)] : List (Str × V)) = ([(("lengths" : Str), v0), (("size" : Str), v1), (("fanout" : Str), v2)] : List (Str × V)) := by kernel_rfl
theorem pf_Settings_3 {v0 v1 v2 v3 : V} : putF ("records" : Str) v3 ([(("lengths" : Str), v0), (("size" : Str), v1), (("fanout" : Str), v2)] : List (Str × V)) = ([(("lengths" : Str), v0), (("size" : Str), v1), (("fanout" : Str), v2), (("records" : Str), v3)] : List (Str × V)) := by kernel_rfl
theorem pf_Settings_4 {v0 v1 v2 v3 v4 : V} : putF ("every" : Str) v4 ([(("lengths" : Str), v0), (("size" : Str), v1), (("fanout" : Str), v2), (("records" : Str), v3)] : List (Str × V)) = ([(("lengths" : Str), v0), (("size" : Str), v1), (("fanout" : Str), v2), (("records" : Str), v3), (("every" : Str), v4)] : List (Str × V)) := by kernel_rfl
theorem pf_Settings_5 {v0 v1 v2 v3 v4 v5 : V} : putF ("keep" : Str) v5 ([(("lengths" : Str), v0), (("size" : Str), v1), (("fanout" : Str), v2), (("records" : Str), v3), (("every" : Str), v4)] : List (Str × V)) = ([(("lengths" : Str), v0), (("size" : Str), v1), (("fanout" : Str), v2), (("records" : Str), v3), (("every" : Str), v4), (("keep" : Str), v5)] : List (Str × V)) := by kernel_rfl
theorem pf_Packing_0 {v0 : V} : putF ("row_lengths" : Str) v0 ([] : List (Str × V)) = ([(("row_lengths" : Str), v0)] : List (Str × V)) := by kernel_rfl
theorem pf_Packing_1 {v0 v1 : V} : putF ("room" : Str) v1 ([(("row_lengths" : Str), v0)] : List (Str × V)) = ([(("row_lengths" : Str), v0), (("room" : Str), v1)] : List (Str × V)) := by kernel_rfl
theorem pf_Packing_2 {v0 v1 v2 : V} : putF ("starts" : Str) v2 ([(("row_lengths" : Str), v0), (("room" : Str), v1)] : List (Str × V)) = ([(("row_lengths" : Str), v0), (("room" : Str), v1), (("starts" : Str), v2)] : List (Str × V)) := by kernel_rfl
theorem pf_Packing_3 {v0 v1 v2 v3 : V} : putF ("first" : Str) v3 ([(("row_lengths" : Str), v0), (("room" : Str), v1), (("starts" : Str), v2)] : List (Str × V)) = ([(("row_lengths" : Str), v0), (("room" : Str), v1), (("starts" : Str), v2), (("first" : Str), v3)] : List (Str × V)) := by kernel_rfl
theorem pf_Packing_4 {v0 v1 v2 v3 v4 : V} : putF ("pages" : Str) v4 ([(("row_lengths" : Str), v0), (("room" : Str), v1), (("starts" : Str), v2), (("first" : Str), v3)] : List (Str × V)) = ([(("row_lengths" : Str), v0), (("room" : Str), v1), (("starts" : Str), v2), (("first" : Str), v3), (("pages" : Str), v4)] : List (Str × V)) := by kernel_rfl
theorem pf_Packing_5 {v0 v1 v2 v3 v4 v5 : V} : putF ("rows" : Str) v5 ([(("row_lengths" : Str), v0), (("room" : Str), v1), (("starts" : Str), v2), (("first" : Str), v3), (("pages" : Str), v4)] : List (Str × V)) = ([(("row_lengths" : Str), v0), (("room" : Str), v1), (("starts" : Str), v2), (("first" : Str), v3), (("pages" : Str), v4), (("rows" : Str), v5)] : List (Str × V)) := by kernel_rfl
def exl : List (PySem.W.Frag → Bool) := [eqCB "Settings", isCB "Settings", kitB2 "Settings" "int" false, kitB2 "Settings" "bool" false, kitB2 "Settings" "list" false, kitB1 "int" "Settings" false, kitB1 "bool" "Settings" false, kitB1 "str" "Settings" false, kitB1 "list" "Settings" false, kitB1 "tuple" "Settings" false, kitB1 "dict" "Settings" false, kitB1 "NoneType" "Settings" false, kitB3 "Settings" "Settings" true, kitB3 "Packing" "Settings" false, isCB "Packing", kitB2 "Packing" "int" false, kitB2 "Packing" "bool" false, kitB2 "Packing" "list" false]
def exB (K : PySem.W.Frag) : Bool := exl.all fun f => f K
structure Txt (K : PySem.W.Frag) (mg : Str → Option Value) (D : Nat → FuncData) : Prop where
  d_is_integer : F_is_integer K (D 0)
  d_is_between : F_is_between K (D 1)
  d_check_part : F_check_part K (D 2)
  d_Settings___init__ : F_Settings___init__ K (D 3)
  d_Settings___eq__ : F_Settings___eq__ K (D 4)
  d_Settings_parts : F_Settings_parts K (D 5)
  d_check_settings : F_check_settings K (D 6)
  d_check_moment : F_check_moment K (D 7)
  d_check_row : F_check_row K (D 8)
  d_Packing___init__ : F_Packing___init__ K (D 9)
  d_Packing_length : F_Packing_length K (D 10)
  d_Packing_rows_from : F_Packing_rows_from K (D 11)
  d_Packing_start : F_Packing_start K (D 12)
  d_Packing_holder : F_Packing_holder K (D 13)
  d_Packing_check_page : F_Packing_check_page K (D 14)
  d_Packing_units_of : F_Packing_units_of K (D 15)
  d_Packing_first_row : F_Packing_first_row K (D 16)
  d_Packing_page_of : F_Packing_page_of K (D 17)
  d_Packing_rows_on : F_Packing_rows_on K (D 18)
  d_Packing_units_on : F_Packing_units_on K (D 19)
  d_Packing_units_left : F_Packing_units_left K (D 20)
  d_Packing_begun : F_Packing_begun K (D 21)
  d_Packing_cycle : F_Packing_cycle K (D 22)
  d_law_mix : F_law_mix K (D 23)
  d_law_source : F_law_source K (D 24)
  d_law_draw : F_law_draw K (D 25)
  d_law_pick : F_law_pick K (D 26)
  d_law_settings : F_law_settings K (D 27)
  d_law_small : F_law_small K (D 28)
  d_law_rest : F_law_rest K (D 29)
  d_law_alike : F_law_alike K (D 30)
  d_law_right : F_law_right K (D 31)
  d_law : F_law K (D 32)
  d_InvalidSettings___init__ : F_InvalidSettings___init__ K (D 33)
  d_InvalidRow___init__ : F_InvalidRow___init__ K (D 34)
  d_InvalidPage___init__ : F_InvalidPage___init__ K (D 35)
  d_InvalidNumber___init__ : F_InvalidNumber___init__ K (D 36)
  g_is_integer : mg "is_integer" = some (.ref (He.fAd K ("is_integer", none)))
  g_is_between : mg "is_between" = some (.ref (He.fAd K ("is_between", none)))
  g_check_part : mg "check_part" = some (.ref (He.fAd K ("check_part", none)))
  g_check_settings : mg "check_settings" = some (.ref (He.fAd K ("check_settings", none)))
  g_check_moment : mg "check_moment" = some (.ref (He.fAd K ("check_moment", none)))
  g_check_row : mg "check_row" = some (.ref (He.fAd K ("check_row", none)))
  g_law_mix : mg "_law_mix" = some (.ref (He.fAd K ("_law_mix", none)))
  g_law_source : mg "_law_source" = some (.ref (He.fAd K ("_law_source", none)))
  g_law_draw : mg "_law_draw" = some (.ref (He.fAd K ("_law_draw", none)))
  g_law_pick : mg "_law_pick" = some (.ref (He.fAd K ("_law_pick", none)))
  g_law_settings : mg "_law_settings" = some (.ref (He.fAd K ("_law_settings", none)))
  g_law_small : mg "_law_small" = some (.ref (He.fAd K ("_law_small", none)))
  g_law_rest : mg "_law_rest" = some (.ref (He.fAd K ("_law_rest", none)))
  g_law_alike : mg "_law_alike" = some (.ref (He.fAd K ("_law_alike", none)))
  g_law_right : mg "_law_right" = some (.ref (He.fAd K ("_law_right", none)))
  g_law : mg "law" = some (.ref (He.fAd K ("law", none)))
  g_Settings : mg "Settings" = some (.ref (He.ga K "Settings"))
  g_Packing : mg "Packing" = some (.ref (He.ga K "Packing"))
  g_StoreError : mg "StoreError" = some (.ref (He.ga K "StoreError"))
  g_InvalidSettings : mg "InvalidSettings" = some (.ref (He.ga K "InvalidSettings"))
  g_InvalidRow : mg "InvalidRow" = some (.ref (He.ga K "InvalidRow"))
  g_InvalidPage : mg "InvalidPage" = some (.ref (He.ga K "InvalidPage"))
  g_InvalidNumber : mg "InvalidNumber" = some (.ref (He.ga K "InvalidNumber"))
  c_Settings : Cls K (He.ga K "Settings")
  mk_Settings : Mk K (He.ga K "Settings") (He.fAd K ("Settings", some "__init__"))
  a_Settings_lengths : NoAttr K (He.ga K "Settings") "lengths"
  a_Settings_size : NoAttr K (He.ga K "Settings") "size"
  a_Settings_fanout : NoAttr K (He.ga K "Settings") "fanout"
  a_Settings_records : NoAttr K (He.ga K "Settings") "records"
  a_Settings_every : NoAttr K (He.ga K "Settings") "every"
  a_Settings_keep : NoAttr K (He.ga K "Settings") "keep"
  m_Settings___eq__ : Meth K (He.ga K "Settings") "__eq__" (He.fAd K ("Settings", some "__eq__"))
  m_Settings_parts : Meth K (He.ga K "Settings") "parts" (He.fAd K ("Settings", some "parts"))
  c_Packing : Cls K (He.ga K "Packing")
  mk_Packing : Mk K (He.ga K "Packing") (He.fAd K ("Packing", some "__init__"))
  a_Packing_row_lengths : NoAttr K (He.ga K "Packing") "row_lengths"
  a_Packing_room : NoAttr K (He.ga K "Packing") "room"
  a_Packing_starts : NoAttr K (He.ga K "Packing") "starts"
  a_Packing_first : NoAttr K (He.ga K "Packing") "first"
  a_Packing_pages : NoAttr K (He.ga K "Packing") "pages"
  a_Packing_rows : NoAttr K (He.ga K "Packing") "rows"
  m_Packing_length : Meth K (He.ga K "Packing") "length" (He.fAd K ("Packing", some "length"))
  m_Packing_rows_from : Meth K (He.ga K "Packing") "rows_from" (He.fAd K ("Packing", some "rows_from"))
  m_Packing_start : Meth K (He.ga K "Packing") "start" (He.fAd K ("Packing", some "start"))
  m_Packing_holder : Meth K (He.ga K "Packing") "holder" (He.fAd K ("Packing", some "holder"))
  m_Packing_check_page : Meth K (He.ga K "Packing") "check_page" (He.fAd K ("Packing", some "check_page"))
  m_Packing_units_of : Meth K (He.ga K "Packing") "units_of" (He.fAd K ("Packing", some "units_of"))
  m_Packing_first_row : Meth K (He.ga K "Packing") "first_row" (He.fAd K ("Packing", some "first_row"))
  m_Packing_page_of : Meth K (He.ga K "Packing") "page_of" (He.fAd K ("Packing", some "page_of"))
  m_Packing_rows_on : Meth K (He.ga K "Packing") "rows_on" (He.fAd K ("Packing", some "rows_on"))
  m_Packing_units_on : Meth K (He.ga K "Packing") "units_on" (He.fAd K ("Packing", some "units_on"))
  m_Packing_units_left : Meth K (He.ga K "Packing") "units_left" (He.fAd K ("Packing", some "units_left"))
  m_Packing_begun : Meth K (He.ga K "Packing") "begun" (He.fAd K ("Packing", some "begun"))
  m_Packing_cycle : Meth K (He.ga K "Packing") "cycle" (He.fAd K ("Packing", some "cycle"))
  n_int : mg "int" = none
  n_len : mg "len" = none
  n_range : mg "range" = none
  n_isinstance : mg "isinstance" = none
  n_list : mg "list" = none
  n_tuple : mg "tuple" = none
  n_bool : mg "bool" = none
  n_max : mg "max" = none
  n_min : mg "min" = none
  n_sum : mg "sum" = none
  n_divmod : mg "divmod" = none
  i_MOST_ROW : ∃ t, mg "MOST_ROW" = some (.int (1000000000000000000000000000000) t)
  i_MOST_LENGTHS : ∃ t, mg "MOST_LENGTHS" = some (.int (6) t)
  i_MOST_SIZE : ∃ t, mg "MOST_SIZE" = some (.int (64) t)
  i_MOST_FANOUT : ∃ t, mg "MOST_FANOUT" = some (.int (8) t)
  i_MOST_RECORDS : ∃ t, mg "MOST_RECORDS" = some (.int (16) t)
  i_MOST_EVERY : ∃ t, mg "MOST_EVERY" = some (.int (40) t)
  i_MOST_KEEP : ∃ t, mg "MOST_KEEP" = some (.int (100) t)
  eq_Settings : EqC K (He.ga K "Settings")
  ic_Settings : IsC K (He.ga K "Settings")
  kc_Settings_int : PySem.W.kitOne K (.ref (He.ga K "Settings")) (.type "int") = some false
  kc_Settings_bool : PySem.W.kitOne K (.ref (He.ga K "Settings")) (.type "bool") = some false
  kc_Settings_list : PySem.W.kitOne K (.ref (He.ga K "Settings")) (.type "list") = some false
  kb_int_Settings : PySem.W.kitOne K (.type "int") (.ref (He.ga K "Settings")) = some false
  kb_bool_Settings : PySem.W.kitOne K (.type "bool") (.ref (He.ga K "Settings")) = some false
  kb_str_Settings : PySem.W.kitOne K (.type "str") (.ref (He.ga K "Settings")) = some false
  kb_list_Settings : PySem.W.kitOne K (.type "list") (.ref (He.ga K "Settings")) = some false
  kb_tuple_Settings : PySem.W.kitOne K (.type "tuple") (.ref (He.ga K "Settings")) = some false
  kb_dict_Settings : PySem.W.kitOne K (.type "dict") (.ref (He.ga K "Settings")) = some false
  kb_NoneType_Settings : PySem.W.kitOne K (.type "NoneType") (.ref (He.ga K "Settings")) = some false
  kk_Settings_Settings : PySem.W.kitOne K (.ref (He.ga K "Settings")) (.ref (He.ga K "Settings")) = some true
  kk_Packing_Settings : PySem.W.kitOne K (.ref (He.ga K "Packing")) (.ref (He.ga K "Settings")) = some false
  ic_Packing : IsC K (He.ga K "Packing")
  kc_Packing_int : PySem.W.kitOne K (.ref (He.ga K "Packing")) (.type "int") = some false
  kc_Packing_bool : PySem.W.kitOne K (.ref (He.ga K "Packing")) (.type "bool") = some false
  kc_Packing_list : PySem.W.kitOne K (.ref (He.ga K "Packing")) (.type "list") = some false
def fnl : List He.DefD := [dd_is_integer, dd_is_between, dd_check_part, dd_Settings___init__, dd_Settings___eq__, dd_Settings_parts, dd_check_settings, dd_check_moment, dd_check_row, dd_Packing___init__, dd_Packing_length, dd_Packing_rows_from, dd_Packing_start, dd_Packing_holder, dd_Packing_check_page, dd_Packing_units_of, dd_Packing_first_row, dd_Packing_page_of, dd_Packing_rows_on, dd_Packing_units_on, dd_Packing_units_left, dd_Packing_begun, dd_Packing_cycle, dd_law_mix, dd_law_source, dd_law_draw, dd_law_pick, dd_law_settings, dd_law_small, dd_law_rest, dd_law_alike, dd_law_right, dd_law, dd_InvalidSettings___init__, dd_InvalidRow___init__, dd_InvalidPage___init__, dd_InvalidNumber___init__]
def fal : List He.Fa := [.glo "is_integer", .glo "is_between", .glo "check_part", .glo "check_settings", .glo "check_moment", .glo "check_row", .glo "_law_mix", .glo "_law_source", .glo "_law_draw", .glo "_law_pick", .glo "_law_settings", .glo "_law_small", .glo "_law_rest", .glo "_law_alike", .glo "_law_right", .glo "law", .glo "Settings", .glo "Packing", .glo "StoreError", .glo "InvalidSettings", .glo "InvalidRow", .glo "InvalidPage", .glo "InvalidNumber", .cls "Settings", .mkr "Settings", .noat "Settings" "lengths", .noat "Settings" "size", .noat "Settings" "fanout", .noat "Settings" "records", .noat "Settings" "every", .noat "Settings" "keep", .meth "Settings" "__eq__", .meth "Settings" "parts", .cls "Packing", .mkr "Packing", .noat "Packing" "row_lengths", .noat "Packing" "room", .noat "Packing" "starts", .noat "Packing" "first", .noat "Packing" "pages", .noat "Packing" "rows", .meth "Packing" "length", .meth "Packing" "rows_from", .meth "Packing" "start", .meth "Packing" "holder", .meth "Packing" "check_page", .meth "Packing" "units_of", .meth "Packing" "first_row", .meth "Packing" "page_of", .meth "Packing" "rows_on", .meth "Packing" "units_on", .meth "Packing" "units_left", .meth "Packing" "begun", .meth "Packing" "cycle", .free "int", .free "len", .free "range", .free "isinstance", .free "list", .free "tuple", .free "bool", .free "max", .free "min", .free "sum", .free "divmod", .int "MOST_ROW" (1000000000000000000000000000000), .int "MOST_LENGTHS" (6), .int "MOST_SIZE" (64), .int "MOST_FANOUT" (8), .int "MOST_RECORDS" (16), .int "MOST_EVERY" (40), .int "MOST_KEEP" (100)]
def D_is_integer : Nat := 0
def D_is_between : Nat := 1
def D_check_part : Nat := 2
def D_Settings___init__ : Nat := 3
def D_Settings___eq__ : Nat := 4
def D_Settings_parts : Nat := 5
def D_check_settings : Nat := 6
def D_check_moment : Nat := 7
def D_check_row : Nat := 8
def D_Packing___init__ : Nat := 9
def D_Packing_length : Nat := 10
def D_Packing_rows_from : Nat := 11
def D_Packing_start : Nat := 12
def D_Packing_holder : Nat := 13
def D_Packing_check_page : Nat := 14
def D_Packing_units_of : Nat := 15
def D_Packing_first_row : Nat := 16
def D_Packing_page_of : Nat := 17
def D_Packing_rows_on : Nat := 18
def D_Packing_units_on : Nat := 19
def D_Packing_units_left : Nat := 20
def D_Packing_begun : Nat := 21
def D_Packing_cycle : Nat := 22
def D_law_mix : Nat := 23
def D_law_source : Nat := 24
def D_law_draw : Nat := 25
def D_law_pick : Nat := 26
def D_law_settings : Nat := 27
def D_law_small : Nat := 28
def D_law_rest : Nat := 29
def D_law_alike : Nat := 30
def D_law_right : Nat := 31
def D_law : Nat := 32
def D_InvalidSettings___init__ : Nat := 33
def D_InvalidRow___init__ : Nat := 34
def D_InvalidPage___init__ : Nat := 35
def D_InvalidNumber___init__ : Nat := 36
theorem txt_of {K : PySem.W.Frag} {h : Heap} {mg : Str → Option Value} (X : K.In h) (G : h.Ns mainGlobals mg) (c : He.SaysD fal fnl K) (cx : exB K = true) : ∃ D, Txt K mg D := by
  have hx : ∀ f ∈ exl, f K = true := List.all_eq_true.mp cx
  have hd : ∀ i : Nat, ∃ fd : FuncData, ∀ d : He.DefD, fnl[i]? = some d → FunD K d.name d.qual d.params d.body d.scope (d.dvs K) (d.kws K) (He.fAd K d.at_) fd := fun i => by
    cases e : fnl[i]? with
    | none => exact ⟨PySem.W.fnOf "" "" (defArgs (topS 0)) [] (defScope (topS 0)) .none .none .none .none none .none .none, fun d h => nomatch h⟩
    | some d =>
      obtain ⟨fd, h⟩ := c.def_ i e
      exact ⟨fd, fun d2 h2 => by cases h2; exact h⟩
  have key := Classical.axiomOfChoice hd
  obtain ⟨D, hD⟩ := key
  refine ⟨D, ?_⟩
  constructor
  · exact hD 0 dd_is_integer rfl
  · exact hD 1 dd_is_between rfl
  · exact hD 2 dd_check_part rfl
  · exact hD 3 dd_Settings___init__ rfl
  · exact hD 4 dd_Settings___eq__ rfl
  · exact hD 5 dd_Settings_parts rfl
  · exact hD 6 dd_check_settings rfl
  · exact hD 7 dd_check_moment rfl
  · exact hD 8 dd_check_row rfl
  · exact hD 9 dd_Packing___init__ rfl
  · exact hD 10 dd_Packing_length rfl
  · exact hD 11 dd_Packing_rows_from rfl
  · exact hD 12 dd_Packing_start rfl
  · exact hD 13 dd_Packing_holder rfl
  · exact hD 14 dd_Packing_check_page rfl
  · exact hD 15 dd_Packing_units_of rfl
  · exact hD 16 dd_Packing_first_row rfl
  · exact hD 17 dd_Packing_page_of rfl
  · exact hD 18 dd_Packing_rows_on rfl
  · exact hD 19 dd_Packing_units_on rfl
  · exact hD 20 dd_Packing_units_left rfl
  · exact hD 21 dd_Packing_begun rfl
  · exact hD 22 dd_Packing_cycle rfl
  · exact hD 23 dd_law_mix rfl
  · exact hD 24 dd_law_source rfl
  · exact hD 25 dd_law_draw rfl
  · exact hD 26 dd_law_pick rfl
  · exact hD 27 dd_law_settings rfl
  · exact hD 28 dd_law_small rfl
  · exact hD 29 dd_law_rest rfl
  · exact hD 30 dd_law_alike rfl
  · exact hD 31 dd_law_right rfl
  · exact hD 32 dd_law rfl
  · exact hD 33 dd_InvalidSettings___init__ rfl
  · exact hD 34 dd_InvalidRow___init__ rfl
  · exact hD 35 dd_InvalidPage___init__ rfl
  · exact hD 36 dd_InvalidNumber___init__ rfl
  · exact He.glo_ok X G (c.fact 0 (f := .glo "is_integer") rfl)
  · exact He.glo_ok X G (c.fact 1 (f := .glo "is_between") rfl)
  · exact He.glo_ok X G (c.fact 2 (f := .glo "check_part") rfl)
  · exact He.glo_ok X G (c.fact 3 (f := .glo "check_settings") rfl)
  · exact He.glo_ok X G (c.fact 4 (f := .glo "check_moment") rfl)
  · exact He.glo_ok X G (c.fact 5 (f := .glo "check_row") rfl)
  · exact He.glo_ok X G (c.fact 6 (f := .glo "_law_mix") rfl)
  · exact He.glo_ok X G (c.fact 7 (f := .glo "_law_source") rfl)
  · exact He.glo_ok X G (c.fact 8 (f := .glo "_law_draw") rfl)
  · exact He.glo_ok X G (c.fact 9 (f := .glo "_law_pick") rfl)
  · exact He.glo_ok X G (c.fact 10 (f := .glo "_law_settings") rfl)
  · exact He.glo_ok X G (c.fact 11 (f := .glo "_law_small") rfl)
  · exact He.glo_ok X G (c.fact 12 (f := .glo "_law_rest") rfl)
  · exact He.glo_ok X G (c.fact 13 (f := .glo "_law_alike") rfl)
  · exact He.glo_ok X G (c.fact 14 (f := .glo "_law_right") rfl)
  · exact He.glo_ok X G (c.fact 15 (f := .glo "law") rfl)
  · exact He.glo_ok X G (c.fact 16 (f := .glo "Settings") rfl)
  · exact He.glo_ok X G (c.fact 17 (f := .glo "Packing") rfl)
  · exact He.glo_ok X G (c.fact 18 (f := .glo "StoreError") rfl)
  · exact He.glo_ok X G (c.fact 19 (f := .glo "InvalidSettings") rfl)
  · exact He.glo_ok X G (c.fact 20 (f := .glo "InvalidRow") rfl)
  · exact He.glo_ok X G (c.fact 21 (f := .glo "InvalidPage") rfl)
  · exact He.glo_ok X G (c.fact 22 (f := .glo "InvalidNumber") rfl)
  · exact He.cls_ok (c.fact 23 (f := .cls "Settings") rfl)
  · exact He.mkr_ok (c.fact 24 (f := .mkr "Settings") rfl)
  · exact He.noat_ok (c.fact 25 (f := .noat "Settings" "lengths") rfl)
  · exact He.noat_ok (c.fact 26 (f := .noat "Settings" "size") rfl)
  · exact He.noat_ok (c.fact 27 (f := .noat "Settings" "fanout") rfl)
  · exact He.noat_ok (c.fact 28 (f := .noat "Settings" "records") rfl)
  · exact He.noat_ok (c.fact 29 (f := .noat "Settings" "every") rfl)
  · exact He.noat_ok (c.fact 30 (f := .noat "Settings" "keep") rfl)
  · exact He.meth_ok (c.fact 31 (f := .meth "Settings" "__eq__") rfl)
  · exact He.meth_ok (c.fact 32 (f := .meth "Settings" "parts") rfl)
  · exact He.cls_ok (c.fact 33 (f := .cls "Packing") rfl)
  · exact He.mkr_ok (c.fact 34 (f := .mkr "Packing") rfl)
  · exact He.noat_ok (c.fact 35 (f := .noat "Packing" "row_lengths") rfl)
  · exact He.noat_ok (c.fact 36 (f := .noat "Packing" "room") rfl)
  · exact He.noat_ok (c.fact 37 (f := .noat "Packing" "starts") rfl)
  · exact He.noat_ok (c.fact 38 (f := .noat "Packing" "first") rfl)
  · exact He.noat_ok (c.fact 39 (f := .noat "Packing" "pages") rfl)
  · exact He.noat_ok (c.fact 40 (f := .noat "Packing" "rows") rfl)
  · exact He.meth_ok (c.fact 41 (f := .meth "Packing" "length") rfl)
  · exact He.meth_ok (c.fact 42 (f := .meth "Packing" "rows_from") rfl)
  · exact He.meth_ok (c.fact 43 (f := .meth "Packing" "start") rfl)
  · exact He.meth_ok (c.fact 44 (f := .meth "Packing" "holder") rfl)
  · exact He.meth_ok (c.fact 45 (f := .meth "Packing" "check_page") rfl)
  · exact He.meth_ok (c.fact 46 (f := .meth "Packing" "units_of") rfl)
  · exact He.meth_ok (c.fact 47 (f := .meth "Packing" "first_row") rfl)
  · exact He.meth_ok (c.fact 48 (f := .meth "Packing" "page_of") rfl)
  · exact He.meth_ok (c.fact 49 (f := .meth "Packing" "rows_on") rfl)
  · exact He.meth_ok (c.fact 50 (f := .meth "Packing" "units_on") rfl)
  · exact He.meth_ok (c.fact 51 (f := .meth "Packing" "units_left") rfl)
  · exact He.meth_ok (c.fact 52 (f := .meth "Packing" "begun") rfl)
  · exact He.meth_ok (c.fact 53 (f := .meth "Packing" "cycle") rfl)
  · exact He.free_ok X G (c.fact 54 (f := .free "int") rfl)
  · exact He.free_ok X G (c.fact 55 (f := .free "len") rfl)
  · exact He.free_ok X G (c.fact 56 (f := .free "range") rfl)
  · exact He.free_ok X G (c.fact 57 (f := .free "isinstance") rfl)
  · exact He.free_ok X G (c.fact 58 (f := .free "list") rfl)
  · exact He.free_ok X G (c.fact 59 (f := .free "tuple") rfl)
  · exact He.free_ok X G (c.fact 60 (f := .free "bool") rfl)
  · exact He.free_ok X G (c.fact 61 (f := .free "max") rfl)
  · exact He.free_ok X G (c.fact 62 (f := .free "min") rfl)
  · exact He.free_ok X G (c.fact 63 (f := .free "sum") rfl)
  · exact He.free_ok X G (c.fact 64 (f := .free "divmod") rfl)
  · exact He.int_ok X G (c.fact 65 (f := .int "MOST_ROW" (1000000000000000000000000000000)) rfl)
  · exact He.int_ok X G (c.fact 66 (f := .int "MOST_LENGTHS" (6)) rfl)
  · exact He.int_ok X G (c.fact 67 (f := .int "MOST_SIZE" (64)) rfl)
  · exact He.int_ok X G (c.fact 68 (f := .int "MOST_FANOUT" (8)) rfl)
  · exact He.int_ok X G (c.fact 69 (f := .int "MOST_RECORDS" (16)) rfl)
  · exact He.int_ok X G (c.fact 70 (f := .int "MOST_EVERY" (40)) rfl)
  · exact He.int_ok X G (c.fact 71 (f := .int "MOST_KEEP" (100)) rfl)
  · exact eqCB_ok (hx (eqCB "Settings") (List.mem_of_getElem? (i := 0) rfl))
  · exact isCB_ok (hx (isCB "Settings") (List.mem_of_getElem? (i := 1) rfl))
  · exact of_decide_eq_true (hx (kitB2 "Settings" "int" false) (List.mem_of_getElem? (i := 2) rfl))
  · exact of_decide_eq_true (hx (kitB2 "Settings" "bool" false) (List.mem_of_getElem? (i := 3) rfl))
  · exact of_decide_eq_true (hx (kitB2 "Settings" "list" false) (List.mem_of_getElem? (i := 4) rfl))
  · exact of_decide_eq_true (hx (kitB1 "int" "Settings" false) (List.mem_of_getElem? (i := 5) rfl))
  · exact of_decide_eq_true (hx (kitB1 "bool" "Settings" false) (List.mem_of_getElem? (i := 6) rfl))
  · exact of_decide_eq_true (hx (kitB1 "str" "Settings" false) (List.mem_of_getElem? (i := 7) rfl))
  · exact of_decide_eq_true (hx (kitB1 "list" "Settings" false) (List.mem_of_getElem? (i := 8) rfl))
  · exact of_decide_eq_true (hx (kitB1 "tuple" "Settings" false) (List.mem_of_getElem? (i := 9) rfl))
  · exact of_decide_eq_true (hx (kitB1 "dict" "Settings" false) (List.mem_of_getElem? (i := 10) rfl))
  · exact of_decide_eq_true (hx (kitB1 "NoneType" "Settings" false) (List.mem_of_getElem? (i := 11) rfl))
  · exact of_decide_eq_true (hx (kitB3 "Settings" "Settings" true) (List.mem_of_getElem? (i := 12) rfl))
  · exact of_decide_eq_true (hx (kitB3 "Packing" "Settings" false) (List.mem_of_getElem? (i := 13) rfl))
  · exact isCB_ok (hx (isCB "Packing") (List.mem_of_getElem? (i := 14) rfl))
  · exact of_decide_eq_true (hx (kitB2 "Packing" "int" false) (List.mem_of_getElem? (i := 15) rfl))
  · exact of_decide_eq_true (hx (kitB2 "Packing" "bool" false) (List.mem_of_getElem? (i := 16) rfl))
  · exact of_decide_eq_true (hx (kitB2 "Packing" "list" false) (List.mem_of_getElem? (i := 17) rfl))
abbrev RowK : PySem.W.OpenRow := PySem.W.OpenLaw.row PySem.Challenge.rw_keeprows_k12_whole_packings_of_like_sett
abbrev hk : PySem.W.Hook := hookB 6 fal fnl exB
def ob (s : PySem.W.SharedT) : He.AlD := obsB 6 fal fnl exB (HandSHeadRun.getT s)
theorem ob_eq (s : PySem.W.SharedT) : ob s = hk.obs s.abs := obsB_eq (HandSHeadRun.getT_eq s)
def looseN : List Str := ["_wall", "StoreError", "InvalidSettings", "InvalidRow", "InvalidPage", "InvalidNumber", "MOST_ROW", "MOST_LENGTHS", "MOST_SIZE", "MOST_FANOUT", "MOST_RECORDS", "MOST_EVERY", "MOST_KEEP", "is_integer", "is_between", "check_part", "Settings", "check_settings", "check_moment", "check_row", "Packing", "_law_mix", "_law_source", "_law_draw", "_law_pick", "_law_settings", "_law_small", "_law_rest", "_law_alike", "_law_right"]
theorem run (w : World) : HandSHeadRun.RunEq RowK (PySem.W.view RowK.prog [34]) hk ob 4000 looseN w := by
  intro os
  kernel_rfl
end KR
local macro_rules | `(tactic| walk_at "cls") => `(tactic| first
  | exact KR.Txt.c_Settings (by assumption)
  | exact KR.Txt.c_Packing (by assumption))
local macro_rules | `(tactic| walk_at "noat") => `(tactic| first
  | exact KR.Txt.a_Settings_lengths (by assumption)
  | exact KR.Txt.a_Settings_size (by assumption)
  | exact KR.Txt.a_Settings_fanout (by assumption)
  | exact KR.Txt.a_Settings_records (by assumption)
  | exact KR.Txt.a_Settings_every (by assumption)
  | exact KR.Txt.a_Settings_keep (by assumption)
  | exact KR.Txt.a_Packing_row_lengths (by assumption)
  | exact KR.Txt.a_Packing_room (by assumption)
  | exact KR.Txt.a_Packing_starts (by assumption)
  | exact KR.Txt.a_Packing_first (by assumption)
  | exact KR.Txt.a_Packing_pages (by assumption)
  | exact KR.Txt.a_Packing_rows (by assumption))
local macro_rules | `(tactic| walk_at "lk") => `(tactic| first
  | assumption
  | with_reducible exact KR.lk_Packing_6_5
  | with_reducible exact KR.lk_Packing_6_4
  | with_reducible exact KR.lk_Packing_6_3
  | with_reducible exact KR.lk_Packing_6_2
  | with_reducible exact KR.lk_Packing_6_1
  | with_reducible exact KR.lk_Packing_6_0
  | with_reducible exact KR.lk_Packing_5_4
  | with_reducible exact KR.lk_Packing_5_3
  | with_reducible exact KR.lk_Packing_5_2
  | with_reducible exact KR.lk_Packing_5_1
  | with_reducible exact KR.lk_Packing_5_0
  | with_reducible exact KR.lk_Packing_4_3
  | with_reducible exact KR.lk_Packing_4_2
  | with_reducible exact KR.lk_Packing_4_1
  | with_reducible exact KR.lk_Packing_4_0
  | with_reducible exact KR.lk_Packing_3_2
  | with_reducible exact KR.lk_Packing_3_1
  | with_reducible exact KR.lk_Packing_3_0
  | with_reducible exact KR.lk_Packing_2_1
  | with_reducible exact KR.lk_Packing_2_0
  | with_reducible exact KR.lk_Packing_1_0
  | with_reducible exact KR.lk_Settings_6_5
  | with_reducible exact KR.lk_Settings_6_4
  | with_reducible exact KR.lk_Settings_6_3
  | with_reducible exact KR.lk_Settings_6_2
  | with_reducible exact KR.lk_Settings_6_1
  | with_reducible exact KR.lk_Settings_6_0
  | with_reducible exact KR.lk_Settings_5_4
  | with_reducible exact KR.lk_Settings_5_3
  | with_reducible exact KR.lk_Settings_5_2
  | with_reducible exact KR.lk_Settings_5_1
  | with_reducible exact KR.lk_Settings_5_0
  | with_reducible exact KR.lk_Settings_4_3
  | with_reducible exact KR.lk_Settings_4_2
  | with_reducible exact KR.lk_Settings_4_1
  | with_reducible exact KR.lk_Settings_4_0
  | with_reducible exact KR.lk_Settings_3_2
  | with_reducible exact KR.lk_Settings_3_1
  | with_reducible exact KR.lk_Settings_3_0
  | with_reducible exact KR.lk_Settings_2_1
  | with_reducible exact KR.lk_Settings_2_0
  | with_reducible exact KR.lk_Settings_1_0
  | kernel_rfl)
local macro_rules | `(tactic| walk_at "sd") => `(tactic| first
  | omega
  | decide
  | exact KR.szl (Nat.le_of_ble_eq_true rfl)
  | ((repeat' split) <;> omega)
  | exact ⟨Nat.le_of_ble_eq_true rfl, Nat.le_of_ble_eq_true rfl⟩
  | (refine KR.cdw ?_ ?_ <;> omega)
  | (refine KR.cdv ?_ ?_ <;> omega)
  | (refine KR.cml ?_ ?_ <;> omega)
  | (refine KR.cmr ?_ ?_ <;> omega))
local macro_rules | `(tactic| walk_at "hp") => `(tactic| first
  | assumption
  | exact KR.hp_same (by assumption) (by assumption)
  | exact KR.hp_sb (by assumption) (by assumption) (by assumption))
local macro_rules | `(tactic| walk_at "s1") => `(tactic| first
  | refine ⟨_, rfl, ?_⟩
  | refine L2.iteT ?_
  | refine L2.iteF ?_
  | refine ⟨_, _, rfl, rfl, ?_⟩
  | refine Or.inl ⟨_, rfl, ?_⟩
  | (refine' ⟨_, _, _, _, rfl, rfl, L2.SqL.of ?h1, ?h2, ?_⟩; (case h1 => walk_at "hp"); (case h2 => rfl))
  | (refine' ⟨_, _, _, _, rfl, rfl, L2.SqT.of ?h1, ?h2, ?_⟩; (case h1 => walk_at "hp"); (case h2 => rfl))
  | refine ⟨rfl, ?_⟩
  | refine ⟨_, _, rfl, ?_⟩
  | refine ⟨_, _, _, rfl, ?_⟩
  | (refine' ⟨_, _, rfl, L2.SqT.of ?h1, ?h2, ?_⟩; (case h1 => walk_at "hp"); (case h2 => rfl))
  | (refine' ⟨_, _, rfl, Or.inl (L2.SqL.of ?h1), ?_⟩; (case h1 => walk_at "hp"))
  | (refine' ⟨_, _, rfl, Or.inr (L2.SqT.of ?h1), ?_⟩; (case h1 => walk_at "hp"))
  | (refine' ⟨_, _, _, _, _, rfl, ?h1, ?h2, ?h3, ?h4, ?_⟩; (case h1 => walk_at "hp"); (case h2 => walk_at "cls"); (case h3 => walk_at "noat"); (case h4 => walk_at "lk"))
  | (refine' ⟨_, _, _, _, rfl, ?h1, ?h2, ?h3, ?h4, ?_⟩; (case h1 => walk_at "hp"); (case h2 => walk_at "cls"); (case h3 => walk_at "noat"); (case h4 => exact KR.lt1000 rfl))
  | (refine' ⟨_, _, _, rfl, ?h1, ?h2, ?_⟩; (case h1 => walk_at "hp"); (case h2 => walk_at "lk"))
  | (refine' ⟨⟨_, L2.SqL.of ?h1⟩, ?_⟩; (case h1 => walk_at "hp"))
  | (refine' ⟨⟨_, L2.SqT.of ?h1⟩, ?_⟩; (case h1 => walk_at "hp"))
  | (refine And.intro ?h1 ?_; (case h1 => walk_at "sd")))
local macro_rules | `(tactic| walk_at "rd") => `(tactic| repeat walk_at "s1")
namespace KR
open PySem PySem.Spec PyProof.Rows L2
section
variable {P : Program} {w : World} {K : PySem.W.Frag} {mg : Str → Option Value} {base : Heap} {D : Nat → FuncData}
@[irreducible] def sp_law_mix : Sp := fun vs H Q _ => ∃ c l : Int, vs = [.int c, .int l] ∧ ∀ i, 0 ≤ i → i < 2147483563 → Q (.int i) H
theorem use_mix {c l : Int} {H : Hp} {Q : VK} {E : XK} (k : ∀ i, 0 ≤ i → i < 2147483563 → Q (.int i) H) : sp_law_mix [.int c, .int l] H Q E := by unfold sp_law_mix; exact ⟨c, l, rfl, k⟩
theorem b_law_mix {K : PySem.W.Frag} {fd : FuncData} (F : F_law_mix K fd) : Binds K fd P_law_mix [] := FunD.bindsN F fun _ _ _ _ _ _ us hl => match us, hl with | [_, _], _ => rfl
theorem ok_law_mix (T : Txt K mg D) : FnOk P w K mg base CX0 1 (He.fAd K ("_law_mix", none)) (D D_law_mix) P_law_mix sp_law_mix := by
  refine T.d_law_mix.ok sc_law_mix (fun vs H Q E h => ?_) (fun cdv A outer s H vs Q E hr h => ?_)
  · unfold sp_law_mix at h
    first | (obtain ⟨rfl, _⟩ := h; rfl) | (obtain ⟨_, rfl, _⟩ := h; rfl) | (obtain ⟨_, _, rfl, _⟩ := h; rfl) | (obtain ⟨_, _, _, rfl, _⟩ := h; rfl) | (obtain ⟨_, _, _, _, rfl, _⟩ := h; rfl) | (obtain ⟨_, _, _, _, _, rfl, _⟩ := h; rfl) | (obtain ⟨_, _, _, _, _, _, rfl, _⟩ := h; rfl) | (obtain ⟨_, _, _, _, _, _, _, rfl, _⟩ := h; rfl) | (obtain ⟨_, _, _, _, _, _, _, _, rfl, _⟩ := h; rfl) | (obtain ⟨_, _, _, _, _, _, _, _, _, rfl, _⟩ := h; rfl) | (obtain ⟨_, _, _, _, _, _, _, _, _, _, rfl, _⟩ := h; rfl) | (obtain ⟨_, _, _, _, _, _, _, _, _, _, _, rfl, _⟩ := h; rfl)
  · refine ⟨_, PSs.nox (pss_cons (ps_set (i := 2) sc_law_mix.nd rfl (Or.inl rfl) (pe_op op_add (pe_op op_add (pe_op op_add (pe_op op_mod (pe_callTy call_int1 (by rfl) T.n_int (by decide +kernel) (pa_cons (pv 0) pa_nil)) pe_int) (pe_op op_mul pe_int (pv 1))) (pe_op op_mod (pe_callTy call_int1 (by rfl) T.n_int (by decide +kernel) (pa_cons (pe_op op_fdivW (pv 0) pe_int) pa_nil)) pe_int)) pe_int))
      (pss_cons (ps_set (i := 2) sc_law_mix.nd rfl (Or.inl rfl) (pe_op op_mod (pe_callTy call_int1 (by rfl) T.n_int (by decide +kernel) (pa_cons (pe_op op_mul (pv 2) pe_int) pa_nil)) pe_int))
      (pss_cons (ps_set (i := 2) sc_law_mix.nd rfl (Or.inl rfl) (pe_op op_mod (pe_callTy call_int1 (by rfl) T.n_int (by decide +kernel) (pa_cons (pe_op op_mul (pv 2) (pe_op op_add (pe_op op_add (pe_op op_fdivW (pv 2) pe_int) pe_int) (pv 1))) pa_nil)) pe_int))
      (pss_one (ps_ret (pe_op op_mod (pe_callTy call_int1 (by rfl) T.n_int (by decide +kernel) (pa_cons (pe_op op_mul (pv 2) (pe_op op_add (pe_op op_fdivW (pv 2) pe_int) pe_int)) pa_nil)) pe_int)))))), ?_⟩
    unfold sp_law_mix at h
    obtain ⟨c, l, rfl, k⟩ := h
    walk_at "rd"
    exact k _ (Int.emod_nonneg _ (by decide)) (Int.emod_lt_of_pos _ (by decide))

/-- a source of draws stands at s -/
def Src (H : Hp) (s : Addr) : Prop := ∃ a b c : Int, H s = some (.lst [.int a, .int b, .int c])
@[irreducible] def sp_law_draw : Sp := fun vs H Q _ => ∃ (s : Addr) (n : Int), vs = [.ref s, .int n] ∧ (0 < n ∧ n ≤ 1000000000000000000000) ∧ Src H s ∧ ∀ i H', 0 ≤ i → i < n → SB s H H' → Src H' s → Q (.int i) H'
theorem use_draw {s : Addr} {n : Int} {H : Hp} {Q : VK} {E : XK} (h0 : 0 < n) (h1 : n ≤ 1000000000000000000000) (h : Src H s) (k : ∀ i H', 0 ≤ i → i < n → SB s H H' → Src H' s → Q (.int i) H') : sp_law_draw [.ref s, .int n] H Q E := by unfold sp_law_draw; exact ⟨s, n, rfl, ⟨h0, h1⟩, h, k⟩
theorem b_law_draw {K : PySem.W.Frag} {fd : FuncData} (F : F_law_draw K fd) : Binds K fd P_law_draw [] := FunD.bindsN F fun _ _ _ _ _ _ us hl => match us, hl with | [_, _], _ => rfl
theorem ok_law_draw (T : Txt K mg D) : FnOk P w K mg base CX0 2 (He.fAd K ("_law_draw", none)) (D D_law_draw) P_law_draw sp_law_draw := by
  refine T.d_law_draw.ok sc_law_draw (fun vs H Q E h => ?_) (fun cdv A outer s H vs Q E hr h => ?_)
  · unfold sp_law_draw at h
    first | (obtain ⟨rfl, _⟩ := h; rfl) | (obtain ⟨_, rfl, _⟩ := h; rfl) | (obtain ⟨_, _, rfl, _⟩ := h; rfl) | (obtain ⟨_, _, _, rfl, _⟩ := h; rfl) | (obtain ⟨_, _, _, _, rfl, _⟩ := h; rfl) | (obtain ⟨_, _, _, _, _, rfl, _⟩ := h; rfl) | (obtain ⟨_, _, _, _, _, _, rfl, _⟩ := h; rfl) | (obtain ⟨_, _, _, _, _, _, _, rfl, _⟩ := h; rfl) | (obtain ⟨_, _, _, _, _, _, _, _, rfl, _⟩ := h; rfl) | (obtain ⟨_, _, _, _, _, _, _, _, _, rfl, _⟩ := h; rfl) | (obtain ⟨_, _, _, _, _, _, _, _, _, _, rfl, _⟩ := h; rfl) | (obtain ⟨_, _, _, _, _, _, _, _, _, _, _, rfl, _⟩ := h; rfl)
  · refine ⟨_, PSs.nox (pss_cons (ps_if (pt_cmpR op_ge (pe_ix (ix_listK (K := K)) (pv 0) pe_int (fun _ _ => rfl)) (pe_powc (c := 1000000000000000000) (by decide)) (nomark _)) (pss_cons (ps_set (i := 2) sc_law_draw.nd rfl (Or.inl rfl) (pe_op op_mod (pe_callTy call_int1 (by rfl) T.n_int (by decide +kernel) (pa_cons (pe_ix (ix_listK (K := K)) (pv 0) pe_int (fun _ _ => rfl)) pa_nil)) (pv 1)))
      (pss_cons (ps_asg (pe_op op_fdivW (pe_ix (ix_listK (K := K)) (pv 0) pe_int (fun _ _ => rfl)) (pv 1)) (pg_sub (pv 0) pe_int set_list))
      (pss_one (ps_ret (pv 2))))) pss_nil)
      (pss_cons (ps_asg (pe_op op_add (pe_ix (ix_listK (K := K)) (pv 0) pe_int (fun _ _ => rfl)) pe_int) (pg_sub (pv 0) pe_int set_list))
      (pss_one (ps_ret (pe_op op_mod (pe_callTy call_int1 (by rfl) T.n_int (by decide +kernel) (pa_cons (pe_call (ok_law_mix T) (hr.mono (by decide)) rfl T.g_law_mix T.d_law_mix.kp (b_law_mix T.d_law_mix) .nil pass0 (pa_cons (pe_ix (ix_listK (K := K)) (pv 0) pe_int (fun _ _ => rfl)) (pa_cons (pe_ix (ix_listK (K := K)) (pv 0) pe_int (fun _ _ => rfl)) pa_nil))) pa_nil)) (pv 1)))))), ?_⟩
    unfold sp_law_draw at h
    obtain ⟨s, n, rfl, ⟨h0, h1⟩, ⟨a, b, c, hs⟩, k⟩ := h
    walk_at "rd"
    refine ite2 (fun _ => ?_) (fun _ => ?_)
    · walk_at "rd"
      refine ⟨_, _, _, 0, rfl, rfl, hs, rfl, ?_⟩
      walk_at "rd"
      exact k _ _ (Int.emod_nonneg _ (by omega)) (Int.emod_lt_of_pos _ h0) SB.upd ⟨_, _, _, upd_same⟩
    · walk_at "rd"
      refine ⟨_, _, _, 2, rfl, rfl, hs, rfl, ?_⟩
      have hs2 := @upd_same H s (.lst [.int a, .int b, .int (c + 1)])
      walk_at "rd"
      refine use_mix fun i i0 i1 => ?_
      walk_at "rd"
      exact k _ _ (Int.emod_nonneg _ (by omega)) (Int.emod_lt_of_pos _ h0) SB.upd ⟨_, _, _, upd_same⟩

@[irreducible] def sp_law_source (K : PySem.W.Frag) : Sp := fun vs H Q _ => ∃ (a : Addr) (ns : List Int) (k : Int), vs = [.ref a, .int k] ∧ SqL K H a (ns.map V.int) ∧ (0 ≤ k ∧ k ≤ 1000 ∧ ns.length ≤ 63) ∧
  ∀ p H', H p = none → Same H H' → Src H' p → Q (.ref p) H'
theorem use_source {K : PySem.W.Frag} {a : Addr} {ns : List Int} {n : Int} {H : Hp} {Q : VK} {E : XK} (h : SqL K H a (ns.map V.int)) (h1 : 0 ≤ n ∧ n ≤ 1000 ∧ ns.length ≤ 63) (k : ∀ p H', H p = none → Same H H' → Src H' p → Q (.ref p) H') :
  sp_law_source K [.ref a, .int n] H Q E := by unfold sp_law_source; exact ⟨a, ns, n, rfl, h, h1, k⟩
theorem b_law_source {K : PySem.W.Frag} {fd : FuncData} (F : F_law_source K fd) : Binds K fd P_law_source [] := FunD.bindsN F fun _ _ _ _ _ _ us hl => match us, hl with | [_, _], _ => rfl
theorem ok_law_source (T : Txt K mg D) : FnOk P w K mg base CX0 1 (He.fAd K ("_law_source", none)) (D D_law_source) P_law_source (sp_law_source K) := by
  refine T.d_law_source.ok sc_law_source (fun vs H Q E h => ?_) (fun cdv A outer s H vs Q E hr h => ?_)
  · unfold sp_law_source at h
    first | (obtain ⟨rfl, _⟩ := h; rfl) | (obtain ⟨_, rfl, _⟩ := h; rfl) | (obtain ⟨_, _, rfl, _⟩ := h; rfl) | (obtain ⟨_, _, _, rfl, _⟩ := h; rfl) | (obtain ⟨_, _, _, _, rfl, _⟩ := h; rfl) | (obtain ⟨_, _, _, _, _, rfl, _⟩ := h; rfl) | (obtain ⟨_, _, _, _, _, _, rfl, _⟩ := h; rfl) | (obtain ⟨_, _, _, _, _, _, _, rfl, _⟩ := h; rfl) | (obtain ⟨_, _, _, _, _, _, _, _, rfl, _⟩ := h; rfl) | (obtain ⟨_, _, _, _, _, _, _, _, _, rfl, _⟩ := h; rfl) | (obtain ⟨_, _, _, _, _, _, _, _, _, _, rfl, _⟩ := h; rfl) | (obtain ⟨_, _, _, _, _, _, _, _, _, _, _, rfl, _⟩ := h; rfl)
  · refine ⟨_, PSs.nox (pss_cons (ps_set (i := 2) sc_law_source.nd rfl (Or.inl rfl) (pe_op op_add (pe_ix (ix_listK (K := K)) (pe_op (op_catSK (K := K)) (pv 0) (pe_lst (pa_cons pe_int pa_nil))) pe_int (fun _ _ => rfl)) (pe_op op_mul pe_int (pv 1))))
      (pss_cons (ps_if (pt_cmpR op_lt (pv 1) (pe_callB (call_lenK (K := K)) (by rfl) T.n_len (by decide +kernel) (pa_cons (pv 0) pa_nil)) (nomark _)) (pss_one (ps_set (i := 2) sc_law_source.nd rfl (Or.inl rfl) (pe_ix (ix_listK (K := K)) (pv 0) (pv 1) (fun _ _ => rfl)))) pss_nil)
      (pss_one (ps_ret (pe_lst (pa_cons (pv 2) (pa_cons (pv 2) (pa_cons pe_int pa_nil)))))))), ?_⟩
    unfold sp_law_source at h
    obtain ⟨a, ns, n, rfl, hs, ⟨h0, h1, h2⟩, k⟩ := h
    walk_at "rd"
    intro p1 n1
    generalize eH1 : upd _ p1 _ = H1
    obtain ⟨s1, hp1⟩ := gen_new n1 eH1
    clear eH1
    refine ⟨_, _, _, _, rfl, rfl, s1.seq hs, SqL.of hp1, (by rw [List.length_map]; simp; omega), fun p2 H2 n2 s2 hp2 => ?_⟩
    obtain ⟨c0, hc0⟩ : ∃ c0 : Int, (ns.map V.int ++ [V.int 0])[0]? = some (.int c0) := by
      cases ns with
      | nil => exact ⟨0, rfl⟩
      | cons z r => exact ⟨z, rfl⟩
    refine ⟨_, _, _, _, rfl, rfl, SqL.of hp2, atI_int (j := 0) rfl hc0, ?_⟩
    walk_at "rd"
    refine ⟨_, _, rfl, .inl ((s1.trans s2).seq hs), ?_⟩
    walk_at "rd"
    have fin : ∀ (c : Int) (H3 : Hp), Same H H3 → ∀ p4, H3 p4 = none → Q (.ref p4) (upd H3 p4 (.lst [.int c, .int c, .int 0])) := fun c H3 s3 p4 h4 =>
      k p4 _ (s3.free h4) (s3.trans (same_new h4)) ⟨_, _, _, upd_same⟩
    refine ite2 (fun c => ?_) (fun c => ?_)
    · walk_at "rd"
      have hk : n < (ns.map V.int).length := by simpa using c
      obtain ⟨v, _, hv, hv2⟩ := at_of_lt (xs := ns.map V.int) h0 hk
      obtain ⟨z, _, rfl⟩ := map_some hv2
      refine ⟨_, _, _, _, rfl, rfl, (s1.trans s2).seq hs, hv, ?_⟩
      walk_at "rd"
      exact fin z H2 (s1.trans s2)
    · walk_at "rd"
      exact fin _ H2 (s1.trans s2)

@[irreducible] def sp_law_pick : Sp := fun vs H Q _ => ∃ (s a : Addr) (xs : List V), vs = [.ref s, .ref a] ∧ H a = some (.lst xs) ∧ a ≠ s ∧ (0 < xs.length ∧ xs.length ≤ 1000) ∧ Src H s ∧ ∀ v H', v ∈ xs → SB s H H' → Src H' s → Q v H'
theorem use_pick {s a : Addr} {xs : List V} {H : Hp} {Q : VK} {E : XK} (h : H a = some (.lst xs)) (hn : a ≠ s) (h0 : 0 < xs.length ∧ xs.length ≤ 1000) (hs : Src H s) (k : ∀ v H', v ∈ xs → SB s H H' → Src H' s → Q v H') :
  sp_law_pick [.ref s, .ref a] H Q E := by unfold sp_law_pick; exact ⟨s, a, xs, rfl, h, hn, h0, hs, k⟩
theorem b_law_pick {K : PySem.W.Frag} {fd : FuncData} (F : F_law_pick K fd) : Binds K fd P_law_pick [] := FunD.bindsN F fun _ _ _ _ _ _ us hl => match us, hl with | [_, _], _ => rfl
theorem ok_law_pick (T : Txt K mg D) : FnOk P w K mg base CX0 3 (He.fAd K ("_law_pick", none)) (D D_law_pick) P_law_pick sp_law_pick := by
  refine T.d_law_pick.ok sc_law_pick (fun vs H Q E h => ?_) (fun cdv A outer s H vs Q E hr h => ?_)
  · unfold sp_law_pick at h
    first | (obtain ⟨rfl, _⟩ := h; rfl) | (obtain ⟨_, rfl, _⟩ := h; rfl) | (obtain ⟨_, _, rfl, _⟩ := h; rfl) | (obtain ⟨_, _, _, rfl, _⟩ := h; rfl) | (obtain ⟨_, _, _, _, rfl, _⟩ := h; rfl) | (obtain ⟨_, _, _, _, _, rfl, _⟩ := h; rfl) | (obtain ⟨_, _, _, _, _, _, rfl, _⟩ := h; rfl) | (obtain ⟨_, _, _, _, _, _, _, rfl, _⟩ := h; rfl) | (obtain ⟨_, _, _, _, _, _, _, _, rfl, _⟩ := h; rfl) | (obtain ⟨_, _, _, _, _, _, _, _, _, rfl, _⟩ := h; rfl) | (obtain ⟨_, _, _, _, _, _, _, _, _, _, rfl, _⟩ := h; rfl) | (obtain ⟨_, _, _, _, _, _, _, _, _, _, _, rfl, _⟩ := h; rfl)
  · refine ⟨_, PSs.nox (pss_one (ps_ret (pe_ix (ix_listK (K := K)) (pv 1) (pe_call (ok_law_draw T) (hr.mono (by decide)) rfl T.g_law_draw T.d_law_draw.kp (b_law_draw T.d_law_draw) .nil pass0 (pa_cons (pv 0) (pa_cons (pe_callB (call_lenK (K := K)) (by rfl) T.n_len (by decide +kernel) (pa_cons (pv 1) pa_nil)) pa_nil))) (fun _ _ => rfl)))), ?_⟩
    unfold sp_law_pick at h
    obtain ⟨s, a, xs, rfl, ha, hn, ⟨h0, h1⟩, hs, k⟩ := h
    walk_at "rd"
    refine use_draw (by omega) (by omega) hs fun i H1 i0 i1 s1 hs1 => ?_
    obtain ⟨v, hv, hv1, _⟩ := at_of_lt (xs := xs) i0 i1
    exact ⟨_, _, _, _, rfl, rfl, SqL.of (s1 _ _ hn ha), hv1, k _ _ hv s1 hs1⟩

theorem cr_range1 {X : Cx} : CallR X (.type "range") (fun vs H Q => ∃ j, vs = [V.int j] ∧ ∀ p, H p = none → Q (.ref p) (upd H p (.rng 0 j))) := by
  intro pins s σ H vs us Q I r h
  obtain ⟨j, rfl, q⟩ := h
  obtain ⟨u1, rfl, ri⟩ := vals1 r
  obtain ⟨t, rfl⟩ := ri
  refine call_range_1 ⟨.ref s.heap.objs.size, upd H s.heap.objs.size (.rng 0 j), I.laid (t' := s.toks + 2) (fun b o e => Heap.get?_push_of_some _ e) (Nat.le_refl _) ?_, rfl, q _ (I.hok.fresh (Nat.le_refl _))⟩
  exact ⟨_, _, _, Heap.get?_push_size _ rfl⟩
theorem op_notin_rng {X : Cx} : OpR X (compareOp .NotIn) (fun x y H Q => ∃ i a lo hi, x = V.int i ∧ y = V.ref a ∧ H a = some (.rng lo hi) ∧ Q (.bl (!decide (lo ≤ i ∧ i < hi))) H) := by
  intro pins s σ H x y v u Q I rx ry h
  obtain ⟨i, a, lo, hi, rfl, rfl, ha, q⟩ := h
  obtain ⟨k, rfl⟩ := rx
  obtain rfl : u = Value.ref a := ry
  obtain ⟨t1, t2, t3, ho⟩ := I.hok a _ ha
  show wpAny _ _ (do return Value.bool (!(← contains (Value.ref a) (Value.int i k)))) _ _ s
  refine wpAny_bind (wpAny_contains_slot (T := "range") ⟨_, ho, rfl⟩ F.slot_range_contains (call_meets F.slot_range_contains ⟨_, ho, rfl⟩ F.entry_range_contains (F.args_range_contains_2 _ _) (q_contains a lo hi i t1 t2 t3 k)
    ⟨ho, wpAny_truthy_bool (wpAny_pure ⟨.bl _, H, I, rfl, ?_⟩)⟩))
  rw [place1]
  exact q
/-- drawn settings -/
structure Prt where
  lens : List Int
  size : Int
  fan : Int
  rec_ : Int
  every : Int
  keep : Int
structure Prt.Ok (p : Prt) : Prop where
  l0 : 0 < p.lens.length
  l1 : p.lens.length ≤ 6
  le : ∀ x ∈ p.lens, 1 ≤ x ∧ x ≤ p.size
  s0 : 1 ≤ p.size
  s1 : p.size ≤ 64
  f : 2 ≤ p.fan ∧ p.fan ≤ 8
  r : 1 ≤ p.rec_ ∧ p.rec_ ≤ 16
  e : 1 ≤ p.every ∧ p.every ≤ 40
  k : 1 ≤ p.keep ∧ p.keep ≤ 100
def PrtAt (H : Hp) (a : Addr) (p : Prt) : Prop := ∃ l, H a = some (.lst [.ref l, .int p.size, .int p.fan, .int p.rec_, .int p.every, .int p.keep]) ∧ H l = some (.lst (p.lens.map V.int))
theorem PrtAt.same {H H' : Hp} {a : Addr} {p : Prt} (h : PrtAt H a p) (s : Same H H') : PrtAt H' a p := let ⟨l, h1, h2⟩ := h; ⟨l, s _ _ h1, s _ _ h2⟩
@[irreducible] def sp_law_parts : Sp := fun vs H Q _ => ∃ (s : Addr), vs = [.ref s] ∧ Src H s ∧
  ∀ a H' p, SB s H H' → Src H' s → p.Ok → PrtAt H' a p → (∀ H'', SB s H' H'' → PrtAt H'' a p) → Q (.ref a) H'
theorem use_parts {s : Addr} {H : Hp} {Q : VK} {E : XK} (hs : Src H s) (k : ∀ a H' p, SB s H H' → Src H' s → p.Ok → PrtAt H' a p → (∀ H'', SB s H' H'' → PrtAt H'' a p) → Q (.ref a) H') : sp_law_parts [.ref s] H Q E := by
  unfold sp_law_parts; exact ⟨s, rfl, hs, k⟩
def bnds : List (Int × Int) := [(2, 8), (1, 16), (1, 40), (1, 100)]
@[irreducible] def sp_is_integer : Sp := fun vs H Q _ => ∃ i : Int, vs = [.int i] ∧ Q (.bl true) H
theorem use_isint {i : Int} {H : Hp} {Q : VK} {E : XK} (q : Q (.bl true) H) : sp_is_integer [.int i] H Q E := by unfold sp_is_integer; exact ⟨i, rfl, q⟩
theorem b_is_integer {K : PySem.W.Frag} {fd : FuncData} (F : F_is_integer K fd) : Binds K fd P_is_integer [] := FunD.bindsN F fun _ _ _ _ _ _ us hl => match us, hl with | [_], _ => rfl
theorem ok_is_integer (T : Txt K mg D) : FnOk P w K mg base CX0 1 (He.fAd K ("is_integer", none)) (D D_is_integer) P_is_integer sp_is_integer := by
  refine T.d_is_integer.ok sc_is_integer (fun vs H Q E h => ?_) (fun cdv A outer s H vs Q E hr h => ?_)
  · unfold sp_is_integer at h
    first | (obtain ⟨rfl, _⟩ := h; rfl) | (obtain ⟨_, rfl, _⟩ := h; rfl) | (obtain ⟨_, _, rfl, _⟩ := h; rfl) | (obtain ⟨_, _, _, rfl, _⟩ := h; rfl) | (obtain ⟨_, _, _, _, rfl, _⟩ := h; rfl) | (obtain ⟨_, _, _, _, _, rfl, _⟩ := h; rfl) | (obtain ⟨_, _, _, _, _, _, rfl, _⟩ := h; rfl) | (obtain ⟨_, _, _, _, _, _, _, rfl, _⟩ := h; rfl) | (obtain ⟨_, _, _, _, _, _, _, _, rfl, _⟩ := h; rfl) | (obtain ⟨_, _, _, _, _, _, _, _, _, rfl, _⟩ := h; rfl) | (obtain ⟨_, _, _, _, _, _, _, _, _, _, rfl, _⟩ := h; rfl) | (obtain ⟨_, _, _, _, _, _, _, _, _, _, _, rfl, _⟩ := h; rfl)
  · refine ⟨_, PSs.nox (pss_one (ps_ret (pe_and (pe_callB (call_isiK2 (K := K)) (by rfl) T.n_isinstance (by decide +kernel) (pa_cons (pv 0) (pa_cons (pe_bltn (by rfl) T.n_int (by decide +kernel) (v := .ty "int") rfl) pa_nil))) (pe_one (pe_not (pe_callB (call_isiK2 (K := K)) (by rfl) T.n_isinstance (by decide +kernel) (pa_cons (pv 0) (pa_cons (pe_bltn (by rfl) T.n_bool (by decide +kernel) (v := .ty "bool") rfl) pa_nil)))))))), ?_⟩
    unfold sp_is_integer at h
    obtain ⟨i, rfl, q⟩ := h
    walk_at "rd"
    refine isi_int ?_
    walk_at "rd"
    refine isi_bool ?_
    walk_at "rd"
    exact q

@[irreducible] def sp_is_between : Sp := fun vs H Q _ => ∃ i lo hi : Int, vs = [.int i, .int lo, .int hi] ∧ Q (.bl (decide (lo ≤ i ∧ i ≤ hi))) H
theorem use_between {i lo hi : Int} {H : Hp} {Q : VK} {E : XK} (q : Q (.bl (decide (lo ≤ i ∧ i ≤ hi))) H) : sp_is_between [.int i, .int lo, .int hi] H Q E := by unfold sp_is_between; exact ⟨i, lo, hi, rfl, q⟩
theorem b_is_between {K : PySem.W.Frag} {fd : FuncData} (F : F_is_between K fd) : Binds K fd P_is_between [] := FunD.bindsN F fun _ _ _ _ _ _ us hl => match us, hl with | [_, _, _], _ => rfl
theorem ok_is_between (T : Txt K mg D) : FnOk P w K mg base CX0 2 (He.fAd K ("is_between", none)) (D D_is_between) P_is_between sp_is_between := by
  refine T.d_is_between.ok sc_is_between (fun vs H Q E h => ?_) (fun cdv A outer s H vs Q E hr h => ?_)
  · unfold sp_is_between at h
    first | (obtain ⟨rfl, _⟩ := h; rfl) | (obtain ⟨_, rfl, _⟩ := h; rfl) | (obtain ⟨_, _, rfl, _⟩ := h; rfl) | (obtain ⟨_, _, _, rfl, _⟩ := h; rfl) | (obtain ⟨_, _, _, _, rfl, _⟩ := h; rfl) | (obtain ⟨_, _, _, _, _, rfl, _⟩ := h; rfl) | (obtain ⟨_, _, _, _, _, _, rfl, _⟩ := h; rfl) | (obtain ⟨_, _, _, _, _, _, _, rfl, _⟩ := h; rfl) | (obtain ⟨_, _, _, _, _, _, _, _, rfl, _⟩ := h; rfl) | (obtain ⟨_, _, _, _, _, _, _, _, _, rfl, _⟩ := h; rfl) | (obtain ⟨_, _, _, _, _, _, _, _, _, _, rfl, _⟩ := h; rfl) | (obtain ⟨_, _, _, _, _, _, _, _, _, _, _, rfl, _⟩ := h; rfl)
  · refine ⟨_, PSs.nox (pss_one (ps_ret (pe_and (pe_call (ok_is_integer T) (hr.mono (by decide)) rfl T.g_is_integer T.d_is_integer.kp (b_is_integer T.d_is_integer) .nil pass0 (pa_cons (pv 0) pa_nil)) (pe_one (pe_chain op_le op_le (pv 1) (pv 0) (pv 2)))))), ?_⟩
    unfold sp_is_between at h
    obtain ⟨i, lo, hi, rfl, q⟩ := h
    walk_at "rd"
    refine use_isint ?_
    walk_at "rd"
    refine iteB (fun c => ?_) (fun c => ?_)
    · have c := of_decide_eq_true c
      walk_at "rd"
      have e : decide (i ≤ hi) = decide (lo ≤ i ∧ i ≤ hi) := by simp [c]
      show Q (.bl (decide (i ≤ hi))) H
      rw [e]
      exact q
    · have c := of_decide_eq_false c
      have e : false = decide (lo ≤ i ∧ i ≤ hi) := by simp [c]
      show Q (.bl false) H
      rw [e]
      exact q

@[irreducible] def sp_check_part : Sp := fun vs H Q _ => ∃ (x : Str) (i lo hi : Int), vs = [.str x, .int i, .int lo, .int hi] ∧ (lo ≤ i ∧ i ≤ hi) ∧ Q .non H
theorem use_check_part {x : Str} {i lo hi : Int} {H : Hp} {Q : VK} {E : XK} (h : lo ≤ i ∧ i ≤ hi) (q : Q .non H) : sp_check_part [.str x, .int i, .int lo, .int hi] H Q E := by unfold sp_check_part; exact ⟨x, i, lo, hi, rfl, h, q⟩
theorem b_check_part {K : PySem.W.Frag} {fd : FuncData} (F : F_check_part K fd) : Binds K fd P_check_part [] := FunD.bindsN F fun _ _ _ _ _ _ us hl => match us, hl with | [_, _, _, _], _ => rfl
theorem ok_check_part (T : Txt K mg D) : FnOk P w K mg base CX0 3 (He.fAd K ("check_part", none)) (D D_check_part) P_check_part sp_check_part := by
  refine T.d_check_part.ok sc_check_part (fun vs H Q E h => ?_) (fun cdv A outer s H vs Q E hr h => ?_)
  · unfold sp_check_part at h
    first | (obtain ⟨rfl, _⟩ := h; rfl) | (obtain ⟨_, rfl, _⟩ := h; rfl) | (obtain ⟨_, _, rfl, _⟩ := h; rfl) | (obtain ⟨_, _, _, rfl, _⟩ := h; rfl) | (obtain ⟨_, _, _, _, rfl, _⟩ := h; rfl) | (obtain ⟨_, _, _, _, _, rfl, _⟩ := h; rfl) | (obtain ⟨_, _, _, _, _, _, rfl, _⟩ := h; rfl) | (obtain ⟨_, _, _, _, _, _, _, rfl, _⟩ := h; rfl) | (obtain ⟨_, _, _, _, _, _, _, _, rfl, _⟩ := h; rfl) | (obtain ⟨_, _, _, _, _, _, _, _, _, rfl, _⟩ := h; rfl) | (obtain ⟨_, _, _, _, _, _, _, _, _, _, rfl, _⟩ := h; rfl) | (obtain ⟨_, _, _, _, _, _, _, _, _, _, _, rfl, _⟩ := h; rfl)
  · refine ⟨_, PSs.nox (pss_one (ps_if (pt_not (pt_val (pe_call (ok_is_between T) (hr.mono (by decide)) rfl T.g_is_between T.d_is_between.kp (b_is_between T.d_is_between) .nil pass0 (pa_cons (pv 1) (pa_cons (pv 2) (pa_cons (pv 3) pa_nil)))))) (pss_one ps_never) pss_nil)), ?_⟩
    unfold sp_check_part at h
    obtain ⟨x, i, lo, hi, rfl, h, q⟩ := h
    walk_at "rd"
    refine use_between ?_
    rw [decide_eq_true h]
    walk_at "rd"
    exact q

/-- settings stand at a -/
def SetAt (K : PySem.W.Frag) (H : Hp) (a : Addr) (p : Prt) : Prop := ∃ dx t, H a = some (.ins (He.ga K "Settings") dx [("lengths", .ref t), ("size", .int p.size), ("fanout", .int p.fan), ("records", .int p.rec_), ("every", .int p.every), ("keep", .int p.keep)]) ∧ H t = some (.tup (p.lens.map V.int))
theorem SetAt.same {K : PySem.W.Frag} {H H' : Hp} {a : Addr} {p : Prt} (h : SetAt K H a p) (s : Same H H') : SetAt K H' a p := let ⟨dx, l, h1, h2⟩ := h; ⟨dx, l, s _ _ h1, s _ _ h2⟩
@[irreducible] def sp_Settings_init (K : PySem.W.Frag) : Sp := fun vs H Q _ => ∃ (a dx l : Addr) (p : Prt), vs = [.ref a, .ref l, .int p.size, .int p.fan, .int p.rec_, .int p.every, .int p.keep] ∧
  H a = some (.ins (He.ga K "Settings") dx []) ∧ H l = some (.lst (p.lens.map V.int)) ∧ p.Ok ∧ ∀ H', SB a H H' → SetAt K H' a p → Q .non H'
theorem use_set_init {K : PySem.W.Frag} {a dx l : Addr} {p : Prt} {H : Hp} {Q : VK} {E : XK} (ha : H a = some (.ins (He.ga K "Settings") dx [])) (hl : H l = some (.lst (p.lens.map V.int))) (ok : p.Ok) (k : ∀ H', SB a H H' → SetAt K H' a p → Q .non H') :
  sp_Settings_init K [.ref a, .ref l, .int p.size, .int p.fan, .int p.rec_, .int p.every, .int p.keep] H Q E := by unfold sp_Settings_init; exact ⟨a, dx, l, p, rfl, ha, hl, ok, k⟩
theorem b_Settings___init__ {K : PySem.W.Frag} {fd : FuncData} (F : F_Settings___init__ K fd) : KBn K fd P_Settings___init__ 3 ["fanout", "records", "every", "keep"] (fun us ws => us ++ ws) (fun vs zs => vs ++ zs) := kb_app F 3 ["fanout", "records", "every", "keep"] fun _ _ _ _ _ _ us ws h1 h2 => match us, ws, h1, h2 with | [_, _, _], [_, _, _, _], _, _ => rfl
theorem ok_Settings___init__ (T : Txt K mg D) : FnOk P w K mg base CX0 4 (He.fAd K ("Settings", some "__init__")) (D D_Settings___init__) P_Settings___init__ (sp_Settings_init K) := by
  refine T.d_Settings___init__.ok sc_Settings___init__ (fun vs H Q E h => ?_) (fun cdv A outer s H vs Q E hr h => ?_)
  · unfold sp_Settings_init at h
    first | (obtain ⟨rfl, _⟩ := h; rfl) | (obtain ⟨_, rfl, _⟩ := h; rfl) | (obtain ⟨_, _, rfl, _⟩ := h; rfl) | (obtain ⟨_, _, _, rfl, _⟩ := h; rfl) | (obtain ⟨_, _, _, _, rfl, _⟩ := h; rfl) | (obtain ⟨_, _, _, _, _, rfl, _⟩ := h; rfl) | (obtain ⟨_, _, _, _, _, _, rfl, _⟩ := h; rfl) | (obtain ⟨_, _, _, _, _, _, _, rfl, _⟩ := h; rfl) | (obtain ⟨_, _, _, _, _, _, _, _, rfl, _⟩ := h; rfl) | (obtain ⟨_, _, _, _, _, _, _, _, _, rfl, _⟩ := h; rfl) | (obtain ⟨_, _, _, _, _, _, _, _, _, _, rfl, _⟩ := h; rfl) | (obtain ⟨_, _, _, _, _, _, _, _, _, _, _, rfl, _⟩ := h; rfl)
  · refine ⟨_, PSs.nox (pss_cons (ps_if (PW.pt (pw_or (pt_not (pt_val (pe_callB (call_isiK2 (K := K)) (by rfl) T.n_isinstance (by decide +kernel) (pa_cons (pv 1) (pa_cons (pe_bltn (by rfl) T.n_list (by decide +kernel) (v := .ty "list") rfl) pa_nil))))) (pw_or1 (pt_not (pt_chain op_le op_le pe_int (pe_callB (call_lenK (K := K)) (by rfl) T.n_len (by decide +kernel) (pa_cons (pv 1) pa_nil)) (pe_globi T.i_MOST_LENGTHS)))))) (pss_one ps_never) pss_nil)
      (pss_cons (ps_for PassesOwn.never rfl (pi_list (pv 1)) (pg_name (i := 7) sc_Settings___init__.nd rfl (Or.inl rfl)) (pss_one (ps_expr (pe_call (ok_check_part T) (hr.mono (by decide)) rfl T.g_check_part T.d_check_part.kp (b_check_part T.d_check_part) .nil pass0 (pa_cons pe_str (pa_cons (pv 7) (pa_cons pe_int (pa_cons (pe_globi T.i_MOST_SIZE) pa_nil))))))))
      (pss_cons (ps_expr (pe_call (ok_check_part T) (hr.mono (by decide)) rfl T.g_check_part T.d_check_part.kp (b_check_part T.d_check_part) .nil pass0 (pa_cons pe_str (pa_cons (pv 2) (pa_cons (pe_callB (cr_maxK (K := K) rfl) (by rfl) T.n_max (by decide +kernel) (pa_cons (pv 1) pa_nil)) (pa_cons (pe_globi T.i_MOST_SIZE) pa_nil))))))
      (pss_cons (ps_expr (pe_call (ok_check_part T) (hr.mono (by decide)) rfl T.g_check_part T.d_check_part.kp (b_check_part T.d_check_part) .nil pass0 (pa_cons pe_str (pa_cons (pv 3) (pa_cons pe_int (pa_cons (pe_globi T.i_MOST_FANOUT) pa_nil))))))
      (pss_cons (ps_expr (pe_call (ok_check_part T) (hr.mono (by decide)) rfl T.g_check_part T.d_check_part.kp (b_check_part T.d_check_part) .nil pass0 (pa_cons pe_str (pa_cons (pv 4) (pa_cons pe_int (pa_cons (pe_globi T.i_MOST_RECORDS) pa_nil))))))
      (pss_cons (ps_expr (pe_call (ok_check_part T) (hr.mono (by decide)) rfl T.g_check_part T.d_check_part.kp (b_check_part T.d_check_part) .nil pass0 (pa_cons pe_str (pa_cons (pv 5) (pa_cons pe_int (pa_cons (pe_globi T.i_MOST_EVERY) pa_nil))))))
      (pss_cons (ps_expr (pe_call (ok_check_part T) (hr.mono (by decide)) rfl T.g_check_part T.d_check_part.kp (b_check_part T.d_check_part) .nil pass0 (pa_cons pe_str (pa_cons (pv 6) (pa_cons pe_int (pa_cons (pe_globi T.i_MOST_KEEP) pa_nil))))))
      (pss_cons (ps_fld (pv 0) (pe_callTy (call_tupK (K := K)) (by rfl) T.n_tuple (by decide +kernel) (pa_cons (pv 1) pa_nil)) rfl)
      (pss_cons (ps_fld (pv 0) (pv 2) rfl)
      (pss_cons (ps_fld (pv 0) (pv 3) rfl)
      (pss_cons (ps_fld (pv 0) (pv 4) rfl)
      (pss_cons (ps_fld (pv 0) (pv 5) rfl)
      (pss_one (ps_fld (pv 0) (pv 6) rfl)))))))))))))), ?_⟩
    unfold sp_Settings_init at h
    obtain ⟨a, dx, l, p, rfl, ha, hl, ok, k⟩ := h
    walk_at "rd"
    refine isi_list hl ?_
    walk_at "rd"
    have l0 := ok.l0
    have l1 := ok.l1
    refine iteT_of (decide_eq_true (by rw [List.length_map]; omega)) ?_
    walk_at "rd"
    refine iteF_of (by rw [decide_eq_true (by rw [List.length_map]; omega)]; rfl) ?_
    walk_at "rd"
    refine for_list (xs := p.lens.map V.int) (fun i σ H' => H' = H ∧ ∃ v : Option V, σ = [some (.ref a), some (.ref l), some (.int p.size), some (.int p.fan), some (.int p.rec_), some (.int p.every), some (.int p.keep), v]) ⟨rfl, _, rfl⟩ ?_ ?_ ?_
    · rintro i σ H' _ ⟨rfl, _⟩
      exact SqL.of hl
    · rintro i x σ H' hx ⟨rfl, v, rfl⟩
      obtain ⟨z, hz, rfl⟩ := map_some hx
      have hb := ok.le z (List.mem_of_getElem? hz)
      have s1 := ok.s1
      walk_at "rd"
      refine use_check_part (by omega) ?_
      walk_at "rd"
      exact ⟨_, rfl⟩
    · rintro σ H' ⟨rfl, v, rfl⟩
      walk_at "rd"
      refine ⟨_, _, rfl, SqL.of hl, ok.l0, fun m hm _ => ?_⟩
      have hb := ok.le m hm
      have s1 := ok.s1
      walk_at "rd"
      refine use_check_part (by omega) ?_
      walk_at "rd"
      refine use_check_part ok.f ?_
      walk_at "rd"
      refine use_check_part ok.r ?_
      walk_at "rd"
      refine use_check_part ok.e ?_
      walk_at "rd"
      refine use_check_part ok.k ?_
      walk_at "rd"
      refine ⟨_, _, rfl, .inl ⟨SqL.of hl, ?_⟩⟩
      intro t n0
      generalize eG0 : upd _ t _ = G0
      obtain ⟨g0, ht⟩ := gen_new n0 eG0
      clear eG0
      have ha0 := g0 _ _ ha
      have nta : t ≠ a := (ne_of_none ha n0).symm
      walk_at "rd"
      generalize eG1 : upd _ _ _ = G1
      obtain ⟨g1, h1⟩ := gen_st eG1
      clear eG1
      try simp only [pf_Settings_0, pf_Settings_1, pf_Settings_2, pf_Settings_3, pf_Settings_4, pf_Settings_5, pf_Packing_0, pf_Packing_1, pf_Packing_2, pf_Packing_3, pf_Packing_4, pf_Packing_5] at h1
      walk_at "rd"
      generalize eG2 : upd _ _ _ = G2
      obtain ⟨g2, h2⟩ := gen_st eG2
      clear eG2
      try simp only [pf_Settings_0, pf_Settings_1, pf_Settings_2, pf_Settings_3, pf_Settings_4, pf_Settings_5, pf_Packing_0, pf_Packing_1, pf_Packing_2, pf_Packing_3, pf_Packing_4, pf_Packing_5] at h2
      walk_at "rd"
      generalize eG3 : upd _ _ _ = G3
      obtain ⟨g3, h3⟩ := gen_st eG3
      clear eG3
      try simp only [pf_Settings_0, pf_Settings_1, pf_Settings_2, pf_Settings_3, pf_Settings_4, pf_Settings_5, pf_Packing_0, pf_Packing_1, pf_Packing_2, pf_Packing_3, pf_Packing_4, pf_Packing_5] at h3
      walk_at "rd"
      generalize eG4 : upd _ _ _ = G4
      obtain ⟨g4, h4⟩ := gen_st eG4
      clear eG4
      try simp only [pf_Settings_0, pf_Settings_1, pf_Settings_2, pf_Settings_3, pf_Settings_4, pf_Settings_5, pf_Packing_0, pf_Packing_1, pf_Packing_2, pf_Packing_3, pf_Packing_4, pf_Packing_5] at h4
      walk_at "rd"
      generalize eG5 : upd _ _ _ = G5
      obtain ⟨g5, h5⟩ := gen_st eG5
      clear eG5
      try simp only [pf_Settings_0, pf_Settings_1, pf_Settings_2, pf_Settings_3, pf_Settings_4, pf_Settings_5, pf_Packing_0, pf_Packing_1, pf_Packing_2, pf_Packing_3, pf_Packing_4, pf_Packing_5] at h5
      walk_at "rd"
      generalize eG6 : upd _ _ _ = G6
      obtain ⟨g6, h6⟩ := gen_st eG6
      clear eG6
      try simp only [pf_Settings_0, pf_Settings_1, pf_Settings_2, pf_Settings_3, pf_Settings_4, pf_Settings_5, pf_Packing_0, pf_Packing_1, pf_Packing_2, pf_Packing_3, pf_Packing_4, pf_Packing_5] at h6
      refine k G6 ((((((g0.sb.trans g1).trans g2).trans g3).trans g4).trans g5).trans g6) ⟨dx, t, ?_, (((((g1.trans g2).trans g3).trans g4).trans g5).trans g6) _ _ nta ht⟩
      exact h6

@[irreducible] def sp_law_settings (K : PySem.W.Frag) : Sp := fun vs H Q _ => ∃ (a : Addr) (p : Prt), vs = [.ref a] ∧ PrtAt H a p ∧ p.Ok ∧ ∀ b H', H b = none → Same H H' → SetAt K H' b p → Q (.ref b) H'
theorem use_settings {K : PySem.W.Frag} {a : Addr} {p : Prt} {H : Hp} {Q : VK} {E : XK} (h : PrtAt H a p) (ok : p.Ok) (k : ∀ b H', H b = none → Same H H' → SetAt K H' b p → Q (.ref b) H') : sp_law_settings K [.ref a] H Q E := by
  unfold sp_law_settings; exact ⟨a, p, rfl, h, ok, k⟩
theorem b_law_settings {K : PySem.W.Frag} {fd : FuncData} (F : F_law_settings K fd) : Binds K fd P_law_settings [] := FunD.bindsN F fun _ _ _ _ _ _ us hl => match us, hl with | [_], _ => rfl
theorem ok_law_settings (T : Txt K mg D) : FnOk P w K mg base CX0 6 (He.fAd K ("_law_settings", none)) (D D_law_settings) P_law_settings (sp_law_settings K) := by
  refine T.d_law_settings.ok sc_law_settings (fun vs H Q E h => ?_) (fun cdv A outer s H vs Q E hr h => ?_)
  · unfold sp_law_settings at h
    first | (obtain ⟨rfl, _⟩ := h; rfl) | (obtain ⟨_, rfl, _⟩ := h; rfl) | (obtain ⟨_, _, rfl, _⟩ := h; rfl) | (obtain ⟨_, _, _, rfl, _⟩ := h; rfl) | (obtain ⟨_, _, _, _, rfl, _⟩ := h; rfl) | (obtain ⟨_, _, _, _, _, rfl, _⟩ := h; rfl) | (obtain ⟨_, _, _, _, _, _, rfl, _⟩ := h; rfl) | (obtain ⟨_, _, _, _, _, _, _, rfl, _⟩ := h; rfl) | (obtain ⟨_, _, _, _, _, _, _, _, rfl, _⟩ := h; rfl) | (obtain ⟨_, _, _, _, _, _, _, _, _, rfl, _⟩ := h; rfl) | (obtain ⟨_, _, _, _, _, _, _, _, _, _, rfl, _⟩ := h; rfl) | (obtain ⟨_, _, _, _, _, _, _, _, _, _, _, rfl, _⟩ := h; rfl)
  · refine ⟨_, PSs.nox (pss_one (ps_ret (pe_makeK T.mk_Settings (ok_Settings___init__ T) (hr.mono (by decide)) rfl T.g_Settings (b_Settings___init__ T.d_Settings___init__) pass0 (pa_cons (pe_ix (ix_listK (K := K)) (pv 0) pe_int (fun _ _ => rfl)) (pa_cons (pe_ix (ix_listK (K := K)) (pv 0) pe_int (fun _ _ => rfl)) pa_nil)) (pk_cons (pe_ix (ix_listK (K := K)) (pv 0) pe_int (fun _ _ => rfl)) (pk_cons (pe_ix (ix_listK (K := K)) (pv 0) pe_int (fun _ _ => rfl)) (pk_cons (pe_ix (ix_listK (K := K)) (pv 0) pe_int (fun _ _ => rfl)) (pk_cons (pe_ix (ix_listK (K := K)) (pv 0) pe_int (fun _ _ => rfl)) pk_nil))))))), ?_⟩
    unfold sp_law_settings at h
    obtain ⟨a, p, rfl, ⟨l, ha, hl⟩, ok, k⟩ := h
    walk_at "rd"
    intro b dx n ndb neb
    generalize eG : upd (upd _ dx _) b _ = G
    obtain ⟨s, c⟩ := gen_mk n ndb eG
    clear eG
    refine use_set_init c (s _ _ hl) ok fun H2 s2 st => ?_
    walk_at "rd"
    exact k b H2 n (same_sb_new s s2 n) st

/-! ### how rows stand on pages: the numbers -/
def lenAt (p : Prt) (r : Nat) : Int := p.lens.getD (r % p.lens.length) 0
def usum (p : Prt) (r : Nat) : Nat → Int
  | 0 => 0
  | k + 1 => usum p r k + lenAt p (r + k)
theorem lenAt_ok {p : Prt} (ok : p.Ok) (r : Nat) : 1 ≤ lenAt p r ∧ lenAt p r ≤ p.size := by
  have h : r % p.lens.length < p.lens.length := Nat.mod_lt _ ok.l0
  unfold lenAt
  rw [List.getD_eq_getElem?_getD, List.getElem?_eq_getElem h]
  exact ok.le _ (List.getElem_mem h)
theorem usum_ge {p : Prt} (ok : p.Ok) (r : Nat) : ∀ k : Nat, (k : Int) ≤ usum p r k
  | 0 => by simp [usum]
  | k + 1 => by
    have h := usum_ge ok r k
    have h2 := (lenAt_ok ok (r + k)).1
    simp only [usum]
    omega
theorem usum_mono {p : Prt} (ok : p.Ok) (r : Nat) {j k : Nat} (h : j ≤ k) : usum p r j ≤ usum p r k := by
  induction k with
  | zero => have : j = 0 := by omega
            subst this; exact Int.le_refl _
  | succ k ih =>
    by_cases e : j = k + 1
    · subst e; exact Int.le_refl _
    · have h2 := (lenAt_ok ok (r + k)).1
      have h3 := ih (by omega)
      simp only [usum]
      omega
/-- so many rows fit on a page that begins with row r -/
def Fits (p : Prt) (r k : Nat) : Prop := usum p r k ≤ p.size ∧ p.size < usum p r (k + 1)
theorem Fits.uniq {p : Prt} (ok : p.Ok) {r j k : Nat} (a : Fits p r j) (b : Fits p r k) : j = k := by
  by_cases h : j < k
  · have := usum_mono ok r (show j + 1 ≤ k by omega)
    have := a.2; have := b.1; omega
  · by_cases h2 : k < j
    · have := usum_mono ok r (show k + 1 ≤ j by omega)
      have := b.2; have := a.1; omega
    · omega
theorem Fits.le {p : Prt} (ok : p.Ok) {r k : Nat} (a : Fits p r k) : k ≤ 64 := by
  have h1 := usum_ge ok r k
  have h2 := a.1
  have h3 := ok.s1
  omega
theorem Fits.pos {p : Prt} (ok : p.Ok) {r k : Nat} (a : Fits p r k) : 1 ≤ k := by
  match k, a with
  | 0, a =>
    have h := a.2
    simp only [usum] at h
    have := (lenAt_ok ok (r + 0)).2
    omega
  | k + 1, _ => omega
theorem fits_ex {p : Prt} (ok : p.Ok) (r : Nat) : ∃ k, Fits p r k := by
  have key : ∀ n : Nat, (∃ k, Fits p r k) ∨ usum p r n ≤ p.size := by
    intro n
    induction n with
    | zero => right; simp only [usum]; have := ok.s0; omega
    | succ n ih =>
      rcases ih with h | h
      · exact .inl h
      · by_cases e : usum p r (n + 1) ≤ p.size
        · exact .inr e
        · exact .inl ⟨n, h, by omega⟩
  rcases key 65 with h | h
  · exact h
  · have h1 := usum_ge ok r 65
    have h3 := ok.s1
    omega
/-- how many rows a page that begins with row r gets -/
noncomputable def rowsF (p : Prt) (r : Nat) : Nat := open Classical in if h : ∃ k, Fits p r k then h.choose else 1
theorem rowsF_ok {p : Prt} (ok : p.Ok) (r : Nat) : Fits p r (rowsF p r) := by
  unfold rowsF
  rw [dif_pos (fits_ex ok r)]
  exact (fits_ex ok r).choose_spec
theorem rowsF_eq {p : Prt} (ok : p.Ok) {r k : Nat} (h : Fits p r k) : rowsF p r = k := (rowsF_ok ok r).uniq ok h
theorem rowsF_le {p : Prt} (ok : p.Ok) (r : Nat) : rowsF p r ≤ 64 := (rowsF_ok ok r).le ok
theorem rowsF_pos {p : Prt} (ok : p.Ok) (r : Nat) : 1 ≤ rowsF p r := (rowsF_ok ok r).pos ok
theorem lenAt_mod {p : Prt} {r q : Nat} (h : r % p.lens.length = q % p.lens.length) (i : Nat) : lenAt p (r + i) = lenAt p (q + i) := by
  unfold lenAt
  rw [Nat.add_mod, h, ← Nat.add_mod]
theorem usum_mod {p : Prt} {r q : Nat} (h : r % p.lens.length = q % p.lens.length) : ∀ k, usum p r k = usum p q k
  | 0 => rfl
  | k + 1 => by simp only [usum]; rw [usum_mod h k, lenAt_mod h]
theorem rowsF_mod {p : Prt} (ok : p.Ok) {r q : Nat} (h : r % p.lens.length = q % p.lens.length) : rowsF p r = rowsF p q := by
  refine rowsF_eq ok ?_
  have := rowsF_ok ok q
  unfold Fits at this ⊢
  rw [usum_mod h, usum_mod h]
  exact this
/-- the first row of heap page n -/
noncomputable def startN (p : Prt) : Nat → Nat
  | 0 => 0
  | n + 1 => startN p n + rowsF p (startN p n)
/-! ### the cycle -/
theorem pigeon : ∀ (L n : Nat) (f : Nat → Nat), (∀ i, i < n → f i < L) → (∀ i j, i < j → j < n → f i ≠ f j) → n ≤ L
  | 0, n, f, h, _ => by
    match n with
    | 0 => exact Nat.le_refl 0
    | n + 1 => exact absurd (h 0 (by omega)) (by omega)
  | L + 1, 0, f, _, _ => Nat.zero_le _
  | L + 1, m + 1, f, h, inj => by
    have key := pigeon L m (fun i => if f i = L then f m else f i) (fun i hi => by
      have h1 := h i (by omega)
      have h2 := h m (by omega)
      have h3 := inj i m hi (by omega)
      show (if f i = L then f m else f i) < L
      split <;> omega) (fun i j hij hj => by
      have h3 := inj i j hij (by omega)
      have h4 := inj i m (by omega) (by omega)
      have h5 := inj j m hj (by omega)
      show (if f i = L then f m else f i) ≠ (if f j = L then f m else f j)
      split <;> split <;> omega)
    omega
noncomputable def resN (p : Prt) (n : Nat) : Nat := startN p n % p.lens.length
theorem resN_lt {p : Prt} (ok : p.Ok) (n : Nat) : resN p n < p.lens.length := Nat.mod_lt _ ok.l0
structure Cyc (p : Prt) (first pages : Nat) : Prop where
  pos : 0 < pages
  eq : resN p (first + pages) = resN p first
  inj : ∀ i j, i < j → j < first + pages → resN p i ≠ resN p j
theorem Cyc.le {p : Prt} (ok : p.Ok) {first pages : Nat} (c : Cyc p first pages) : first + pages ≤ 6 :=
  Nat.le_trans (pigeon p.lens.length (first + pages) (resN p) (fun i _ => resN_lt ok i) c.inj) ok.l1
noncomputable def stL (p : Prt) (n : Nat) : List V := (List.range (n + 1)).map fun j => V.int (startN p j)
theorem stL_succ (p : Prt) (n : Nat) : stL p (n + 1) = stL p n ++ [.int (startN p (n + 1))] := by
  unfold stL
  rw [List.range_succ, List.map_append]
  rfl
theorem stL_len (p : Prt) (n : Nat) : (stL p n).length = n + 1 := by unfold stL; rw [List.length_map, List.length_range]
theorem stL_get (p : Prt) {n j : Nat} (h : j ≤ n) : (stL p n)[j]? = some (.int (startN p j)) := by
  unfold stL
  rw [List.getElem?_map, List.getElem?_range (by omega)]
  rfl
theorem stL_last (p : Prt) (n : Nat) : atI (stL p n) (-1) = some (.int (startN p n)) := by
  match n with
  | 0 => exact atI_last [] _
  | n + 1 => rw [stL_succ]; exact atI_last _ _
/-- what the seen places' dict holds -/
def Seen (p : Prt) (n : Nat) (kvs : List (Key × V)) : Prop := kvs.length ≤ n ∧ (∀ j, j < n → valV kvs (.inl (resN p j : Int)) = some (.int j)) ∧ ∀ k : Int, valV kvs (.inl k) ≠ none → ∃ j, j < n ∧ k = (resN p j : Int)
theorem Seen.put {p : Prt} {n : Nat} {kvs : List (Key × V)} (s : Seen p n kvs) (h : valV kvs (.inl (resN p n : Int)) = none) : Seen p (n + 1) (putK kvs (.inl (resN p n : Int)) (.int n)) := by
  obtain ⟨s1, s2, s3⟩ := s
  refine ⟨Nat.le_trans (length_putK _ _ _) (by omega), fun j hj => ?_, fun k hk => ?_⟩
  · rw [valV_put]
    by_cases e : (Sum.inl (resN p j : Int) : Key) = Sum.inl (resN p n : Int)
    · rw [if_pos e]
      by_cases hjn : j = n
      · subst hjn; rfl
      · have := s2 j (by omega)
        rw [e, h] at this
        cases this
    · rw [if_neg e]
      have hjn : j ≠ n := fun z => e (by rw [z])
      exact s2 j (by omega)
  · rw [valV_put] at hk
    by_cases e : (Sum.inl k : Key) = Sum.inl (resN p n : Int)
    · exact ⟨n, by omega, Sum.inl.inj e⟩
    · rw [if_neg e] at hk
      obtain ⟨j, hj, ej⟩ := s3 k hk
      exact ⟨j, by omega, ej⟩
theorem at_len {p : Prt} (ok : p.Ok) (r : Nat) : atI (p.lens.map V.int) ((r : Int) % ((p.lens.map V.int).length : Int)) = some (.int (lenAt p r)) := by
  have hlt : r % p.lens.length < p.lens.length := Nat.mod_lt _ ok.l0
  refine atI_int (j := r % p.lens.length) ?_ ?_
  · rw [List.length_map]
    exact (Int.natCast_emod r p.lens.length).symm
  · rw [List.getElem?_map, List.getElem?_eq_getElem hlt]
    unfold lenAt
    rw [List.getD_eq_getElem?_getD, List.getElem?_eq_getElem hlt]
    rfl
theorem mlen0 {p : Prt} (ok : p.Ok) : (0 : Int) < ((p.lens.map V.int).length : Int) := by rw [List.length_map]; have := ok.l0; omega
theorem res_step {p : Prt} (ok : p.Ok) {i j : Nat} (h : resN p i = resN p j) : resN p (i + 1) = resN p (j + 1) := by
  unfold resN at h ⊢
  simp only [startN]
  rw [rowsF_mod ok h, Nat.add_mod, h, ← Nat.add_mod]
theorem res_add {p : Prt} (ok : p.Ok) {i j : Nat} (h : resN p i = resN p j) : ∀ k, resN p (i + k) = resN p (j + k)
  | 0 => h
  | k + 1 => res_step ok (res_add ok h k)
theorem Cyc.per {p : Prt} (ok : p.Ok) {first pages : Nat} (c : Cyc p first pages) {n : Nat} (h : first ≤ n) : resN p (n + pages) = resN p n := by
  have e := res_add ok c.eq (n - first)
  have e1 : first + pages + (n - first) = n + pages := by omega
  have e2 : first + (n - first) = n := by omega
  rw [e1, e2] at e
  exact e
theorem Cyc.red {p : Prt} (ok : p.Ok) {first pages : Nat} (c : Cyc p first pages) : ∀ n, first ≤ n → ∃ r, first ≤ r ∧ r < first + pages ∧ resN p n = resN p r := by
  intro n
  induction n using Nat.strongRecOn with
  | ind n ih =>
    intro h
    by_cases hl : n < first + pages
    · exact ⟨n, h, hl, rfl⟩
    · have hp := c.pos
      obtain ⟨r, h1, h2, h3⟩ := ih (n - pages) (by omega) (by omega)
      refine ⟨r, h1, h2, ?_⟩
      have := c.per ok (n := n - pages) (by omega)
      rw [show n - pages + pages = n by omega] at this
      rw [this, h3]
theorem Cyc.before {p : Prt} (ok : p.Ok) {first pages : Nat} (c : Cyc p first pages) {f g : Nat} (h : f < first) (hg : 1 ≤ g) : resN p f ≠ resN p (f + g) := by
  by_cases hl : f + g < first + pages
  · exact c.inj f (f + g) (by omega) hl
  · obtain ⟨r, h1, h2, h3⟩ := c.red ok (f + g) (by have := c.pos; omega)
    rw [h3]
    exact c.inj f r (by omega) h2
theorem Cyc.less {p : Prt} {first pages : Nat} (c : Cyc p first pages) {g : Nat} (hg : 1 ≤ g) (h : g < pages) : resN p first ≠ resN p (first + g) := c.inj _ _ (by omega) (by omega)
/-! ### far pages -/
theorem start_lt {p : Prt} (ok : p.Ok) (n : Nat) : startN p n < startN p (n + 1) := by
  have := rowsF_pos ok (startN p n)
  simp only [startN]
  omega
theorem start_mono {p : Prt} (ok : p.Ok) {m n : Nat} (h : m ≤ n) : startN p m ≤ startN p n := by
  induction n with
  | zero => have : m = 0 := by omega
            subst this; exact Nat.le_refl _
  | succ n ih =>
    by_cases e : m = n + 1
    · subst e; exact Nat.le_refl _
    · exact Nat.le_trans (ih (by omega)) (Nat.le_of_lt (start_lt ok n))
theorem start_ge {p : Prt} (ok : p.Ok) : ∀ n : Nat, n ≤ startN p n
  | 0 => Nat.zero_le _
  | n + 1 => by have := start_ge ok n; have := start_lt ok n; omega
noncomputable def rowsC (p : Prt) (first pages : Nat) : Nat := startN p (first + pages) - startN p first
theorem rowsC_pos {p : Prt} (ok : p.Ok) {first pages : Nat} (c : Cyc p first pages) : 0 < rowsC p first pages := by
  have h1 := start_lt ok first
  have h2 := start_mono ok (show first + 1 ≤ first + pages by have := c.pos; omega)
  unfold rowsC
  omega
theorem start_le {p : Prt} (ok : p.Ok) : ∀ n, startN p n ≤ 64 * n
  | 0 => Nat.le_refl _
  | n + 1 => by have := start_le ok n; have := rowsF_le ok (startN p n); simp only [startN]; omega
theorem rowsC_le {p : Prt} (ok : p.Ok) {first pages : Nat} (c : Cyc p first pages) : rowsC p first pages ≤ 384 := by
  have h1 := start_le ok (first + pages)
  have h2 := c.le ok
  unfold rowsC
  omega
theorem start_per {p : Prt} (ok : p.Ok) {first pages : Nat} (c : Cyc p first pages) {n : Nat} (h : first ≤ n) : startN p (n + pages) = startN p n + rowsC p first pages := by
  have key : ∀ k, startN p (first + k + pages) = startN p (first + k) + rowsC p first pages := by
    intro k
    induction k with
    | zero =>
      have := start_mono ok (show first ≤ first + pages by omega)
      show startN p (first + pages) = startN p first + (startN p (first + pages) - startN p first)
      omega
    | succ k ih =>
      have e : rowsF p (startN p (first + k + pages)) = rowsF p (startN p (first + k)) := rowsF_mod ok (c.per ok (n := first + k) (by omega))
      have e1 : first + (k + 1) + pages = (first + k + pages) + 1 := by omega
      rw [e1]
      simp only [startN]
      rw [e, ih]
      show startN p (first + k) + rowsC p first pages + rowsF p (startN p (first + k)) = startN p (first + k) + rowsF p (startN p (first + k)) + rowsC p first pages
      omega
  have := key (n - first)
  rw [show first + (n - first) = n by omega] at this
  exact this
theorem start_times {p : Prt} (ok : p.Ok) {first pages : Nat} (c : Cyc p first pages) {n : Nat} (h : first ≤ n) : ∀ t, startN p (n + t * pages) = startN p n + t * rowsC p first pages
  | 0 => by simp
  | t + 1 => by
    have e : n + (t + 1) * pages = n + t * pages + pages := by rw [Nat.succ_mul]; omega
    rw [e, start_per ok c (by omega), start_times ok c h t, Nat.succ_mul]
    omega
/-- row r stands on page n -/
def On (p : Prt) (r n : Nat) : Prop := startN p n ≤ r ∧ r < startN p (n + 1)
theorem On.uniq {p : Prt} (ok : p.Ok) {r m n : Nat} (a : On p r m) (b : On p r n) : m = n := by
  by_cases h : m < n
  · have := start_mono ok (show m + 1 ≤ n by omega)
    have := a.2; have := b.1; omega
  · by_cases h2 : n < m
    · have := start_mono ok (show n + 1 ≤ m by omega)
      have := b.2; have := a.1; omega
    · omega
theorem On.le {p : Prt} (ok : p.Ok) {r n : Nat} (a : On p r n) : n ≤ r := Nat.le_trans (start_ge ok n) a.1
def pkMeths : List Str := ["length", "rows_from", "start", "holder", "check_page", "units_of", "first_row", "page_of", "rows_on", "units_on", "units_left", "begun", "cycle"]
/-- a Packing, as far as its first fields go -/
structure PkB (K : PySem.W.Frag) (H : Hp) (a : Addr) (p : Prt) (dx : Addr) (fs : List (Str × V)) (t : Addr) : Prop where
  h : H a = some (.ins (He.ga K "Packing") dx fs)
  l : fs.lookup ("row_lengths" : Str) = some (V.ref t)
  r : fs.lookup ("room" : Str) = some (V.int p.size)
  m : ∀ x ∈ pkMeths, fs.lookup x = none
  t : H t = some (.tup (p.lens.map V.int))
def PkBase (K : PySem.W.Frag) (H : Hp) (a : Addr) (p : Prt) : Prop := ∃ dx fs t, PkB K H a p dx fs t
theorem PkBase.same {K : PySem.W.Frag} {H H' : Hp} {a : Addr} {p : Prt} (h : PkBase K H a p) (s : Same H H') : PkBase K H' a p := let ⟨dx, fs, t, b⟩ := h; ⟨dx, fs, t, s _ _ b.h, b.l, b.r, b.m, s _ _ b.t⟩
@[irreducible] def sp_Packing_length (K : PySem.W.Frag) : Sp := fun vs H Q _ => ∃ (a : Addr) (p : Prt) (r : Nat), vs = [.ref a, .int r] ∧ PkBase K H a p ∧ p.Ok ∧ Q (.int (lenAt p r)) H
theorem use_length {K : PySem.W.Frag} {a : Addr} {p : Prt} {r : Nat} {H : Hp} {Q : VK} {E : XK} {i : Int} (hi : i = (r : Int)) (b : PkBase K H a p) (ok : p.Ok) (q : Q (.int (lenAt p r)) H) : sp_Packing_length K [.ref a, .int i] H Q E := by
  subst hi; unfold sp_Packing_length; exact ⟨a, p, r, rfl, b, ok, q⟩
theorem b_Packing_length {K : PySem.W.Frag} {fd : FuncData} (F : F_Packing_length K fd) : Binds K fd P_Packing_length [] := FunD.bindsN F fun _ _ _ _ _ _ us hl => match us, hl with | [_, _], _ => rfl
theorem ok_Packing_length (T : Txt K mg D) : FnOk P w K mg base CX0 1 (He.fAd K ("Packing", some "length")) (D D_Packing_length) P_Packing_length (sp_Packing_length K) := by
  refine T.d_Packing_length.ok sc_Packing_length (fun vs H Q E h => ?_) (fun cdv A outer s H vs Q E hr h => ?_)
  · unfold sp_Packing_length at h
    first | (obtain ⟨rfl, _⟩ := h; rfl) | (obtain ⟨_, rfl, _⟩ := h; rfl) | (obtain ⟨_, _, rfl, _⟩ := h; rfl) | (obtain ⟨_, _, _, rfl, _⟩ := h; rfl) | (obtain ⟨_, _, _, _, rfl, _⟩ := h; rfl) | (obtain ⟨_, _, _, _, _, rfl, _⟩ := h; rfl) | (obtain ⟨_, _, _, _, _, _, rfl, _⟩ := h; rfl) | (obtain ⟨_, _, _, _, _, _, _, rfl, _⟩ := h; rfl) | (obtain ⟨_, _, _, _, _, _, _, _, rfl, _⟩ := h; rfl) | (obtain ⟨_, _, _, _, _, _, _, _, _, rfl, _⟩ := h; rfl) | (obtain ⟨_, _, _, _, _, _, _, _, _, _, rfl, _⟩ := h; rfl) | (obtain ⟨_, _, _, _, _, _, _, _, _, _, _, rfl, _⟩ := h; rfl)
  · refine ⟨_, PSs.nox (pss_one (ps_ret (pe_ix (ix_tupK (K := K)) (pe_fldK (K := K) (pv 0) rfl) (pe_op op_mod (pv 1) (pe_callB (call_lenK (K := K)) (by rfl) T.n_len (by decide +kernel) (pa_cons (pe_fldK (K := K) (pv 0) rfl) pa_nil))) (fun _ _ => rfl)))), ?_⟩
    unfold sp_Packing_length at h
    obtain ⟨a, p, r, rfl, ⟨dx, fs, t, hb⟩, ok, q⟩ := h
    have h1 := hb.h
    have h2 := hb.l
    have h3 := hb.t
    have hl := ok.l0
    walk_at "rd"
    refine ⟨(by show (0 : Int) < ((p.lens.map V.int).length : Nat); rw [List.length_map]; omega), ?_⟩
    have hlt : r % p.lens.length < p.lens.length := Nat.mod_lt _ hl
    refine ⟨_, _, _, .int (lenAt p r), rfl, rfl, SqT.of h3, atI_int (j := r % p.lens.length) ?_ ?_, q⟩
    · rw [List.length_map]
      exact (Int.natCast_emod r p.lens.length).symm
    · rw [List.getElem?_map, List.getElem?_eq_getElem hlt]
      unfold lenAt
      rw [List.getD_eq_getElem?_getD, List.getElem?_eq_getElem hlt]
      rfl

@[irreducible] def sp_Packing_rows_from (K : PySem.W.Frag) : Sp := fun vs H Q _ => ∃ (a : Addr) (p : Prt) (r : Nat), vs = [.ref a, .int r] ∧ PkBase K H a p ∧ p.Ok ∧ ∀ H', Same H H' → Q (.int (rowsF p r)) H'
theorem use_rows_from {K : PySem.W.Frag} {a : Addr} {p : Prt} {r : Nat} {H : Hp} {Q : VK} {E : XK} {i : Int} (hi : i = (r : Int)) (b : PkBase K H a p) (ok : p.Ok) (q : ∀ H', Same H H' → Q (.int (rowsF p r)) H') : sp_Packing_rows_from K [.ref a, .int i] H Q E := by
  subst hi; unfold sp_Packing_rows_from; exact ⟨a, p, r, rfl, b, ok, q⟩
theorem b_Packing_rows_from {K : PySem.W.Frag} {fd : FuncData} (F : F_Packing_rows_from K fd) : Binds K fd P_Packing_rows_from [] := FunD.bindsN F fun _ _ _ _ _ _ us hl => match us, hl with | [_, _], _ => rfl
theorem ok_Packing_rows_from (T : Txt K mg D) : FnOk P w K mg base CX0 2 (He.fAd K ("Packing", some "rows_from")) (D D_Packing_rows_from) P_Packing_rows_from (sp_Packing_rows_from K) := by
  refine T.d_Packing_rows_from.ok sc_Packing_rows_from (fun vs H Q E h => ?_) (fun cdv A outer s H vs Q E hr h => ?_)
  · unfold sp_Packing_rows_from at h
    first | (obtain ⟨rfl, _⟩ := h; rfl) | (obtain ⟨_, rfl, _⟩ := h; rfl) | (obtain ⟨_, _, rfl, _⟩ := h; rfl) | (obtain ⟨_, _, _, rfl, _⟩ := h; rfl) | (obtain ⟨_, _, _, _, rfl, _⟩ := h; rfl) | (obtain ⟨_, _, _, _, _, rfl, _⟩ := h; rfl) | (obtain ⟨_, _, _, _, _, _, rfl, _⟩ := h; rfl) | (obtain ⟨_, _, _, _, _, _, _, rfl, _⟩ := h; rfl) | (obtain ⟨_, _, _, _, _, _, _, _, rfl, _⟩ := h; rfl) | (obtain ⟨_, _, _, _, _, _, _, _, _, rfl, _⟩ := h; rfl) | (obtain ⟨_, _, _, _, _, _, _, _, _, _, rfl, _⟩ := h; rfl) | (obtain ⟨_, _, _, _, _, _, _, _, _, _, _, rfl, _⟩ := h; rfl)
  · refine ⟨_, PSs.nox (pss_cons (ps_asg (pe_tup (pa_cons pe_int (pa_cons pe_int pa_nil))) (pg_tup rfl (pgs_cons (pg_name (i := 2) sc_Packing_rows_from.nd rfl (Or.inl rfl)) (pgs_cons (pg_name (i := 3) sc_Packing_rows_from.nd rfl (Or.inl rfl)) pgs_nil))))
      (pss_cons (ps_while PassesOwn.never (pt_cmpR op_le (pe_op op_add (pv 3) (pe_meth (pv 0) T.c_Packing T.m_Packing_length (ok_Packing_length T) (hr.mono (by decide)) (b_Packing_length T.d_Packing_length) .nil pass0 (pa_cons (pe_op op_add (pv 1) (pv 2)) pa_nil))) (pe_fldK (K := K) (pv 0) rfl) (nomark _)) (pss_cons (ps_aug (i := 3) sc_Packing_rows_from.nd rfl (Or.inl rfl) (pe_meth (pv 0) T.c_Packing T.m_Packing_length (ok_Packing_length T) (hr.mono (by decide)) (b_Packing_length T.d_Packing_length) .nil pass0 (pa_cons (pe_op op_add (pv 1) (pv 2)) pa_nil)) ip_add)
      (pss_one (ps_aug (i := 2) sc_Packing_rows_from.nd rfl (Or.inl rfl) pe_int ip_add))))
      (pss_one (ps_ret (pv 2))))), ?_⟩
    unfold sp_Packing_rows_from at h
    obtain ⟨a, p, r, rfl, b, ok, q⟩ := h
    obtain ⟨dx, fs, t, hb⟩ := id b
    have h1 := hb.h
    have h2 := hb.r
    have h3 := hb.m "length" (by decide)
    walk_at "rd"
    intro t0 n0
    generalize eH0 : upd _ t0 _ = H0
    obtain ⟨s0, ht0⟩ := gen_new n0 eH0
    clear eH0
    have h1 := s0 _ _ h1
    have b := b.same s0
    have q : Q (.int (rowsF p r)) H0 := q H0 s0
    walk_at "rd"
    refine ⟨fun m σ H' => ∃ k : Nat, H' = H0 ∧ σ = [some (.ref a), some (.int r), some (.int k), some (.int (usum p r k))] ∧ usum p r k ≤ p.size ∧ m = 65 - k, ⟨65, 0, rfl, rfl, by simp only [usum]; have := ok.s0; omega, rfl⟩, ?_⟩
    rintro m σ H' ⟨k, rfl, rfl, hk, rfl⟩
    walk_at "rd"
    refine use_length (r := r + k) (by omega) b ok ?_
    walk_at "rd"
    refine iteB (fun c => ?_) (fun c => ?_)
    · have c := of_decide_eq_true c
      have hk2 : usum p r (k + 1) ≤ p.size := c
      have hk3 := usum_ge ok r (k + 1)
      have hs := ok.s1
      refine ⟨fun σ' H'' => ∃ m', m' < 65 - k ∧ ∃ k : Nat, H'' = H' ∧ σ' = [some (.ref a), some (.int r), some (.int k), some (.int (usum p r k))] ∧ usum p r k ≤ p.size ∧ m' = 65 - k, fun _ _ h => h, ?_⟩
      walk_at "rd"
      refine use_length (r := r + k) (by omega) b ok ?_
      walk_at "rd"
      exact ⟨65 - (k + 1), by omega, k + 1, rfl, rfl, hk2, rfl⟩
    · have c := of_decide_eq_false c
      walk_at "rd"
      have e : rowsF p r = k := rowsF_eq ok ⟨hk, by simp only [usum]; omega⟩
      rw [e] at q
      exact q

@[irreducible] def sp_check_settings (K : PySem.W.Frag) : Sp := fun vs H Q _ => ∃ (a dx : Addr) (fs : List (Str × V)), vs = [.ref a] ∧ H a = some (.ins (He.ga K "Settings") dx fs) ∧ Q .non H
theorem use_check_settings {K : PySem.W.Frag} {a dx : Addr} {fs : List (Str × V)} {H : Hp} {Q : VK} {E : XK} (h : H a = some (.ins (He.ga K "Settings") dx fs)) (q : Q .non H) : sp_check_settings K [.ref a] H Q E := by
  unfold sp_check_settings; exact ⟨a, dx, fs, rfl, h, q⟩
theorem b_check_settings {K : PySem.W.Frag} {fd : FuncData} (F : F_check_settings K fd) : Binds K fd P_check_settings [] := FunD.bindsN F fun _ _ _ _ _ _ us hl => match us, hl with | [_], _ => rfl
theorem ok_check_settings (T : Txt K mg D) : FnOk P w K mg base CX0 1 (He.fAd K ("check_settings", none)) (D D_check_settings) P_check_settings (sp_check_settings K) := by
  refine T.d_check_settings.ok sc_check_settings (fun vs H Q E h => ?_) (fun cdv A outer s H vs Q E hr h => ?_)
  · unfold sp_check_settings at h
    first | (obtain ⟨rfl, _⟩ := h; rfl) | (obtain ⟨_, rfl, _⟩ := h; rfl) | (obtain ⟨_, _, rfl, _⟩ := h; rfl) | (obtain ⟨_, _, _, rfl, _⟩ := h; rfl) | (obtain ⟨_, _, _, _, rfl, _⟩ := h; rfl) | (obtain ⟨_, _, _, _, _, rfl, _⟩ := h; rfl) | (obtain ⟨_, _, _, _, _, _, rfl, _⟩ := h; rfl) | (obtain ⟨_, _, _, _, _, _, _, rfl, _⟩ := h; rfl) | (obtain ⟨_, _, _, _, _, _, _, _, rfl, _⟩ := h; rfl) | (obtain ⟨_, _, _, _, _, _, _, _, _, rfl, _⟩ := h; rfl) | (obtain ⟨_, _, _, _, _, _, _, _, _, _, rfl, _⟩ := h; rfl) | (obtain ⟨_, _, _, _, _, _, _, _, _, _, _, rfl, _⟩ := h; rfl)
  · refine ⟨_, PSs.nox (pss_one (ps_if (pt_not (pt_val (pe_callB (call_isiK2 (K := K)) (by rfl) T.n_isinstance (by decide +kernel) (pa_cons (pv 0) (pa_cons (pe_glob (v := .ref (He.ga K "Settings")) rfl T.g_Settings rfl) pa_nil))))) (pss_one ps_never) pss_nil)), ?_⟩
    unfold sp_check_settings at h
    obtain ⟨a, dx, fs, rfl, ha, q⟩ := h
    walk_at "rd"
    refine isi_own ha T.c_Settings T.ic_Settings T.kk_Settings_Settings ?_
    walk_at "rd"
    exact q

/-- a whole Packing -/
def PkAt (K : PySem.W.Frag) (H : Hp) (a : Addr) (p : Prt) (first pages : Nat) : Prop := ∃ dx t l, H a = some (.ins (He.ga K "Packing") dx [("row_lengths", .ref t), ("room", .int p.size), ("starts", .ref l), ("first", .int first), ("pages", .int pages), ("rows", .int ((startN p (first + pages) : Int) - startN p first))]) ∧
  H t = some (.tup (p.lens.map V.int)) ∧ H l = some (.lst (stL p (first + pages)))
theorem PkAt.same {K : PySem.W.Frag} {H H' : Hp} {a : Addr} {p : Prt} {first pages : Nat} (h : PkAt K H a p first pages) (s : Same H H') : PkAt K H' a p first pages := let ⟨dx, t, l, h1, h2, h3⟩ := h; ⟨dx, t, l, s _ _ h1, s _ _ h2, s _ _ h3⟩
@[irreducible] def sp_Packing_init (K : PySem.W.Frag) : Sp := fun vs H Q _ => ∃ (a dx b : Addr) (p : Prt), vs = [.ref a, .ref b] ∧ H a = some (.ins (He.ga K "Packing") dx []) ∧ SetAt K H b p ∧ p.Ok ∧
  ∀ H' first pages, SB a H H' → Cyc p first pages → PkAt K H' a p first pages → (∀ s xs H'', H s = some (.lst xs) → SB s H' H'' → PkAt K H'' a p first pages) → Q .non H'
theorem use_packing_init {K : PySem.W.Frag} {a dx b : Addr} {p : Prt} {H : Hp} {Q : VK} {E : XK} (h : H a = some (.ins (He.ga K "Packing") dx [])) (hb : SetAt K H b p) (ok : p.Ok)
  (k : ∀ H' first pages, SB a H H' → Cyc p first pages → PkAt K H' a p first pages → (∀ s xs H'', H s = some (.lst xs) → SB s H' H'' → PkAt K H'' a p first pages) → Q .non H') : sp_Packing_init K [.ref a, .ref b] H Q E := by
  unfold sp_Packing_init; exact ⟨a, dx, b, p, rfl, h, hb, ok, k⟩
theorem b_Packing___init__ {K : PySem.W.Frag} {fd : FuncData} (F : F_Packing___init__ K fd) : Binds K fd P_Packing___init__ [] := FunD.bindsN F fun _ _ _ _ _ _ us hl => match us, hl with | [_, _], _ => rfl
theorem ok_Packing___init__ (T : Txt K mg D) : FnOk P w K mg base CX0 3 (He.fAd K ("Packing", some "__init__")) (D D_Packing___init__) P_Packing___init__ (sp_Packing_init K) := by
  refine T.d_Packing___init__.ok sc_Packing___init__ (fun vs H Q E h => ?_) (fun cdv A outer s H vs Q E hr h => ?_)
  · unfold sp_Packing_init at h
    first | (obtain ⟨rfl, _⟩ := h; rfl) | (obtain ⟨_, rfl, _⟩ := h; rfl) | (obtain ⟨_, _, rfl, _⟩ := h; rfl) | (obtain ⟨_, _, _, rfl, _⟩ := h; rfl) | (obtain ⟨_, _, _, _, rfl, _⟩ := h; rfl) | (obtain ⟨_, _, _, _, _, rfl, _⟩ := h; rfl) | (obtain ⟨_, _, _, _, _, _, rfl, _⟩ := h; rfl) | (obtain ⟨_, _, _, _, _, _, _, rfl, _⟩ := h; rfl) | (obtain ⟨_, _, _, _, _, _, _, _, rfl, _⟩ := h; rfl) | (obtain ⟨_, _, _, _, _, _, _, _, _, rfl, _⟩ := h; rfl) | (obtain ⟨_, _, _, _, _, _, _, _, _, _, rfl, _⟩ := h; rfl) | (obtain ⟨_, _, _, _, _, _, _, _, _, _, _, rfl, _⟩ := h; rfl)
  · refine ⟨_, PSs.nox (pss_cons (ps_expr (pe_call (ok_check_settings T) (hr.mono (by decide)) rfl T.g_check_settings T.d_check_settings.kp (b_check_settings T.d_check_settings) .nil pass0 (pa_cons (pv 1) pa_nil)))
      (pss_cons (ps_fld (pv 0) (pe_fldK (K := K) (pv 1) rfl) rfl)
      (pss_cons (ps_fld (pv 0) (pe_fldK (K := K) (pv 1) rfl) rfl)
      (pss_cons (ps_fld (pv 0) (pe_lst (pa_cons pe_int pa_nil)) rfl)
      (pss_cons (ps_set (i := 2) sc_Packing___init__.nd rfl (Or.inl rfl) pe_dnewK)
      (pss_cons (ps_while PassesOwn.never (pt_cmp (pc_dnotin (hu_of hr) (pe_op op_mod (pe_ix (ix_listK (K := K)) (pe_fldK (K := K) (pv 0) rfl) (pe_un un_neg pe_int) (fun _ _ => rfl)) (pe_callB (call_lenK (K := K)) (by rfl) T.n_len (by decide +kernel) (pa_cons (pe_fldK (K := K) (pv 0) rfl) pa_nil))) (pv 2))) (pss_cons (ps_dput (hu_of hr) (pv 2) (pe_op op_mod (pe_ix (ix_listK (K := K)) (pe_fldK (K := K) (pv 0) rfl) (pe_un un_neg pe_int) (fun _ _ => rfl)) (pe_callB (call_lenK (K := K)) (by rfl) T.n_len (by decide +kernel) (pa_cons (pe_fldK (K := K) (pv 0) rfl) pa_nil))) (pe_op op_sub (pe_callB (call_lenK (K := K)) (by rfl) T.n_len (by decide +kernel) (pa_cons (pe_fldK (K := K) (pv 0) rfl) pa_nil)) pe_int) rfl)
      (pss_one (ps_expr (pe_bm PySem.F.plainAttrs_list PySem.F.slot_list_append PySem.F.type_list_append mt_append (pe_fldK (K := K) (pv 0) rfl) (pa_cons (pe_op op_add (pe_ix (ix_listK (K := K)) (pe_fldK (K := K) (pv 0) rfl) (pe_un un_neg pe_int) (fun _ _ => rfl)) (pe_meth (pv 0) T.c_Packing T.m_Packing_rows_from (ok_Packing_rows_from T) (hr.mono (by decide)) (b_Packing_rows_from T.d_Packing_rows_from) .nil pass0 (pa_cons (pe_ix (ix_listK (K := K)) (pe_fldK (K := K) (pv 0) rfl) (pe_un un_neg pe_int) (fun _ _ => rfl)) pa_nil))) pa_nil))))))
      (pss_cons (ps_fld (pv 0) (pe_dget (hu_of hr) (pv 2) (pe_op op_mod (pe_ix (ix_listK (K := K)) (pe_fldK (K := K) (pv 0) rfl) (pe_un un_neg pe_int) (fun _ _ => rfl)) (pe_callB (call_lenK (K := K)) (by rfl) T.n_len (by decide +kernel) (pa_cons (pe_fldK (K := K) (pv 0) rfl) pa_nil))) (fun _ _ => rfl)) rfl)
      (pss_cons (ps_fld (pv 0) (pe_op op_sub (pe_op op_sub (pe_callB (call_lenK (K := K)) (by rfl) T.n_len (by decide +kernel) (pa_cons (pe_fldK (K := K) (pv 0) rfl) pa_nil)) pe_int) (pe_fldK (K := K) (pv 0) rfl)) rfl)
      (pss_one (ps_fld (pv 0) (pe_op op_sub (pe_ix (ix_listK (K := K)) (pe_fldK (K := K) (pv 0) rfl) (pe_un un_neg pe_int) (fun _ _ => rfl)) (pe_ix (ix_listK (K := K)) (pe_fldK (K := K) (pv 0) rfl) (pe_fldK (K := K) (pv 0) rfl) (fun _ _ => rfl))) rfl)))))))))), ?_⟩
    unfold sp_Packing_init at h
    obtain ⟨a, dx, b, p, rfl, ha, ⟨dy, t, hb, ht⟩, ok, k⟩ := h
    have l0 := ok.l0
    have l1 := ok.l1
    have nab : a ≠ b := ne_of ha hb (by intro z; injection z with _ _ z3; cases z3)
    have nat : t ≠ a := ne_of ht ha (by intro z; cases z)
    walk_at "rd"
    refine use_check_settings hb ?_
    walk_at "rd"
    generalize eG1 : upd _ _ _ = G1
    obtain ⟨g1, h1⟩ := gen_st eG1
    clear eG1
    try simp only [pf_Settings_0, pf_Settings_1, pf_Settings_2, pf_Settings_3, pf_Settings_4, pf_Settings_5, pf_Packing_0, pf_Packing_1, pf_Packing_2, pf_Packing_3, pf_Packing_4, pf_Packing_5] at h1
    have hb1 := g1 _ _ nab.symm hb
    walk_at "rd"
    generalize eG2 : upd _ _ _ = G2
    obtain ⟨g2, h2⟩ := gen_st eG2
    clear eG2
    try simp only [pf_Settings_0, pf_Settings_1, pf_Settings_2, pf_Settings_3, pf_Settings_4, pf_Settings_5, pf_Packing_0, pf_Packing_1, pf_Packing_2, pf_Packing_3, pf_Packing_4, pf_Packing_5] at h2
    walk_at "rd"
    intro l n3
    generalize eG3 : upd _ l _ = G3
    obtain ⟨g3, h3⟩ := gen_new n3 eG3
    clear eG3
    have h23 := g3 _ _ h2
    have nla : l ≠ a := (ne_of_none h2 n3).symm
    walk_at "rd"
    generalize eG4 : upd _ _ _ = G4
    obtain ⟨g4, h4⟩ := gen_st eG4
    clear eG4
    try simp only [pf_Settings_0, pf_Settings_1, pf_Settings_2, pf_Settings_3, pf_Settings_4, pf_Settings_5, pf_Packing_0, pf_Packing_1, pf_Packing_2, pf_Packing_3, pf_Packing_4, pf_Packing_5] at h4
    have h34 := g4 _ _ nla h3
    walk_at "rd"
    intro d n5
    generalize eG5 : upd _ d _ = G5
    obtain ⟨g5, h5⟩ := gen_new n5 eG5
    clear eG5
    have h45 := g5 _ _ h4
    have h35 := g5 _ _ h34
    have nda : d ≠ a := (ne_of_none h4 n5).symm
    have ndl : d ≠ l := (ne_of_none h34 n5).symm
    have ht5 := g5 _ _ (g4 _ _ nat (g3 _ _ (g2 _ _ nat (g1 _ _ nat ht))))
    have ntl : t ≠ l := ne_of ht5 h35 (by intro z; cases z)
    have ntd : t ≠ d := ne_of ht5 h5 (by intro z; cases z)
    have fro : ∀ H', SX [l, d] G5 H' → H' a = some (.ins (He.ga K "Packing") dx [(("row_lengths" : Str), V.ref t), (("room" : Str), V.int p.size), (("starts" : Str), V.ref l)]) ∧ H' t = some (.tup (p.lens.map V.int)) := fun H' f => ⟨f _ _ (by simp [nla.symm, nda.symm]) h45, f _ _ (by simp [ntl, ntd]) ht5⟩
    walk_at "rd"
    refine ⟨fun m σ H' => ∃ (n : Nat) (kvs : List (Key × V)), σ = [some (.ref a), some (.ref b), some (.ref d)] ∧ SX [l, d] G5 H' ∧ H' l = some (.lst (stL p n)) ∧ H' d = some (.dK kvs) ∧ Seen p n kvs ∧
      (∀ i j, i < j → j < n → resN p i ≠ resN p j) ∧ n ≤ 6 ∧ m = 7 - n, ⟨7, 0, [], rfl, SX.refl, h35, h5, ⟨Nat.le_refl _, fun j hj => absurd hj (by omega), fun k hk => absurd rfl hk⟩, fun i j _ hj => absurd hj (by omega), by omega, rfl⟩, ?_⟩
    rintro m σ H' ⟨n, kvs, rfl, fx, hl, hd, hs, inj, hn, rfl⟩
    obtain ⟨ha', ht'⟩ := fro _ fx
    have base : ∀ G, Same H' G → PkBase K G a p := fun G g => ⟨dx, _, t, g _ _ ha', by kernel_rfl, by kernel_rfl, none_all (by kernel_rfl), g _ _ ht'⟩
    walk_at "rd"
    have elen : ((p.lens.map V.int).length : Int) = (p.lens.length : Int) := by rw [List.length_map]
    have eres : (startN p n : Int) % ((p.lens.map V.int).length : Int) = (resN p n : Int) := by rw [elen]; exact (Int.natCast_emod _ _).symm
    have e0 : (0 : Int) < ((p.lens.map V.int).length : Int) := by rw [elen]; omega
    refine ⟨_, _, _, _, rfl, rfl, SqL.of hl, stL_last p n, ?_⟩
    walk_at "rd"
    have hg : ∀ G, G d = some (.dK kvs) → DGet G d (.int ((startN p n : Int) % ((p.lens.map V.int).length : Int))) (valV kvs (Sum.inl (resN p n : Int))) := fun G h => by
      rw [eres]; exact DGet.k (k := Sum.inl (resN p n : Int)) h
    refine ⟨_, _, rfl, hg _ hd, ?_⟩
    walk_at "rd"
    cases hv : valV kvs (Sum.inl (resN p n : Int)) with
    | none =>
      refine iteT ?_
      have inj2 : ∀ i j, i < j → j < n + 1 → resN p i ≠ resN p j := fun i j hij hj => by
        by_cases hjn : j = n
        · subst hjn
          intro z
          have := hs.2.1 i hij
          rw [z, hv] at this
          cases this
        · exact inj i j hij (by omega)
      have hn7 : n + 1 ≤ 6 := Nat.le_trans (pigeon p.lens.length (n + 1) (resN p) (fun i _ => resN_lt ok i) inj2) ok.l1
      refine ⟨fun σ' H'' => ∃ m', m' < 7 - n ∧ ∃ (n : Nat) (kvs : List (Key × V)), σ' = [some (.ref a), some (.ref b), some (.ref d)] ∧ SX [l, d] G5 H'' ∧ H'' l = some (.lst (stL p n)) ∧ H'' d = some (.dK kvs) ∧ Seen p n kvs ∧
        (∀ i j, i < j → j < n → resN p i ≠ resN p j) ∧ n ≤ 6 ∧ m' = 7 - n, fun _ _ h => h, ?_⟩
      walk_at "rd"
      refine ⟨_, _, _, _, rfl, rfl, SqL.of hl, stL_last p n, ?_⟩
      walk_at "rd"
      have hput : DPut H' d (.int ((startN p n : Int) % ((p.lens.map V.int).length : Int))) (.int (((stL p n).length : Int) - 1)) (upd H' d (.dK (putK kvs (Sum.inl (resN p n : Int)) (.int n)))) := by
        have e2 : ((stL p n).length : Int) - 1 = (n : Int) := by rw [stL_len]; omega
        rw [eres, e2]
        exact DPut.k (k := Sum.inl (resN p n : Int)) hd (szlt (Nat.le_trans hs.1 (by omega)))
      refine ⟨_, _, rfl, hput, ?_⟩
      generalize eG7 : upd _ _ _ = G7
      obtain ⟨g7, h7⟩ := gen_st eG7
      clear eG7
      try simp only [pf_Settings_0, pf_Settings_1, pf_Settings_2, pf_Settings_3, pf_Settings_4, pf_Settings_5, pf_Packing_0, pf_Packing_1, pf_Packing_2, pf_Packing_3, pf_Packing_4, pf_Packing_5] at h7
      have hl7 := g7 _ _ ndl.symm hl
      have ha7 := g7 _ _ nda.symm ha'
      have ht7 := g7 _ _ ntd ht'
      walk_at "rd"
      refine ⟨.inl ⟨rfl, _, SqL.of hl7⟩, ?_⟩
      walk_at "rd"
      refine ⟨_, _, _, _, rfl, rfl, SqL.of hl7, stL_last p n, ?_⟩
      walk_at "rd"
      refine ⟨_, _, _, _, rfl, rfl, SqL.of hl7, stL_last p n, ?_⟩
      walk_at "rd"
      refine use_rows_from (r := startN p n) rfl ⟨dx, _, t, ha7, by kernel_rfl, by kernel_rfl, none_all (by kernel_rfl), ht7⟩ ok fun G8 g8 => ?_
      walk_at "rd"
      refine ⟨_, _, _, rfl, rfl, g8 _ _ hl7, szlt (by rw [stL_len]; omega), ?_⟩
      generalize eG9 : upd _ _ _ = G9
      obtain ⟨g9, h9⟩ := gen_st eG9
      clear eG9
      try simp only [pf_Settings_0, pf_Settings_1, pf_Settings_2, pf_Settings_3, pf_Settings_4, pf_Settings_5, pf_Packing_0, pf_Packing_1, pf_Packing_2, pf_Packing_3, pf_Packing_4, pf_Packing_5] at h9
      refine ⟨7 - (n + 1), by omega, n + 1, putK kvs (Sum.inl (resN p n : Int)) (.int n), rfl, ?_, ?_, g9 _ _ ndl (g8 _ _ h7), hs.put hv, inj2, hn7, rfl⟩
      · exact ((fx.trans (g7.sx (by simp))).trans g8.sx).trans (g9.sx (by simp))
      · rw [h9, stL_succ]
        exact congrArg (fun z => some (HO.lst (stL p n ++ [V.int z]))) (Int.natCast_add _ _).symm
    | some v =>
      refine iteF ?_
      obtain ⟨j, hj, ej⟩ := hs.2.2 (resN p n : Int) (by rw [hv]; simp)
      have hvj := hs.2.1 j hj
      have hv0 := hv
      rw [← ej, hv] at hvj
      cases hvj
      have ejn : resN p n = resN p j := by omega
      walk_at "rd"
      refine ⟨_, _, _, _, rfl, rfl, SqL.of hl, stL_last p n, ?_⟩
      walk_at "rd"
      refine ⟨_, .int j, rfl, ?_, ?_⟩
      · have := hg _ hd
        rw [hv0] at this
        exact this
      walk_at "rd"
      generalize eK1 : upd _ _ _ = K1
      obtain ⟨k1, e1⟩ := gen_st eK1
      clear eK1
      try simp only [pf_Settings_0, pf_Settings_1, pf_Settings_2, pf_Settings_3, pf_Settings_4, pf_Settings_5, pf_Packing_0, pf_Packing_1, pf_Packing_2, pf_Packing_3, pf_Packing_4, pf_Packing_5] at e1
      have hl1 := k1 _ _ nla hl
      walk_at "rd"
      generalize eK2 : upd _ _ _ = K2
      obtain ⟨k2, e2⟩ := gen_st eK2
      clear eK2
      try simp only [pf_Settings_0, pf_Settings_1, pf_Settings_2, pf_Settings_3, pf_Settings_4, pf_Settings_5, pf_Packing_0, pf_Packing_1, pf_Packing_2, pf_Packing_3, pf_Packing_4, pf_Packing_5] at e2
      have hl2 := k2 _ _ nla hl1
      walk_at "rd"
      refine ⟨_, _, _, _, rfl, rfl, SqL.of hl2, stL_last p n, ?_⟩
      walk_at "rd"
      refine ⟨_, _, _, _, rfl, rfl, SqL.of hl2, atI_int (j := j) rfl (stL_get p (show j ≤ n by omega)), ?_⟩
      walk_at "rd"
      generalize eK3 : upd _ _ _ = K3
      obtain ⟨k3, e3⟩ := gen_st eK3
      clear eK3
      try simp only [pf_Settings_0, pf_Settings_1, pf_Settings_2, pf_Settings_3, pf_Settings_4, pf_Settings_5, pf_Packing_0, pf_Packing_1, pf_Packing_2, pf_Packing_3, pf_Packing_4, pf_Packing_5] at e3
      have eN : j + (n - j) = n := by omega
      have e7 : ((stL p n).length : Int) - 1 - (j : Int) = ((n - j : Nat) : Int) := by rw [stL_len]; omega
      have q1 : K3 a = some (.ins (He.ga K "Packing") dx [("row_lengths", .ref t), ("room", .int p.size), ("starts", .ref l), ("first", .int j), ("pages", .int (n - j : Nat)), ("rows", .int ((startN p (j + (n - j)) : Int) - startN p j))]) := by
        rw [eN, ← e7]
        exact e3
      have q2 : K3 t = some (.tup (p.lens.map V.int)) := k3 _ _ nat (k2 _ _ nat (k1 _ _ nat ht'))
      have q3 : K3 l = some (.lst (stL p (j + (n - j)))) := by
        rw [eN]
        exact k3 _ _ nla hl2
      refine k K3 j (n - j) ?_ ⟨by omega, by rw [eN]; exact ejn, fun x y hxy hy => inj x y hxy (by omega)⟩ ⟨dx, t, l, q1, q2, q3⟩ fun s xs H'' hs0 e => ?_
      · intro c o hc ho
        have o2 := g2 _ _ hc (g1 _ _ hc ho)
        have o4 := g4 _ _ hc (g3 _ _ o2)
        exact k3 _ _ hc (k2 _ _ hc (k1 _ _ hc (fx _ _ (by simp [ne_of_none o2 n3, ne_of_none o4 n5]) (g5 _ _ o4))))
      · have nsa : s ≠ a := ne_of hs0 ha (by intro z; cases z)
        have nst : s ≠ t := ne_of hs0 ht (by intro z; cases z)
        have nsl : s ≠ l := ne_of_none (g2 _ _ nsa (g1 _ _ nsa hs0)) n3
        exact ⟨dx, t, l, e _ _ nsa.symm q1, e _ _ nst.symm q2, e _ _ nsl.symm q3⟩

@[irreducible] def sp_Packing_start (K : PySem.W.Frag) : Sp := fun vs H Q _ => ∃ (a : Addr) (p : Prt) (first pages n : Nat), vs = [.ref a, .int n] ∧ PkAt K H a p first pages ∧ p.Ok ∧ Cyc p first pages ∧ ∀ H', Same H H' → Q (.int (startN p n)) H'
theorem use_start {K : PySem.W.Frag} {a : Addr} {p : Prt} {first pages n : Nat} {H : Hp} {Q : VK} {E : XK} {i : Int} (hi : i = (n : Int)) (h : PkAt K H a p first pages) (ok : p.Ok) (c : Cyc p first pages) (k : ∀ H', Same H H' → Q (.int (startN p n)) H') :
  sp_Packing_start K [.ref a, .int i] H Q E := by subst hi; unfold sp_Packing_start; exact ⟨a, p, first, pages, n, rfl, h, ok, c, k⟩
theorem b_Packing_start {K : PySem.W.Frag} {fd : FuncData} (F : F_Packing_start K fd) : Binds K fd P_Packing_start [] := FunD.bindsN F fun _ _ _ _ _ _ us hl => match us, hl with | [_, _], _ => rfl
theorem ok_Packing_start (T : Txt K mg D) : FnOk P w K mg base CX0 1 (He.fAd K ("Packing", some "start")) (D D_Packing_start) P_Packing_start (sp_Packing_start K) := by
  refine T.d_Packing_start.ok sc_Packing_start (fun vs H Q E h => ?_) (fun cdv A outer s H vs Q E hr h => ?_)
  · unfold sp_Packing_start at h
    first | (obtain ⟨rfl, _⟩ := h; rfl) | (obtain ⟨_, rfl, _⟩ := h; rfl) | (obtain ⟨_, _, rfl, _⟩ := h; rfl) | (obtain ⟨_, _, _, rfl, _⟩ := h; rfl) | (obtain ⟨_, _, _, _, rfl, _⟩ := h; rfl) | (obtain ⟨_, _, _, _, _, rfl, _⟩ := h; rfl) | (obtain ⟨_, _, _, _, _, _, rfl, _⟩ := h; rfl) | (obtain ⟨_, _, _, _, _, _, _, rfl, _⟩ := h; rfl) | (obtain ⟨_, _, _, _, _, _, _, _, rfl, _⟩ := h; rfl) | (obtain ⟨_, _, _, _, _, _, _, _, _, rfl, _⟩ := h; rfl) | (obtain ⟨_, _, _, _, _, _, _, _, _, _, rfl, _⟩ := h; rfl) | (obtain ⟨_, _, _, _, _, _, _, _, _, _, _, rfl, _⟩ := h; rfl)
  · refine ⟨_, PSs.nox (pss_cons (ps_if (pt_cmpR op_lt (pv 1) (pe_fldK (K := K) (pv 0) rfl) (nomark _)) (pss_one (ps_ret (pe_ix (ix_listK (K := K)) (pe_fldK (K := K) (pv 0) rfl) (pv 1) (fun _ _ => rfl)))) pss_nil)
      (pss_cons (ps_asg (pe_callB call_divmod (by rfl) T.n_divmod (by decide +kernel) (pa_cons (pe_op op_sub (pv 1) (pe_fldK (K := K) (pv 0) rfl)) (pa_cons (pe_fldK (K := K) (pv 0) rfl) pa_nil))) (pg_tup rfl (pgs_cons (pg_name (i := 2) sc_Packing_start.nd rfl (Or.inl rfl)) (pgs_cons (pg_name (i := 3) sc_Packing_start.nd rfl (Or.inl rfl)) pgs_nil))))
      (pss_one (ps_ret (pe_op op_add (pe_ix (ix_listK (K := K)) (pe_fldK (K := K) (pv 0) rfl) (pe_op op_add (pe_fldK (K := K) (pv 0) rfl) (pv 3)) (fun _ _ => rfl)) (pe_op op_mul (pv 2) (pe_fldK (K := K) (pv 0) rfl))))))), ?_⟩
    unfold sp_Packing_start at h
    obtain ⟨a, p, first, pages, n, rfl, ⟨dx, t, l, h1, h2, h3⟩, ok, c, k⟩ := h
    have hle := c.le ok
    have hpos := c.pos
    walk_at "rd"
    refine iteB (fun d => ?_) (fun d => ?_)
    · have d := of_decide_eq_true d
      walk_at "rd"
      refine ⟨_, _, _, _, rfl, rfl, SqL.of h3, atI_int (j := n) rfl (stL_get p (by omega)), ?_⟩
      exact k H (Same.refl H)
    · have d := of_decide_eq_false d
      walk_at "rd"
      intro q n1
      generalize eG1 : upd _ q _ = G1
      obtain ⟨s1, c1⟩ := gen_new n1 eG1
      clear eG1
      have h31 := s1 _ _ h3
      have h11 := s1 _ _ h1
      walk_at "rd"
      have e1 : ((n : Int) - (first : Int)) / (pages : Int) = (((n - first) / pages : Nat) : Int) := by rw [← Int.ofNat_sub (by omega)]; rfl
      have e2 : ((n : Int) - (first : Int)) % (pages : Int) = (((n - first) % pages : Nat) : Int) := by rw [← Int.ofNat_sub (by omega)]; rfl
      have hm : (n - first) % pages < pages := Nat.mod_lt _ hpos
      refine ⟨_, _, _, _, rfl, rfl, SqL.of h31, atI_int (j := first + (n - first) % pages) (by rw [e2]; omega) (stL_get p (by omega)), ?_⟩
      walk_at "rd"
      have hr := rowsC_le ok c
      have hsp := start_mono ok (show first ≤ first + pages by omega)
      have er : (startN p (first + pages) : Int) - (startN p first : Int) = (rowsC p first pages : Int) := by unfold rowsC; omega
      refine ⟨cmr (by rw [er]; omega) (by rw [er]; omega), ?_⟩
      walk_at "rd"
      have e3 : (startN p n : Int) = (startN p (first + (n - first) % pages) : Int) + (((n : Int) - (first : Int)) / (pages : Int)) * ((startN p (first + pages) : Int) - (startN p first : Int)) := by
        rw [e1, er, ← Int.natCast_mul, ← Int.natCast_add, ← start_times ok c (show first ≤ first + (n - first) % pages by omega)]
        have := Nat.mod_add_div (n - first) pages
        rw [show first + (n - first) % pages + (n - first) / pages * pages = n by rw [Nat.mul_comm]; omega]
      have q1 := k G1 s1
      rw [e3] at q1
      exact q1

@[irreducible] def sp_Packing_holder (K : PySem.W.Frag) : Sp := fun vs H Q _ => ∃ (a : Addr) (p : Prt) (first pages r : Nat), vs = [.ref a, .int r] ∧ PkAt K H a p first pages ∧ p.Ok ∧ Cyc p first pages ∧ ∀ n H', On p r n → Same H H' → Q (.int n) H'
theorem use_holder {K : PySem.W.Frag} {a : Addr} {p : Prt} {first pages r : Nat} {H : Hp} {Q : VK} {E : XK} {i : Int} (hi : i = (r : Int)) (h : PkAt K H a p first pages) (ok : p.Ok) (c : Cyc p first pages) (k : ∀ n H', On p r n → Same H H' → Q (.int n) H') :
  sp_Packing_holder K [.ref a, .int i] H Q E := by subst hi; unfold sp_Packing_holder; exact ⟨a, p, first, pages, r, rfl, h, ok, c, k⟩
/-- the first row of the cycle that is like row r, and how many cycles lie between -/
theorem near_of {p : Prt} (ok : p.Ok) {first pages : Nat} (c : Cyc p first pages) (r : Nat) : ∃ t near, r = near + t * rowsC p first pages ∧ near < startN p (first + pages) ∧ (t = 0 ∨ startN p first ≤ near) ∧
    (startN p first ≤ r → t = (r - startN p first) / rowsC p first pages) ∧ (r < startN p first → t = 0) := by
  have h1 := rowsC_pos ok c
  have h2 := start_mono ok (show first ≤ first + pages by omega)
  have er : rowsC p first pages = startN p (first + pages) - startN p first := rfl
  by_cases h : startN p first ≤ r
  · refine ⟨(r - startN p first) / rowsC p first pages, startN p first + (r - startN p first) % rowsC p first pages, ?_, ?_, .inr (by omega), fun _ => rfl, fun z => by omega⟩
    · have := Nat.mod_add_div (r - startN p first) (rowsC p first pages)
      rw [Nat.mul_comm] at this
      omega
    · have := Nat.mod_lt (r - startN p first) h1
      omega
  · exact ⟨0, r, by omega, by omega, .inl rfl, fun z => absurd z h, fun _ => rfl⟩
theorem par6 {A B : Option V} {x y : Int} (h : x = y) {l : List (Option V)} : A :: B :: some (V.int x) :: l = A :: B :: some (V.int y) :: l := by subst h; rfl
theorem b_Packing_holder {K : PySem.W.Frag} {fd : FuncData} (F : F_Packing_holder K fd) : Binds K fd P_Packing_holder [] := FunD.bindsN F fun _ _ _ _ _ _ us hl => match us, hl with | [_, _], _ => rfl
theorem ok_Packing_holder (T : Txt K mg D) : FnOk P w K mg base CX0 1 (He.fAd K ("Packing", some "holder")) (D D_Packing_holder) P_Packing_holder (sp_Packing_holder K) := by
  refine T.d_Packing_holder.ok sc_Packing_holder (fun vs H Q E h => ?_) (fun cdv A outer s H vs Q E hr h => ?_)
  · unfold sp_Packing_holder at h
    first | (obtain ⟨rfl, _⟩ := h; rfl) | (obtain ⟨_, rfl, _⟩ := h; rfl) | (obtain ⟨_, _, rfl, _⟩ := h; rfl) | (obtain ⟨_, _, _, rfl, _⟩ := h; rfl) | (obtain ⟨_, _, _, _, rfl, _⟩ := h; rfl) | (obtain ⟨_, _, _, _, _, rfl, _⟩ := h; rfl) | (obtain ⟨_, _, _, _, _, _, rfl, _⟩ := h; rfl) | (obtain ⟨_, _, _, _, _, _, _, rfl, _⟩ := h; rfl) | (obtain ⟨_, _, _, _, _, _, _, _, rfl, _⟩ := h; rfl) | (obtain ⟨_, _, _, _, _, _, _, _, _, rfl, _⟩ := h; rfl) | (obtain ⟨_, _, _, _, _, _, _, _, _, _, rfl, _⟩ := h; rfl) | (obtain ⟨_, _, _, _, _, _, _, _, _, _, _, rfl, _⟩ := h; rfl)
  · refine ⟨_, PSs.nox (pss_cons (ps_set (i := 2) sc_Packing_holder.nd rfl (Or.inl rfl) pe_int)
      (Evl.pss_cut (ps_if (pt_cmpR op_ge (pv 1) (pe_ix (ix_listK (K := K)) (pe_fldK (K := K) (pv 0) rfl) (pe_fldK (K := K) (pv 0) rfl) (fun _ _ => rfl)) (nomark _)) (pss_one (ps_set (i := 2) sc_Packing_holder.nd rfl (Or.inl rfl) (pe_op op_fdivW (pe_op op_sub (pv 1) (pe_ix (ix_listK (K := K)) (pe_fldK (K := K) (pv 0) rfl) (pe_fldK (K := K) (pv 0) rfl) (fun _ _ => rfl))) (pe_fldK (K := K) (pv 0) rfl)))) pss_nil)
      (pss_cons (ps_set (i := 3) sc_Packing_holder.nd rfl (Or.inr rfl) (pe_op op_sub (pv 1) (pe_op op_mul (pv 2) (pe_fldK (K := K) (pv 0) rfl))))
      (pss_cons (ps_set (i := 4) sc_Packing_holder.nd rfl (Or.inl rfl) (pe_ix (ix_listK (K := K)) (pe_lc (own := [("place", 5)]) rfl sc_Packing_holder.nd (pi_range1 (by rfl) T.n_range (pa_cons (pe_callB (call_lenK (K := K)) (by rfl) T.n_len (by decide +kernel) (pa_cons (pe_fldK (K := K) (pv 0) rfl) pa_nil)) pa_nil)) (blkOk_by (N := N_Packing_holder) (sc := defScope s_Packing_holder) (by decide +kernel)) (fun _ _ _ _ _ => (pg_name (i := 5) sc_Packing_holder.nd rfl (Or.inl rfl))) (fun _ _ _ _ _ => (pts_one (pt_cmpR op_le (pe_ix (ix_listK (K := K)) (pe_fldK (K := K) (pv 0) rfl) (pv 5) (fun _ _ => rfl)) (pv 3) (nomark _)))) (fun _ _ _ _ _ => (pv 5))) (pe_un un_neg pe_int) (fun _ _ => rfl)))
      (pss_one (ps_ret (pe_op op_add (pv 4) (pe_op op_mul (pv 2) (pe_fldK (K := K) (pv 0) rfl))))))))), ?_⟩
    unfold sp_Packing_holder at h
    obtain ⟨a, p, first, pages, r, rfl, ⟨dx, t, l, h1, h2, h3⟩, ok, c, k⟩ := h
    have hle := c.le ok
    have hpos := c.pos
    have hsp := start_mono ok (show first ≤ first + pages by omega)
    have er : (startN p (first + pages) : Int) - (startN p first : Int) = (rowsC p first pages : Int) := by unfold rowsC; omega
    have hr0 := rowsC_pos ok c
    have hr1 := rowsC_le ok c
    obtain ⟨tm, near, en, hn, ht, hu, hv⟩ := near_of ok c r
    have hsl := stL_len p (first + pages)
    walk_at "rd"
    refine ⟨fun σ' H' => H' = H ∧ σ' = [some (.ref a), some (.int r), some (.int tm), none, none, none], ?_, ?_⟩
    · walk_at "rd"
      refine ⟨_, _, _, _, rfl, rfl, SqL.of h3, atI_int (j := first) rfl (stL_get p (by omega)), ?_⟩
      walk_at "rd"
      refine iteB (fun d => ?_) (fun d => ?_)
      · have d := of_decide_eq_true d
        have d2 : startN p first ≤ r := by omega
        walk_at "rd"
        refine ⟨_, _, _, _, rfl, rfl, SqL.of h3, atI_int (j := first) rfl (stL_get p (by omega)), ?_⟩
        walk_at "rd"
        have e9 : ((r : Int) - (startN p first : Int)) / ((startN p (first + pages) : Int) - (startN p first : Int)) = (tm : Int) := by
          rw [er, ← Int.ofNat_sub d2, hu d2]; rfl
        exact par6 e9
      · have d := of_decide_eq_false d
        walk_at "rd"
        have e9 := hv (by omega)
        subst e9
        rfl
    rintro σ H' ⟨rfl, rfl⟩
    walk_at "rd"
    have hs0 : startN p 0 = 0 := rfl
    have enear : (r : Int) - (tm : Int) * ((startN p (first + pages) : Int) - (startN p first : Int)) = (near : Int) := by
      rw [er, ← Int.natCast_mul]; omega
    intro D1 n1
    have nl : l ≠ D1 := ne_of_none h3 n1
    refine lc_range (lo := 0) (n := Int.toNat _) (fun i G => ∃ c, G D1 = some (.lst ((List.range c).map fun (j : Nat) => V.int (j : Int))) ∧ SX [D1] H' G ∧ (∀ j, j < i → (startN p j ≤ near ↔ j < c)) ∧ c ≤ i) ⟨0, upd_same, SX.refl.mut n1, fun j hj => absurd hj (by omega), Nat.le_refl _⟩ ?_ ?_
    · rintro i G hi ⟨m, hD, f, hc, hm⟩
      have hi2 : i ≤ first + pages := by omega
      refine ⟨rfl, ?_⟩
      have h3' := f _ _ (by simp [nl]) h3
      have h1' := f _ _ (by simp [ne_of_none h1 n1]) h1
      walk_at "rd"
      refine ⟨_, _, _, _, rfl, rfl, SqL.of h3', atI_int (j := i) (by omega) (stL_get p hi2), ?_⟩
      walk_at "rd"
      refine iteB (fun d => ?_) (fun d => ?_)
      · have d := of_decide_eq_true d
        have d : startN p i ≤ near := by
          have d2 : (startN p i : Int) ≤ (r : Int) - (tm : Int) * ((startN p (first + pages) : Int) - (startN p first : Int)) := d
          omega
        walk_at "rd"
        have hmi : m = i := by
          by_cases h : m = i
          · exact h
          · have z := (hc m (by omega)).mp (Nat.le_trans (start_mono ok (by omega)) d)
            omega
        subst hmi
        refine ⟨_, hD, szlt (by rw [List.length_map, List.length_range]; omega), m + 1, ?_, f.upd (by simp), fun j hj => ⟨fun _ => hj, fun _ => Nat.le_trans (start_mono ok (by omega)) d⟩, Nat.le_refl _⟩
        rw [upd_same, List.range_succ, List.map_append]
        exact congrArg (fun z => some (HO.lst (List.map (fun (j : Nat) => V.int (j : Int)) (List.range m) ++ [V.int z]))) (Int.zero_add _)
      · have d := of_decide_eq_false d
        have d : ¬ startN p i ≤ near := by
          have d2 : ¬ (startN p i : Int) ≤ (r : Int) - (tm : Int) * ((startN p (first + pages) : Int) - (startN p first : Int)) := d
          omega
        refine ⟨m, hD, f, fun j hj => ?_, by omega⟩
        by_cases h : j = i
        · subst h
          exact ⟨fun z => absurd z d, fun z => by omega⟩
        · exact hc j (by omega)
    · rintro G ⟨m, hD, f, hc, hm⟩
      have hlen : (Int.toNat (((stL p (first + pages)).length : Nat) : Int)) = first + pages + 1 := by rw [stL_len]; omega
      rw [hlen] at hc hm
      have m1 : 0 < m := (hc 0 (by omega)).mp (by rw [hs0]; omega)
      have m2 : m ≤ first + pages := by
        by_cases h : m ≤ first + pages
        · exact h
        · have := (hc (first + pages) (by omega)).mpr (by omega)
          omega
      obtain ⟨m, rfl⟩ : ∃ m', m = m' + 1 := ⟨m - 1, by omega⟩
      have b1 := (hc m (by omega)).mpr (by omega)
      have b2 : near < startN p (m + 1) := by
        by_cases h : startN p (m + 1) ≤ near
        · have := (hc (m + 1) (by omega)).mp h
          omega
        · omega
      have hat : atI ((List.range (m + 1)).map fun (j : Nat) => V.int (j : Int)) (-1) = some (.int (m : Int)) := by
        rw [List.range_succ, List.map_append]
        exact atI_last _ _
      have sG : Same H' G := fun b o ho => f _ _ (by simp [ne_of_none ho n1]) ho
      have h11 := sG _ _ h1
      walk_at "rd"
      refine ⟨_, _, _, _, rfl, rfl, SqL.of hD, hat, ?_⟩
      walk_at "rd"
      have ePn : (m : Int) + (tm : Int) * (pages : Int) = ((m + tm * pages : Nat) : Int) := by rw [← Int.natCast_mul]; omega
      have on : On p r (m + tm * pages) := by
        rcases ht with ht | ht
        · subst ht
          simp only [Nat.zero_mul, Nat.add_zero] at en ⊢
          rw [en]
          exact ⟨b1, b2⟩
        · have hmf : first ≤ m := by
            by_cases h : first ≤ m
            · exact h
            · have := start_mono ok (show m + 1 ≤ first by omega)
              omega
          have e1 := start_times ok c hmf tm
          have e2 := start_times ok c (show first ≤ m + 1 by omega) tm
          refine ⟨?_, ?_⟩
          · rw [e1, en]; omega
          · rw [show m + tm * pages + 1 = m + 1 + tm * pages by omega, e2, en]; omega
      have q := k _ G on sG
      rw [← ePn] at q
      exact q

@[irreducible] def sp_check_row : Sp := fun vs H Q _ => ∃ i m : Int, vs = [.int i, .int m] ∧ (0 ≤ i ∧ i ≤ m - 1) ∧ Q .non H
theorem use_check_row {i m : Int} {H : Hp} {Q : VK} {E : XK} (h : 0 ≤ i ∧ i ≤ m - 1) (q : Q .non H) : sp_check_row [.int i, .int m] H Q E := by unfold sp_check_row; exact ⟨i, m, rfl, h, q⟩
theorem b_check_row_1 {K : PySem.W.Frag} {fd : FuncData} (F : F_check_row K fd) : ∃ ds, Vals [.int (1000000000000000000000000000000)] ds ∧ Binds K fd P_check_row ds := FunD.binds1 F 1 0 (by intro z; cases z) rfl fun _ _ _ _ _ _ _ us its h1 h2 => match us, its, h1, h2 with | [_], [_], _, _ => ⟨_, rfl, rfl⟩
theorem b_check_row_2 {K : PySem.W.Frag} {fd : FuncData} (F : F_check_row K fd) : ∃ ds, Vals [] ds ∧ Binds K fd P_check_row ds := FunD.binds1 F 2 1 (by intro z; cases z) rfl fun _ _ _ _ _ _ _ us its h1 h2 => match us, its, h1, h2 with | [_, _], [_], _, _ => ⟨_, rfl, rfl⟩
theorem ok_check_row (T : Txt K mg D) : FnOk P w K mg base CX0 3 (He.fAd K ("check_row", none)) (D D_check_row) P_check_row sp_check_row := by
  refine T.d_check_row.ok sc_check_row (fun vs H Q E h => ?_) (fun cdv A outer s H vs Q E hr h => ?_)
  · unfold sp_check_row at h
    first | (obtain ⟨rfl, _⟩ := h; rfl) | (obtain ⟨_, rfl, _⟩ := h; rfl) | (obtain ⟨_, _, rfl, _⟩ := h; rfl) | (obtain ⟨_, _, _, rfl, _⟩ := h; rfl) | (obtain ⟨_, _, _, _, rfl, _⟩ := h; rfl) | (obtain ⟨_, _, _, _, _, rfl, _⟩ := h; rfl) | (obtain ⟨_, _, _, _, _, _, rfl, _⟩ := h; rfl) | (obtain ⟨_, _, _, _, _, _, _, rfl, _⟩ := h; rfl) | (obtain ⟨_, _, _, _, _, _, _, _, rfl, _⟩ := h; rfl) | (obtain ⟨_, _, _, _, _, _, _, _, _, rfl, _⟩ := h; rfl) | (obtain ⟨_, _, _, _, _, _, _, _, _, _, rfl, _⟩ := h; rfl) | (obtain ⟨_, _, _, _, _, _, _, _, _, _, _, rfl, _⟩ := h; rfl)
  · refine ⟨_, PSs.nox (pss_one (ps_if (pt_not (pt_val (pe_call (ok_is_between T) (hr.mono (by decide)) rfl T.g_is_between T.d_is_between.kp (b_is_between T.d_is_between) .nil pass0 (pa_cons (pv 0) (pa_cons pe_int (pa_cons (pe_op op_sub (pv 1) pe_int) pa_nil)))))) (pss_one ps_never) pss_nil)), ?_⟩
    unfold sp_check_row at h
    obtain ⟨i, m, rfl, h, q⟩ := h
    walk_at "rd"
    refine use_between ?_
    rw [decide_eq_true h]
    walk_at "rd"
    exact q

@[irreducible] def sp_check_moment : Sp := fun vs H Q _ => ∃ i : Int, vs = [.int i] ∧ (0 ≤ i ∧ i ≤ 1000000000000000000000000000000) ∧ Q .non H
theorem use_check_moment {i : Int} {H : Hp} {Q : VK} {E : XK} (h : 0 ≤ i ∧ i ≤ 1000000000000000000000000000000) (q : Q .non H) : sp_check_moment [.int i] H Q E := by unfold sp_check_moment; exact ⟨i, rfl, h, q⟩
theorem b_check_moment {K : PySem.W.Frag} {fd : FuncData} (F : F_check_moment K fd) : Binds K fd P_check_moment [] := FunD.bindsN F fun _ _ _ _ _ _ us hl => match us, hl with | [_], _ => rfl
theorem ok_check_moment (T : Txt K mg D) : FnOk P w K mg base CX0 3 (He.fAd K ("check_moment", none)) (D D_check_moment) P_check_moment sp_check_moment := by
  refine T.d_check_moment.ok sc_check_moment (fun vs H Q E h => ?_) (fun cdv A outer s H vs Q E hr h => ?_)
  · unfold sp_check_moment at h
    first | (obtain ⟨rfl, _⟩ := h; rfl) | (obtain ⟨_, rfl, _⟩ := h; rfl) | (obtain ⟨_, _, rfl, _⟩ := h; rfl) | (obtain ⟨_, _, _, rfl, _⟩ := h; rfl) | (obtain ⟨_, _, _, _, rfl, _⟩ := h; rfl) | (obtain ⟨_, _, _, _, _, rfl, _⟩ := h; rfl) | (obtain ⟨_, _, _, _, _, _, rfl, _⟩ := h; rfl) | (obtain ⟨_, _, _, _, _, _, _, rfl, _⟩ := h; rfl) | (obtain ⟨_, _, _, _, _, _, _, _, rfl, _⟩ := h; rfl) | (obtain ⟨_, _, _, _, _, _, _, _, _, rfl, _⟩ := h; rfl) | (obtain ⟨_, _, _, _, _, _, _, _, _, _, rfl, _⟩ := h; rfl) | (obtain ⟨_, _, _, _, _, _, _, _, _, _, _, rfl, _⟩ := h; rfl)
  · refine ⟨_, PSs.nox (pss_one (ps_if (pt_not (pt_val (pe_call (ok_is_between T) (hr.mono (by decide)) rfl T.g_is_between T.d_is_between.kp (b_is_between T.d_is_between) .nil pass0 (pa_cons (pv 0) (pa_cons pe_int (pa_cons (pe_globi T.i_MOST_ROW) pa_nil)))))) (pss_one ps_never) pss_nil)), ?_⟩
    unfold sp_check_moment at h
    obtain ⟨i, rfl, h, q⟩ := h
    walk_at "rd"
    refine use_between ?_
    rw [decide_eq_true h]
    walk_at "rd"
    exact q

@[irreducible] def sp_Packing_check_page (K : PySem.W.Frag) : Sp := fun vs H Q _ => ∃ (a : Addr) (p : Prt) (first pages n : Nat), vs = [.ref a, .int n] ∧ PkAt K H a p first pages ∧ p.Ok ∧ Cyc p first pages ∧ startN p n < 1000000000000000000000000000000 ∧ ∀ H', Same H H' → Q .non H'
theorem use_check_page {K : PySem.W.Frag} {a : Addr} {p : Prt} {first pages n : Nat} {H : Hp} {Q : VK} {E : XK} {i : Int} (hi : i = (n : Int)) (h : PkAt K H a p first pages) (ok : p.Ok) (c : Cyc p first pages) (hn : startN p n < 1000000000000000000000000000000)
  (k : ∀ H', Same H H' → Q .non H') : sp_Packing_check_page K [.ref a, .int i] H Q E := by subst hi; unfold sp_Packing_check_page; exact ⟨a, p, first, pages, n, rfl, h, ok, c, hn, k⟩
theorem b_Packing_check_page {K : PySem.W.Frag} {fd : FuncData} (F : F_Packing_check_page K fd) : Binds K fd P_Packing_check_page [] := FunD.bindsN F fun _ _ _ _ _ _ us hl => match us, hl with | [_, _], _ => rfl
theorem ok_Packing_check_page (T : Txt K mg D) : FnOk P w K mg base CX0 2 (He.fAd K ("Packing", some "check_page")) (D D_Packing_check_page) P_Packing_check_page (sp_Packing_check_page K) := by
  refine T.d_Packing_check_page.ok sc_Packing_check_page (fun vs H Q E h => ?_) (fun cdv A outer s H vs Q E hr h => ?_)
  · unfold sp_Packing_check_page at h
    first | (obtain ⟨rfl, _⟩ := h; rfl) | (obtain ⟨_, rfl, _⟩ := h; rfl) | (obtain ⟨_, _, rfl, _⟩ := h; rfl) | (obtain ⟨_, _, _, rfl, _⟩ := h; rfl) | (obtain ⟨_, _, _, _, rfl, _⟩ := h; rfl) | (obtain ⟨_, _, _, _, _, rfl, _⟩ := h; rfl) | (obtain ⟨_, _, _, _, _, _, rfl, _⟩ := h; rfl) | (obtain ⟨_, _, _, _, _, _, _, rfl, _⟩ := h; rfl) | (obtain ⟨_, _, _, _, _, _, _, _, rfl, _⟩ := h; rfl) | (obtain ⟨_, _, _, _, _, _, _, _, _, rfl, _⟩ := h; rfl) | (obtain ⟨_, _, _, _, _, _, _, _, _, _, rfl, _⟩ := h; rfl) | (obtain ⟨_, _, _, _, _, _, _, _, _, _, _, rfl, _⟩ := h; rfl)
  · refine ⟨_, PSs.nox (pss_one (ps_if (PW.pt (pw_or (pt_not (pt_val (pe_call (ok_is_integer T) (hr.mono (by decide)) rfl T.g_is_integer T.d_is_integer.kp (b_is_integer T.d_is_integer) .nil pass0 (pa_cons (pv 1) pa_nil)))) (pw_or (pt_cmpR op_lt (pv 1) pe_int (nomark _)) (pw_or1 (pt_cmpR op_ge (pe_meth (pv 0) T.c_Packing T.m_Packing_start (ok_Packing_start T) (hr.mono (by decide)) (b_Packing_start T.d_Packing_start) .nil pass0 (pa_cons (pv 1) pa_nil)) (pe_globi T.i_MOST_ROW) (nomark _)))))) (pss_one ps_never) pss_nil)), ?_⟩
    unfold sp_Packing_check_page at h
    obtain ⟨a, p, first, pages, n, rfl, hpk, ok, c, hn, k⟩ := h
    obtain ⟨dx, t, l, h1, h2, h3⟩ := id hpk
    walk_at "rd"
    refine use_isint ?_
    walk_at "rd"
    refine use_start rfl hpk ok c fun G g => ?_
    walk_at "rd"
    refine iteF_of (decide_eq_false (by omega)) ?_
    exact k G g

@[irreducible] def sp_Packing_units_of (K : PySem.W.Frag) : Sp := fun vs H Q _ => ∃ (a : Addr) (p : Prt) (r k : Nat), vs = [.ref a, .int r, .int ((r : Int) + k)] ∧ PkBase K H a p ∧ p.Ok ∧ k ≤ 1000 ∧ ∀ H', Same H H' → Q (.int (usum p r k)) H'
theorem use_units_of {K : PySem.W.Frag} {a : Addr} {p : Prt} {r k : Nat} {H : Hp} {Q : VK} {E : XK} {i j : Int} (hi : i = (r : Int)) (hj : j = (r : Int) + k) (h : PkBase K H a p) (ok : p.Ok) (hk : k ≤ 1000) (q : ∀ H', Same H H' → Q (.int (usum p r k)) H') :
  sp_Packing_units_of K [.ref a, .int i, .int j] H Q E := by subst hi hj; unfold sp_Packing_units_of; exact ⟨a, p, r, k, rfl, h, ok, hk, q⟩
def lensL (p : Prt) (r k : Nat) : List Int := (List.range k).map fun i => lenAt p (r + i)
theorem lensL_succ (p : Prt) (r k : Nat) : lensL p r (k + 1) = lensL p r k ++ [lenAt p (r + k)] := by
  unfold lensL
  rw [List.range_succ, List.map_append]
  rfl
theorem lensL_sum (p : Prt) (r : Nat) : ∀ k, (lensL p r k).sum = usum p r k
  | 0 => rfl
  | k + 1 => by rw [lensL_succ, List.sum_append, lensL_sum p r k]; simp [usum]
theorem pk_base {K : PySem.W.Frag} {H : Hp} {a : Addr} {p : Prt} {first pages : Nat} (h : PkAt K H a p first pages) : PkBase K H a p := by
  obtain ⟨dx, t, l, h1, h2, h3⟩ := h
  exact ⟨dx, _, t, h1, by kernel_rfl, by kernel_rfl, none_all (by kernel_rfl), h2⟩
theorem b_Packing_units_of {K : PySem.W.Frag} {fd : FuncData} (F : F_Packing_units_of K fd) : Binds K fd P_Packing_units_of [] := FunD.bindsN F fun _ _ _ _ _ _ us hl => match us, hl with | [_, _, _], _ => rfl
theorem ok_Packing_units_of (T : Txt K mg D) : FnOk P w K mg base CX0 2 (He.fAd K ("Packing", some "units_of")) (D D_Packing_units_of) P_Packing_units_of (sp_Packing_units_of K) := by
  refine T.d_Packing_units_of.ok sc_Packing_units_of (fun vs H Q E h => ?_) (fun cdv A outer s H vs Q E hr h => ?_)
  · unfold sp_Packing_units_of at h
    first | (obtain ⟨rfl, _⟩ := h; rfl) | (obtain ⟨_, rfl, _⟩ := h; rfl) | (obtain ⟨_, _, rfl, _⟩ := h; rfl) | (obtain ⟨_, _, _, rfl, _⟩ := h; rfl) | (obtain ⟨_, _, _, _, rfl, _⟩ := h; rfl) | (obtain ⟨_, _, _, _, _, rfl, _⟩ := h; rfl) | (obtain ⟨_, _, _, _, _, _, rfl, _⟩ := h; rfl) | (obtain ⟨_, _, _, _, _, _, _, rfl, _⟩ := h; rfl) | (obtain ⟨_, _, _, _, _, _, _, _, rfl, _⟩ := h; rfl) | (obtain ⟨_, _, _, _, _, _, _, _, _, rfl, _⟩ := h; rfl) | (obtain ⟨_, _, _, _, _, _, _, _, _, _, rfl, _⟩ := h; rfl) | (obtain ⟨_, _, _, _, _, _, _, _, _, _, _, rfl, _⟩ := h; rfl)
  · refine ⟨_, PSs.nox (pss_one (ps_ret (pe_callB (cr_sumK (K := K) rfl) (by rfl) T.n_sum (by decide +kernel) (pa_cons (pe_lc (own := [("one", 3)]) rfl sc_Packing_units_of.nd (pi_rangeB (by rfl) T.n_range (pa_cons (pv 1) (pa_cons (pv 2) pa_nil))) (blkOk_by (N := N_Packing_units_of) (sc := defScope s_Packing_units_of) (by decide +kernel)) (fun _ _ _ _ _ => (pg_name (i := 3) sc_Packing_units_of.nd rfl (Or.inl rfl))) (fun _ _ _ _ _ => pts_nil) (fun _ _ _ _ _ => (pe_meth (pv 0) T.c_Packing T.m_Packing_length (ok_Packing_length T) (hr.mono (by decide)) (b_Packing_length T.d_Packing_length) .nil pass0 (pa_cons (pv 3) pa_nil)))) pa_nil)))), ?_⟩
    unfold sp_Packing_units_of at h
    obtain ⟨a, p, r, k, rfl, hb, ok, hk, q⟩ := h
    obtain ⟨dx, fs, t, b⟩ := id hb
    have h1 := b.h
    have h3 := b.m "length" (by decide)
    walk_at "rd"
    intro D1 n1
    refine lc_range (lo := (r : Int)) (n := Int.toNat _) (fun i G => G D1 = some (.lst ((lensL p r i).map V.int)) ∧ SX [D1] H G) ⟨upd_same, SX.refl.mut n1⟩ ?_ ?_
    · rintro i G hi ⟨hD, f⟩
      refine ⟨rfl, ?_⟩
      have h1' := f _ _ (by simp [ne_of_none h1 n1]) h1
      have sG : Same H G := fun b o ho => f _ _ (by simp [ne_of_none ho n1]) ho
      walk_at "rd"
      refine use_length (r := r + i) (by omega) (hb.same sG) ok ?_
      refine ⟨_, hD, szlt (by rw [List.length_map]; unfold lensL; rw [List.length_map, List.length_range]; omega), ?_, f.upd (by simp)⟩
      rw [upd_same, lensL_succ, List.map_append]
      rfl
    · rintro G ⟨hD, f⟩
      have sG : Same H G := fun b o ho => f _ _ (by simp [ne_of_none ho n1]) ho
      have ek : Int.toNat ((r : Int) + (k : Int) - (r : Int)) = k := by omega
      rw [ek] at hD
      walk_at "rd"
      refine ⟨_, _, rfl, SqL.of hD, ?_⟩
      rw [lensL_sum]
      exact q G sG

theorem ne_eq {i j : Int} {A B : Prop} (h : i = j) (b : B) : if (!decide (V.int i = V.int j)) = true then A else B := by
  subst h
  rw [decide_eq_true rfl]
  exact iteF b
@[irreducible] def sp_Packing_page_of (K : PySem.W.Frag) : Sp := fun vs H Q _ => ∃ (a : Addr) (p : Prt) (first pages r : Nat), vs = [.ref a, .int r] ∧ PkAt K H a p first pages ∧ p.Ok ∧ Cyc p first pages ∧ r < 1000000000000000000000000000000 ∧ ∀ n H', On p r n → Same H H' → Q (.int n) H'
theorem use_page_of {K : PySem.W.Frag} {a : Addr} {p : Prt} {first pages r : Nat} {H : Hp} {Q : VK} {E : XK} {i : Int} (hi : i = (r : Int)) (h : PkAt K H a p first pages) (ok : p.Ok) (c : Cyc p first pages) (hr : r < 1000000000000000000000000000000)
  (k : ∀ n H', On p r n → Same H H' → Q (.int n) H') : sp_Packing_page_of K [.ref a, .int i] H Q E := by subst hi; unfold sp_Packing_page_of; exact ⟨a, p, first, pages, r, rfl, h, ok, c, hr, k⟩
theorem b_Packing_page_of {K : PySem.W.Frag} {fd : FuncData} (F : F_Packing_page_of K fd) : Binds K fd P_Packing_page_of [] := FunD.bindsN F fun _ _ _ _ _ _ us hl => match us, hl with | [_, _], _ => rfl
theorem ok_Packing_page_of (T : Txt K mg D) : FnOk P w K mg base CX0 4 (He.fAd K ("Packing", some "page_of")) (D D_Packing_page_of) P_Packing_page_of (sp_Packing_page_of K) := by
  refine T.d_Packing_page_of.ok sc_Packing_page_of (fun vs H Q E h => ?_) (fun cdv A outer s H vs Q E hr h => ?_)
  · unfold sp_Packing_page_of at h
    first | (obtain ⟨rfl, _⟩ := h; rfl) | (obtain ⟨_, rfl, _⟩ := h; rfl) | (obtain ⟨_, _, rfl, _⟩ := h; rfl) | (obtain ⟨_, _, _, rfl, _⟩ := h; rfl) | (obtain ⟨_, _, _, _, rfl, _⟩ := h; rfl) | (obtain ⟨_, _, _, _, _, rfl, _⟩ := h; rfl) | (obtain ⟨_, _, _, _, _, _, rfl, _⟩ := h; rfl) | (obtain ⟨_, _, _, _, _, _, _, rfl, _⟩ := h; rfl) | (obtain ⟨_, _, _, _, _, _, _, _, rfl, _⟩ := h; rfl) | (obtain ⟨_, _, _, _, _, _, _, _, _, rfl, _⟩ := h; rfl) | (obtain ⟨_, _, _, _, _, _, _, _, _, _, rfl, _⟩ := h; rfl) | (obtain ⟨_, _, _, _, _, _, _, _, _, _, _, rfl, _⟩ := h; rfl)
  · refine ⟨_, PSs.nox (pss_cons (ps_expr (pe_call (ok_check_row T) (hr.mono (by decide)) rfl T.g_check_row T.d_check_row.kp (b_check_row_1 T.d_check_row).choose_spec.2 (b_check_row_1 T.d_check_row).choose_spec.1 pass0 (pa_cons (pv 1) pa_nil)))
      (pss_one (ps_ret (pe_meth (pv 0) T.c_Packing T.m_Packing_holder (ok_Packing_holder T) (hr.mono (by decide)) (b_Packing_holder T.d_Packing_holder) .nil pass0 (pa_cons (pv 1) pa_nil))))), ?_⟩
    unfold sp_Packing_page_of at h
    obtain ⟨a, p, first, pages, r, rfl, hpk, ok, c, hr, k⟩ := h
    obtain ⟨dx, t, l, h1, h2, h3⟩ := id hpk
    walk_at "rd"
    refine use_check_row ⟨by omega, by omega⟩ ?_
    walk_at "rd"
    refine use_holder rfl hpk ok c fun n G on g => ?_
    exact k n G on g

@[irreducible] def sp_Packing_begun (K : PySem.W.Frag) : Sp := fun vs H Q _ => ∃ (a : Addr) (p : Prt) (first pages r : Nat), vs = [.ref a, .int r] ∧ PkAt K H a p first pages ∧ p.Ok ∧ Cyc p first pages ∧ r ≤ 1000000000000000000000000000000 ∧
  (r = 0 → ∀ H', Same H H' → Q (.int 0) H') ∧ ∀ n H', 0 < r → On p (r - 1) n → Same H H' → Q (.int ((n : Int) + 1)) H'
theorem use_begun {K : PySem.W.Frag} {a : Addr} {p : Prt} {first pages r : Nat} {H : Hp} {Q : VK} {E : XK} {i : Int} (hi : i = (r : Int)) (h : PkAt K H a p first pages) (ok : p.Ok) (c : Cyc p first pages) (hr : r ≤ 1000000000000000000000000000000)
  (k0 : r = 0 → ∀ H', Same H H' → Q (.int 0) H') (k : ∀ n H', 0 < r → On p (r - 1) n → Same H H' → Q (.int ((n : Int) + 1)) H') : sp_Packing_begun K [.ref a, .int i] H Q E := by subst hi; unfold sp_Packing_begun; exact ⟨a, p, first, pages, r, rfl, h, ok, c, hr, k0, k⟩
theorem b_Packing_begun {K : PySem.W.Frag} {fd : FuncData} (F : F_Packing_begun K fd) : Binds K fd P_Packing_begun [] := FunD.bindsN F fun _ _ _ _ _ _ us hl => match us, hl with | [_, _], _ => rfl
theorem ok_Packing_begun (T : Txt K mg D) : FnOk P w K mg base CX0 4 (He.fAd K ("Packing", some "begun")) (D D_Packing_begun) P_Packing_begun (sp_Packing_begun K) := by
  refine T.d_Packing_begun.ok sc_Packing_begun (fun vs H Q E h => ?_) (fun cdv A outer s H vs Q E hr h => ?_)
  · unfold sp_Packing_begun at h
    first | (obtain ⟨rfl, _⟩ := h; rfl) | (obtain ⟨_, rfl, _⟩ := h; rfl) | (obtain ⟨_, _, rfl, _⟩ := h; rfl) | (obtain ⟨_, _, _, rfl, _⟩ := h; rfl) | (obtain ⟨_, _, _, _, rfl, _⟩ := h; rfl) | (obtain ⟨_, _, _, _, _, rfl, _⟩ := h; rfl) | (obtain ⟨_, _, _, _, _, _, rfl, _⟩ := h; rfl) | (obtain ⟨_, _, _, _, _, _, _, rfl, _⟩ := h; rfl) | (obtain ⟨_, _, _, _, _, _, _, _, rfl, _⟩ := h; rfl) | (obtain ⟨_, _, _, _, _, _, _, _, _, rfl, _⟩ := h; rfl) | (obtain ⟨_, _, _, _, _, _, _, _, _, _, rfl, _⟩ := h; rfl) | (obtain ⟨_, _, _, _, _, _, _, _, _, _, _, rfl, _⟩ := h; rfl)
  · refine ⟨_, PSs.nox (pss_cons (ps_expr (pe_call (ok_check_moment T) (hr.mono (by decide)) rfl T.g_check_moment T.d_check_moment.kp (b_check_moment T.d_check_moment) .nil pass0 (pa_cons (pv 1) pa_nil)))
      (pss_one (ps_ret (pe_ifExp (pt_cmpR op_eq (pv 1) pe_int (nomark _)) pe_int (pe_op op_add (pe_meth (pv 0) T.c_Packing T.m_Packing_holder (ok_Packing_holder T) (hr.mono (by decide)) (b_Packing_holder T.d_Packing_holder) .nil pass0 (pa_cons (pe_op op_sub (pv 1) pe_int) pa_nil)) pe_int))))), ?_⟩
    unfold sp_Packing_begun at h
    obtain ⟨a, p, first, pages, r, rfl, hpk, ok, c, hr, k0, k⟩ := h
    obtain ⟨dx, t, l, h1, h2, h3⟩ := id hpk
    walk_at "rd"
    refine use_check_moment ⟨by omega, by omega⟩ ?_
    walk_at "rd"
    refine iteB (fun d => ?_) (fun d => ?_)
    · have d : r = 0 := by simp at d; omega
      walk_at "rd"
      exact k0 d H (Same.refl H)
    · have d : 0 < r := by simp at d; omega
      walk_at "rd"
      refine use_holder (r := r - 1) (by omega) hpk ok c fun n G on g => ?_
      walk_at "rd"
      exact k n G d on g

@[irreducible] def sp_Packing_first_row (K : PySem.W.Frag) : Sp := fun vs H Q _ => ∃ (a : Addr) (p : Prt) (first pages n : Nat), vs = [.ref a, .int n] ∧ PkAt K H a p first pages ∧ p.Ok ∧ Cyc p first pages ∧ startN p n < 1000000000000000000000000000000 ∧ ∀ H', Same H H' → Q (.int (startN p n)) H'
theorem use_first_row {K : PySem.W.Frag} {a : Addr} {p : Prt} {first pages n : Nat} {H : Hp} {Q : VK} {E : XK} {i : Int} (hi : i = (n : Int)) (h : PkAt K H a p first pages) (ok : p.Ok) (c : Cyc p first pages) (hn : startN p n < 1000000000000000000000000000000)
  (k : ∀ H', Same H H' → Q (.int (startN p n)) H') : sp_Packing_first_row K [.ref a, .int i] H Q E := by subst hi; unfold sp_Packing_first_row; exact ⟨a, p, first, pages, n, rfl, h, ok, c, hn, k⟩
theorem b_Packing_first_row {K : PySem.W.Frag} {fd : FuncData} (F : F_Packing_first_row K fd) : Binds K fd P_Packing_first_row [] := FunD.bindsN F fun _ _ _ _ _ _ us hl => match us, hl with | [_, _], _ => rfl
theorem ok_Packing_first_row (T : Txt K mg D) : FnOk P w K mg base CX0 3 (He.fAd K ("Packing", some "first_row")) (D D_Packing_first_row) P_Packing_first_row (sp_Packing_first_row K) := by
  refine T.d_Packing_first_row.ok sc_Packing_first_row (fun vs H Q E h => ?_) (fun cdv A outer s H vs Q E hr h => ?_)
  · unfold sp_Packing_first_row at h
    first | (obtain ⟨rfl, _⟩ := h; rfl) | (obtain ⟨_, rfl, _⟩ := h; rfl) | (obtain ⟨_, _, rfl, _⟩ := h; rfl) | (obtain ⟨_, _, _, rfl, _⟩ := h; rfl) | (obtain ⟨_, _, _, _, rfl, _⟩ := h; rfl) | (obtain ⟨_, _, _, _, _, rfl, _⟩ := h; rfl) | (obtain ⟨_, _, _, _, _, _, rfl, _⟩ := h; rfl) | (obtain ⟨_, _, _, _, _, _, _, rfl, _⟩ := h; rfl) | (obtain ⟨_, _, _, _, _, _, _, _, rfl, _⟩ := h; rfl) | (obtain ⟨_, _, _, _, _, _, _, _, _, rfl, _⟩ := h; rfl) | (obtain ⟨_, _, _, _, _, _, _, _, _, _, rfl, _⟩ := h; rfl) | (obtain ⟨_, _, _, _, _, _, _, _, _, _, _, rfl, _⟩ := h; rfl)
  · refine ⟨_, PSs.nox (pss_cons (ps_expr (pe_meth (pv 0) T.c_Packing T.m_Packing_check_page (ok_Packing_check_page T) (hr.mono (by decide)) (b_Packing_check_page T.d_Packing_check_page) .nil pass0 (pa_cons (pv 1) pa_nil)))
      (pss_one (ps_ret (pe_meth (pv 0) T.c_Packing T.m_Packing_start (ok_Packing_start T) (hr.mono (by decide)) (b_Packing_start T.d_Packing_start) .nil pass0 (pa_cons (pv 1) pa_nil))))), ?_⟩
    unfold sp_Packing_first_row at h
    obtain ⟨a, p, first, pages, n, rfl, hpk, ok, c, hn, k⟩ := h
    obtain ⟨dx, t, l, h1, h2, h3⟩ := id hpk
    walk_at "rd"
    refine use_check_page rfl hpk ok c hn fun G g => ?_
    have h1' := g _ _ h1
    walk_at "rd"
    refine use_start rfl (hpk.same g) ok c fun G2 g2 => ?_
    exact k G2 (g.trans g2)

@[irreducible] def sp_Packing_rows_on (K : PySem.W.Frag) : Sp := fun vs H Q _ => ∃ (a : Addr) (p : Prt) (first pages n : Nat), vs = [.ref a, .int n] ∧ PkAt K H a p first pages ∧ p.Ok ∧ Cyc p first pages ∧ startN p n < 1000000000000000000000000000000 ∧ ∀ H', Same H H' → Q (.int (rowsF p (startN p n))) H'
theorem use_rows_on {K : PySem.W.Frag} {a : Addr} {p : Prt} {first pages n : Nat} {H : Hp} {Q : VK} {E : XK} {i : Int} (hi : i = (n : Int)) (h : PkAt K H a p first pages) (ok : p.Ok) (c : Cyc p first pages) (hn : startN p n < 1000000000000000000000000000000)
  (k : ∀ H', Same H H' → Q (.int (rowsF p (startN p n))) H') : sp_Packing_rows_on K [.ref a, .int i] H Q E := by subst hi; unfold sp_Packing_rows_on; exact ⟨a, p, first, pages, n, rfl, h, ok, c, hn, k⟩
theorem b_Packing_rows_on {K : PySem.W.Frag} {fd : FuncData} (F : F_Packing_rows_on K fd) : Binds K fd P_Packing_rows_on [] := FunD.bindsN F fun _ _ _ _ _ _ us hl => match us, hl with | [_, _], _ => rfl
theorem ok_Packing_rows_on (T : Txt K mg D) : FnOk P w K mg base CX0 3 (He.fAd K ("Packing", some "rows_on")) (D D_Packing_rows_on) P_Packing_rows_on (sp_Packing_rows_on K) := by
  refine T.d_Packing_rows_on.ok sc_Packing_rows_on (fun vs H Q E h => ?_) (fun cdv A outer s H vs Q E hr h => ?_)
  · unfold sp_Packing_rows_on at h
    first | (obtain ⟨rfl, _⟩ := h; rfl) | (obtain ⟨_, rfl, _⟩ := h; rfl) | (obtain ⟨_, _, rfl, _⟩ := h; rfl) | (obtain ⟨_, _, _, rfl, _⟩ := h; rfl) | (obtain ⟨_, _, _, _, rfl, _⟩ := h; rfl) | (obtain ⟨_, _, _, _, _, rfl, _⟩ := h; rfl) | (obtain ⟨_, _, _, _, _, _, rfl, _⟩ := h; rfl) | (obtain ⟨_, _, _, _, _, _, _, rfl, _⟩ := h; rfl) | (obtain ⟨_, _, _, _, _, _, _, _, rfl, _⟩ := h; rfl) | (obtain ⟨_, _, _, _, _, _, _, _, _, rfl, _⟩ := h; rfl) | (obtain ⟨_, _, _, _, _, _, _, _, _, _, rfl, _⟩ := h; rfl) | (obtain ⟨_, _, _, _, _, _, _, _, _, _, _, rfl, _⟩ := h; rfl)
  · refine ⟨_, PSs.nox (pss_cons (ps_expr (pe_meth (pv 0) T.c_Packing T.m_Packing_check_page (ok_Packing_check_page T) (hr.mono (by decide)) (b_Packing_check_page T.d_Packing_check_page) .nil pass0 (pa_cons (pv 1) pa_nil)))
      (pss_one (ps_ret (pe_op op_sub (pe_meth (pv 0) T.c_Packing T.m_Packing_start (ok_Packing_start T) (hr.mono (by decide)) (b_Packing_start T.d_Packing_start) .nil pass0 (pa_cons (pe_op op_add (pv 1) pe_int) pa_nil)) (pe_meth (pv 0) T.c_Packing T.m_Packing_start (ok_Packing_start T) (hr.mono (by decide)) (b_Packing_start T.d_Packing_start) .nil pass0 (pa_cons (pv 1) pa_nil)))))), ?_⟩
    unfold sp_Packing_rows_on at h
    obtain ⟨a, p, first, pages, n, rfl, hpk, ok, c, hn, k⟩ := h
    obtain ⟨dx, t, l, h1, h2, h3⟩ := id hpk
    walk_at "rd"
    refine use_check_page rfl hpk ok c hn fun G g => ?_
    have h1' := g _ _ h1
    walk_at "rd"
    refine use_start (n := n + 1) rfl (hpk.same g) ok c fun G2 g2 => ?_
    have h1'' := g2 _ _ h1'
    walk_at "rd"
    refine use_start rfl (hpk.same (g.trans g2)) ok c fun G3 g3 => ?_
    have e : ((startN p (n + 1) : Nat) : Int) - (startN p n : Int) = (rowsF p (startN p n) : Int) := by simp only [startN]; omega
    have q := k G3 ((g.trans g2).trans g3)
    rw [← e] at q
    walk_at "rd"
    exact q

@[irreducible] def sp_Packing_units_on (K : PySem.W.Frag) : Sp := fun vs H Q _ => ∃ (a : Addr) (p : Prt) (first pages n : Nat), vs = [.ref a, .int n] ∧ PkAt K H a p first pages ∧ p.Ok ∧ Cyc p first pages ∧ startN p n < 1000000000000000000000000000000 ∧ ∀ H', Same H H' → Q (.int (usum p (startN p n) (rowsF p (startN p n)))) H'
theorem use_units_on {K : PySem.W.Frag} {a : Addr} {p : Prt} {first pages n : Nat} {H : Hp} {Q : VK} {E : XK} {i : Int} (hi : i = (n : Int)) (h : PkAt K H a p first pages) (ok : p.Ok) (c : Cyc p first pages) (hn : startN p n < 1000000000000000000000000000000)
  (k : ∀ H', Same H H' → Q (.int (usum p (startN p n) (rowsF p (startN p n)))) H') : sp_Packing_units_on K [.ref a, .int i] H Q E := by subst hi; unfold sp_Packing_units_on; exact ⟨a, p, first, pages, n, rfl, h, ok, c, hn, k⟩
theorem b_Packing_units_on {K : PySem.W.Frag} {fd : FuncData} (F : F_Packing_units_on K fd) : Binds K fd P_Packing_units_on [] := FunD.bindsN F fun _ _ _ _ _ _ us hl => match us, hl with | [_, _], _ => rfl
theorem ok_Packing_units_on (T : Txt K mg D) : FnOk P w K mg base CX0 3 (He.fAd K ("Packing", some "units_on")) (D D_Packing_units_on) P_Packing_units_on (sp_Packing_units_on K) := by
  refine T.d_Packing_units_on.ok sc_Packing_units_on (fun vs H Q E h => ?_) (fun cdv A outer s H vs Q E hr h => ?_)
  · unfold sp_Packing_units_on at h
    first | (obtain ⟨rfl, _⟩ := h; rfl) | (obtain ⟨_, rfl, _⟩ := h; rfl) | (obtain ⟨_, _, rfl, _⟩ := h; rfl) | (obtain ⟨_, _, _, rfl, _⟩ := h; rfl) | (obtain ⟨_, _, _, _, rfl, _⟩ := h; rfl) | (obtain ⟨_, _, _, _, _, rfl, _⟩ := h; rfl) | (obtain ⟨_, _, _, _, _, _, rfl, _⟩ := h; rfl) | (obtain ⟨_, _, _, _, _, _, _, rfl, _⟩ := h; rfl) | (obtain ⟨_, _, _, _, _, _, _, _, rfl, _⟩ := h; rfl) | (obtain ⟨_, _, _, _, _, _, _, _, _, rfl, _⟩ := h; rfl) | (obtain ⟨_, _, _, _, _, _, _, _, _, _, rfl, _⟩ := h; rfl) | (obtain ⟨_, _, _, _, _, _, _, _, _, _, _, rfl, _⟩ := h; rfl)
  · refine ⟨_, PSs.nox (pss_cons (ps_expr (pe_meth (pv 0) T.c_Packing T.m_Packing_check_page (ok_Packing_check_page T) (hr.mono (by decide)) (b_Packing_check_page T.d_Packing_check_page) .nil pass0 (pa_cons (pv 1) pa_nil)))
      (pss_one (ps_ret (pe_meth (pv 0) T.c_Packing T.m_Packing_units_of (ok_Packing_units_of T) (hr.mono (by decide)) (b_Packing_units_of T.d_Packing_units_of) .nil pass0 (pa_cons (pe_meth (pv 0) T.c_Packing T.m_Packing_start (ok_Packing_start T) (hr.mono (by decide)) (b_Packing_start T.d_Packing_start) .nil pass0 (pa_cons (pv 1) pa_nil)) (pa_cons (pe_meth (pv 0) T.c_Packing T.m_Packing_start (ok_Packing_start T) (hr.mono (by decide)) (b_Packing_start T.d_Packing_start) .nil pass0 (pa_cons (pe_op op_add (pv 1) pe_int) pa_nil)) pa_nil)))))), ?_⟩
    unfold sp_Packing_units_on at h
    obtain ⟨a, p, first, pages, n, rfl, hpk, ok, c, hn, k⟩ := h
    obtain ⟨dx, t, l, h1, h2, h3⟩ := id hpk
    walk_at "rd"
    refine use_check_page rfl hpk ok c hn fun G g => ?_
    have h1' := g _ _ h1
    walk_at "rd"
    refine use_start rfl (hpk.same g) ok c fun G2 g2 => ?_
    have h1'' := g2 _ _ h1'
    walk_at "rd"
    refine use_start (n := n + 1) rfl (hpk.same (g.trans g2)) ok c fun G3 g3 => ?_
    have hl := rowsF_le ok (startN p n)
    walk_at "rd"
    refine use_units_of (r := startN p n) (k := rowsF p (startN p n)) rfl (by simp only [startN]; omega) (pk_base (hpk.same ((g.trans g2).trans g3))) ok (by omega) fun G4 g4 => ?_
    exact k G4 (((g.trans g2).trans g3).trans g4)

@[irreducible] def sp_Packing_units_left (K : PySem.W.Frag) : Sp := fun vs H Q _ => ∃ (a : Addr) (p : Prt) (first pages r : Nat), vs = [.ref a, .int r] ∧ PkAt K H a p first pages ∧ p.Ok ∧ Cyc p first pages ∧ r < 1000000000000000000000000000000 ∧
  ∀ n H', On p r n → Same H H' → Q (.int (p.size - usum p (startN p n) (r + 1 - startN p n))) H'
theorem use_units_left {K : PySem.W.Frag} {a : Addr} {p : Prt} {first pages r : Nat} {H : Hp} {Q : VK} {E : XK} {i : Int} (hi : i = (r : Int)) (h : PkAt K H a p first pages) (ok : p.Ok) (c : Cyc p first pages) (hr : r < 1000000000000000000000000000000)
  (k : ∀ n H', On p r n → Same H H' → Q (.int (p.size - usum p (startN p n) (r + 1 - startN p n))) H') : sp_Packing_units_left K [.ref a, .int i] H Q E := by subst hi; unfold sp_Packing_units_left; exact ⟨a, p, first, pages, r, rfl, h, ok, c, hr, k⟩
theorem b_Packing_units_left {K : PySem.W.Frag} {fd : FuncData} (F : F_Packing_units_left K fd) : Binds K fd P_Packing_units_left [] := FunD.bindsN F fun _ _ _ _ _ _ us hl => match us, hl with | [_, _], _ => rfl
theorem ok_Packing_units_left (T : Txt K mg D) : FnOk P w K mg base CX0 4 (He.fAd K ("Packing", some "units_left")) (D D_Packing_units_left) P_Packing_units_left (sp_Packing_units_left K) := by
  refine T.d_Packing_units_left.ok sc_Packing_units_left (fun vs H Q E h => ?_) (fun cdv A outer s H vs Q E hr h => ?_)
  · unfold sp_Packing_units_left at h
    first | (obtain ⟨rfl, _⟩ := h; rfl) | (obtain ⟨_, rfl, _⟩ := h; rfl) | (obtain ⟨_, _, rfl, _⟩ := h; rfl) | (obtain ⟨_, _, _, rfl, _⟩ := h; rfl) | (obtain ⟨_, _, _, _, rfl, _⟩ := h; rfl) | (obtain ⟨_, _, _, _, _, rfl, _⟩ := h; rfl) | (obtain ⟨_, _, _, _, _, _, rfl, _⟩ := h; rfl) | (obtain ⟨_, _, _, _, _, _, _, rfl, _⟩ := h; rfl) | (obtain ⟨_, _, _, _, _, _, _, _, rfl, _⟩ := h; rfl) | (obtain ⟨_, _, _, _, _, _, _, _, _, rfl, _⟩ := h; rfl) | (obtain ⟨_, _, _, _, _, _, _, _, _, _, rfl, _⟩ := h; rfl) | (obtain ⟨_, _, _, _, _, _, _, _, _, _, _, rfl, _⟩ := h; rfl)
  · refine ⟨_, PSs.nox (pss_cons (ps_expr (pe_call (ok_check_row T) (hr.mono (by decide)) rfl T.g_check_row T.d_check_row.kp (b_check_row_1 T.d_check_row).choose_spec.2 (b_check_row_1 T.d_check_row).choose_spec.1 pass0 (pa_cons (pv 1) pa_nil)))
      (pss_one (ps_ret (pe_op op_sub (pe_fldK (K := K) (pv 0) rfl) (pe_meth (pv 0) T.c_Packing T.m_Packing_units_of (ok_Packing_units_of T) (hr.mono (by decide)) (b_Packing_units_of T.d_Packing_units_of) .nil pass0 (pa_cons (pe_meth (pv 0) T.c_Packing T.m_Packing_start (ok_Packing_start T) (hr.mono (by decide)) (b_Packing_start T.d_Packing_start) .nil pass0 (pa_cons (pe_meth (pv 0) T.c_Packing T.m_Packing_holder (ok_Packing_holder T) (hr.mono (by decide)) (b_Packing_holder T.d_Packing_holder) .nil pass0 (pa_cons (pv 1) pa_nil)) pa_nil)) (pa_cons (pe_op op_add (pv 1) pe_int) pa_nil))))))), ?_⟩
    unfold sp_Packing_units_left at h
    obtain ⟨a, p, first, pages, r, rfl, hpk, ok, c, hr, k⟩ := h
    obtain ⟨dx, t, l, h1, h2, h3⟩ := id hpk
    walk_at "rd"
    refine use_check_row ⟨by omega, by omega⟩ ?_
    walk_at "rd"
    refine use_holder rfl hpk ok c fun n G on g => ?_
    have h1' := g _ _ h1
    walk_at "rd"
    refine use_start rfl (hpk.same g) ok c fun G2 g2 => ?_
    have hl := rowsF_le ok (startN p n)
    have o1 := on.1
    have o2 := on.2
    have o3 : startN p (n + 1) = startN p n + rowsF p (startN p n) := rfl
    walk_at "rd"
    refine use_units_of (r := startN p n) (k := r + 1 - startN p n) rfl (by omega) (pk_base (hpk.same (g.trans g2))) ok (by omega) fun G3 g3 => ?_
    walk_at "rd"
    exact k n G3 on ((g.trans g2).trans g3)

theorem begun_start {p : Prt} (ok : p.Ok) {N n : Nat} (h0 : 0 < startN p N) (on : On p (startN p N - 1) n) : n + 1 = N := by
  match N, h0, on with
  | 0, h0, _ => exact absurd h0 (by simp [startN])
  | m + 1, _, on =>
    have := start_lt ok m
    have : n = m := on.uniq ok ⟨by omega, by omega⟩
    omega
theorem bl_eq {i j : Int} {Q : VK} {H : Hp} (h : i = j) (q : Q (.bl true) H) : Q (.bl (decide (V.int i = V.int j))) H := by
  subst h
  rw [decide_eq_true rfl]
  exact q
theorem use_begun_start {K : PySem.W.Frag} {a : Addr} {p : Prt} {first pages N : Nat} {H : Hp} {Q : VK} {E : XK} {i : Int} (hi : i = (startN p N : Int)) (h : PkAt K H a p first pages) (ok : p.Ok) (c : Cyc p first pages) (hr : startN p N ≤ 1000000000000000000000000000000)
  (k : ∀ H', Same H H' → Q (.int N) H') : sp_Packing_begun K [.ref a, .int i] H Q E := by
  refine use_begun (r := startN p N) hi h ok c hr (fun h0 G g => ?_) fun n G h0 on g => ?_
  · have hN0 : N = 0 := by have := start_ge ok N; omega
    have q := k G g
    rw [hN0] at q
    exact q
  · have e := begun_start ok h0 on
    have q := k G g
    rw [← e] at q
    exact q
@[irreducible] def sp_Packing_cycle (K : PySem.W.Frag) : Sp := fun vs H Q _ => ∃ (a : Addr) (p : Prt) (first pages : Nat), vs = [.ref a] ∧ PkAt K H a p first pages ∧ ∀ q H', H q = none → Same H H' →
  H' q = some (.tup [.int first, .int pages, .int ((startN p (first + pages) : Int) - startN p first)]) → Q (.ref q) H'
theorem use_cycle {K : PySem.W.Frag} {a : Addr} {p : Prt} {first pages : Nat} {H : Hp} {Q : VK} {E : XK} (h : PkAt K H a p first pages) (k : ∀ q H', H q = none → Same H H' →
  H' q = some (.tup [.int first, .int pages, .int ((startN p (first + pages) : Int) - startN p first)]) → Q (.ref q) H') : sp_Packing_cycle K [.ref a] H Q E := by unfold sp_Packing_cycle; exact ⟨a, p, first, pages, rfl, h, k⟩
theorem b_Packing_cycle {K : PySem.W.Frag} {fd : FuncData} (F : F_Packing_cycle K fd) : Binds K fd P_Packing_cycle [] := FunD.bindsN F fun _ _ _ _ _ _ us hl => match us, hl with | [_], _ => rfl
theorem ok_Packing_cycle (T : Txt K mg D) : FnOk P w K mg base CX0 1 (He.fAd K ("Packing", some "cycle")) (D D_Packing_cycle) P_Packing_cycle (sp_Packing_cycle K) := by
  refine T.d_Packing_cycle.ok sc_Packing_cycle (fun vs H Q E h => ?_) (fun cdv A outer s H vs Q E hr h => ?_)
  · unfold sp_Packing_cycle at h
    first | (obtain ⟨rfl, _⟩ := h; rfl) | (obtain ⟨_, rfl, _⟩ := h; rfl) | (obtain ⟨_, _, rfl, _⟩ := h; rfl) | (obtain ⟨_, _, _, rfl, _⟩ := h; rfl) | (obtain ⟨_, _, _, _, rfl, _⟩ := h; rfl) | (obtain ⟨_, _, _, _, _, rfl, _⟩ := h; rfl) | (obtain ⟨_, _, _, _, _, _, rfl, _⟩ := h; rfl) | (obtain ⟨_, _, _, _, _, _, _, rfl, _⟩ := h; rfl) | (obtain ⟨_, _, _, _, _, _, _, _, rfl, _⟩ := h; rfl) | (obtain ⟨_, _, _, _, _, _, _, _, _, rfl, _⟩ := h; rfl) | (obtain ⟨_, _, _, _, _, _, _, _, _, _, rfl, _⟩ := h; rfl) | (obtain ⟨_, _, _, _, _, _, _, _, _, _, _, rfl, _⟩ := h; rfl)
  · refine ⟨_, PSs.nox (pss_one (ps_ret (pe_tup (pa_cons (pe_fldK (K := K) (pv 0) rfl) (pa_cons (pe_fldK (K := K) (pv 0) rfl) (pa_cons (pe_fldK (K := K) (pv 0) rfl) pa_nil)))))), ?_⟩
    unfold sp_Packing_cycle at h
    obtain ⟨a, p, first, pages, rfl, ⟨dx, t, l, h1, h2, h3⟩, k⟩ := h
    walk_at "rd"
    intro q n1
    generalize eH1 : upd _ q _ = H1
    obtain ⟨s1, c1⟩ := gen_new n1 eH1
    clear eH1
    exact k q H1 n1 s1 c1

theorem on_ex {p : Prt} (ok : p.Ok) : ∀ r, ∃ n, On p r n
  | 0 => ⟨0, Nat.le_refl _, start_lt ok 0⟩
  | r + 1 => by
    obtain ⟨n, h1, h2⟩ := on_ex ok r
    by_cases h : r + 1 < startN p (n + 1)
    · exact ⟨n, by omega, h⟩
    · exact ⟨n + 1, by omega, by have := start_lt ok (n + 1); omega⟩
/-- packings that go alike, the units of the other so many times as great -/
structure Alk (p q : Prt) (t : Int) : Prop where
  st : ∀ n, startN q n = startN p n
  rw : ∀ r, rowsF q r = rowsF p r
  us : ∀ r k, usum q r k = t * usum p r k
theorem Alk.on {p q : Prt} {t : Int} (a : Alk p q t) {r n : Nat} (h : On p r n) : On q r n := by
  unfold On at h ⊢
  rw [a.st, a.st]
  exact h
theorem alk_of {p q : Prt} {t : Int} (hr : ∀ r, rowsF q r = rowsF p r) (hu : ∀ r k, usum q r k = t * usum p r k) : Alk p q t := by
  refine ⟨fun n => ?_, hr, hu⟩
  induction n with
  | zero => rfl
  | succ n ih => simp only [startN]; rw [ih, hr]
theorem alk_times {p q : Prt} {t x : Int} (ok : p.Ok) (ok2 : q.Ok) (h0 : 0 < t) (hl : q.lens = p.lens.map (· * t)) (hs : q.size = p.size * t + x) (hx : 0 ≤ x ∧ x < t) : Alk p q t := by
  have len : ∀ r, lenAt q r = lenAt p r * t := fun r => by
    unfold lenAt
    rw [hl, List.length_map, List.getD_eq_getElem?_getD, List.getD_eq_getElem?_getD, List.getElem?_map]
    cases p.lens[r % p.lens.length]? with
    | none => simp
    | some v => rfl
  have us : ∀ r k, usum q r k = t * usum p r k := fun r k => by
    induction k with
    | zero => simp [usum]
    | succ k ih => simp only [usum]; rw [ih, len, Int.mul_add, Int.mul_comm t (lenAt p (r + k))]
  refine alk_of (fun r => rowsF_eq ok2 ?_) us
  have f := rowsF_ok ok r
  have m1 := Int.mul_le_mul_of_nonneg_left f.1 (Int.le_of_lt h0)
  have m2 := Int.mul_le_mul_of_nonneg_left (show p.size + 1 ≤ usum p r (rowsF p r + 1) from f.2) (Int.le_of_lt h0)
  rw [Int.mul_add, Int.mul_one] at m2
  rw [Int.mul_comm t p.size] at m1 m2
  refine ⟨?_, ?_⟩
  · rw [us, hs]; omega
  · rw [us, hs]; omega
theorem alk_twice {p q : Prt} (ok : p.Ok) (ok2 : q.Ok) (hl : q.lens = p.lens ++ p.lens) (hs : q.size = p.size) : Alk p q 1 := by
  have l0 := ok.l0
  have len : ∀ r, lenAt q r = lenAt p r := fun r => by
    unfold lenAt
    rw [hl, List.length_append, List.getD_eq_getElem?_getD, List.getD_eq_getElem?_getD]
    have hm : r % (p.lens.length + p.lens.length) % p.lens.length = r % p.lens.length := Nat.mod_mod_of_dvd r ⟨2, by omega⟩
    have hlt : r % (p.lens.length + p.lens.length) < p.lens.length + p.lens.length := Nat.mod_lt _ (by omega)
    by_cases h : r % (p.lens.length + p.lens.length) < p.lens.length
    · rw [Nat.mod_eq_of_lt h] at hm
      rw [List.getElem?_append_left h, hm]
    · rw [List.getElem?_append_right (by omega)]
      have e : r % (p.lens.length + p.lens.length) = (r % (p.lens.length + p.lens.length) - p.lens.length) + p.lens.length := by omega
      rw [e, Nat.add_mod_right, Nat.mod_eq_of_lt (by omega)] at hm
      rw [hm]
  have us : ∀ r k, usum q r k = 1 * usum p r k := fun r k => by
    rw [Int.one_mul]
    induction k with
    | zero => rfl
    | succ k ih => simp only [usum]; rw [ih, len]
  refine alk_of (fun r => rowsF_eq ok2 ?_) us
  have f := rowsF_ok ok r
  refine ⟨?_, ?_⟩
  · rw [us, hs, Int.one_mul]; exact f.1
  · rw [us, hs, Int.one_mul]; exact f.2
theorem Cyc.uniq {p : Prt} {f g f2 g2 : Nat} (a : Cyc p f g) (b : Cyc p f2 g2) : f = f2 ∧ g = g2 := by
  have hp := a.pos
  have hp2 := b.pos
  have e : f + g = f2 + g2 := by
    rcases Nat.lt_trichotomy (f + g) (f2 + g2) with h | h | h
    · exact absurd a.eq.symm (b.inj f (f + g) (by omega) h)
    · exact h
    · exact absurd b.eq.symm (a.inj f2 (f2 + g2) (by omega) h)
  have e2 : resN p f = resN p f2 := by rw [← a.eq, e, b.eq]
  rcases Nat.lt_trichotomy f f2 with h | h | h
  · exact absurd e2 (a.inj f f2 h (by omega))
  · omega
  · exact absurd e2.symm (a.inj f2 f h (by omega))
theorem cyc_res {p q : Prt} {f g : Nat} (h : ∀ n, resN q n = resN p n) (c : Cyc q f g) : Cyc p f g :=
  ⟨c.pos, by rw [← h, ← h]; exact c.eq, fun i j h1 h2 => by rw [← h, ← h]; exact c.inj i j h1 h2⟩
theorem cyc_twice {p q : Prt} (ok : p.Ok) (hl : q.lens.length = 2 * p.lens.length) (hs : ∀ n, startN q n = startN p n) {f g f2 g2 : Nat} (c : Cyc p f g) (c2 : Cyc q f2 g2) : f2 = f ∧ (g2 = g ∨ g2 = 2 * g) := by
  have l0 := ok.l0
  have hg := c.pos
  have down : ∀ i j, resN q i = resN q j → resN p i = resN p j := fun i j e => by
    unfold resN at e ⊢
    rw [hs, hs, hl] at e
    rw [← Nat.mod_mod_of_dvd (startN p i) (⟨2, by omega⟩ : p.lens.length ∣ 2 * p.lens.length), e, Nat.mod_mod_of_dvd _ ⟨2, by omega⟩]
  have eR := start_per ok c (Nat.le_refl f)
  have hR : rowsC p f g % p.lens.length = 0 := by
    have e := c.eq
    unfold resN at e
    have := Nat.sub_mod_eq_zero_of_mod_eq e
    rw [eR, Nat.add_sub_cancel_left] at this
    exact this
  by_cases hR2 : rowsC p f g % (2 * p.lens.length) = 0
  · have c3 : Cyc q f g := by
      refine ⟨hg, ?_, fun i j h1 h2 e => c.inj i j h1 h2 (down _ _ e)⟩
      unfold resN
      rw [hs, hs, hl, eR, Nat.add_mod, hR2, Nat.add_zero, Nat.mod_mod]
    have u := c2.uniq c3
    exact ⟨u.1, .inl u.2⟩
  · have c3 : Cyc q f (2 * g) := by
      refine ⟨by omega, ?_, fun i j h1 h2 e => ?_⟩
      · have e2 := start_times ok c (Nat.le_refl f) 2
        obtain ⟨d, hd⟩ := Nat.dvd_of_mod_eq_zero hR
        unfold resN
        rw [hs, hs, hl, e2, hd, show 2 * (p.lens.length * d) = 2 * p.lens.length * d by rw [Nat.mul_assoc], Nat.add_mul_mod_self_left]
      · have e1 := down _ _ e
        have hi : f ≤ i := by
          by_cases h : i < f
          · have := c.before ok h (show 1 ≤ j - i by omega)
            rw [show i + (j - i) = j by omega] at this
            exact absurd e1 this
          · omega
        have hj : f + g ≤ j := by
          by_cases h : j < f + g
          · exact absurd e1 (c.inj i j h1 h)
          · omega
        have pj := c.per ok (n := j - g) (by omega)
        rw [show j - g + g = j by omega] at pj
        by_cases h3 : f + g ≤ i
        · have pi := c.per ok (n := i - g) (by omega)
          rw [show i - g + g = i by omega] at pi
          exact absurd (pi.symm.trans (e1.trans pj)) (c.inj (i - g) (j - g) (by omega) (by omega))
        · have e3 : resN p i = resN p (j - g) := e1.trans pj
          have hij : i = j - g := by
            rcases Nat.lt_trichotomy i (j - g) with h | h | h
            · exact absurd e3 (c.inj i (j - g) h (by omega))
            · exact h
            · exact absurd e3.symm (c.inj (j - g) i h (by omega))
          have ej : startN p j = startN p i + rowsC p f g := by
            rw [show j = i + g by omega]
            exact start_per ok c hi
          unfold resN at e
          rw [hs, hs, hl] at e
          have := Nat.sub_mod_eq_zero_of_mod_eq e.symm
          rw [ej, Nat.add_sub_cancel_left] at this
          exact hR2 this
    have u := c2.uniq c3
    exact ⟨u.1, .inr u.2⟩
@[irreducible] def sp_law_right : Sp := fun vs H Q _ => ∃ (s : Addr), vs = [.ref s] ∧ Src H s ∧ ∀ H', SB s H H' → Src H' s → Q (.bl true) H'
theorem use_right {s : Addr} {H : Hp} {Q : VK} {E : XK} (h : Src H s) (k : ∀ H', SB s H H' → Src H' s → Q (.bl true) H') : sp_law_right [.ref s] H Q E := by unfold sp_law_right; exact ⟨s, rfl, h, k⟩
@[irreducible] def sp_law (K : PySem.W.Frag) : Sp := fun vs H Q _ => ∃ (a : Addr) (ns : List Int), vs = [.ref a] ∧ SqL K H a (ns.map V.int) ∧ ns.length ≤ 63 ∧ ∀ H', Q (.bl true) H'
@[irreducible] def sp_law_small : Sp := fun vs H Q _ => ∃ (s : Addr), vs = [.ref s] ∧ Src H s ∧ ∀ (q l : Addr) (lens : List Int) (room : Int) H', SB s H H' → Src H' s → q ≠ s → l ≠ s → H' q = some (.tup [.ref l, .int room]) → H' l = some (.lst (lens.map V.int)) →
  0 < lens.length → lens.length ≤ 3 → (∀ x ∈ lens, 1 ≤ x ∧ x ≤ room) → (1 ≤ room ∧ room ≤ 20) → Q (.ref q) H'
theorem use_small {s : Addr} {H : Hp} {Q : VK} {E : XK} (hs : Src H s) (k : ∀ (q l : Addr) (lens : List Int) (room : Int) H', SB s H H' → Src H' s → q ≠ s → l ≠ s → H' q = some (.tup [.ref l, .int room]) → H' l = some (.lst (lens.map V.int)) →
  0 < lens.length → lens.length ≤ 3 → (∀ x ∈ lens, 1 ≤ x ∧ x ≤ room) → (1 ≤ room ∧ room ≤ 20) → Q (.ref q) H') : sp_law_small [.ref s] H Q E := by unfold sp_law_small; exact ⟨s, rfl, hs, k⟩
theorem b_law_small {K : PySem.W.Frag} {fd : FuncData} (F : F_law_small K fd) : Binds K fd P_law_small [] := FunD.bindsN F fun _ _ _ _ _ _ us hl => match us, hl with | [_], _ => rfl
theorem ok_law_small (T : Txt K mg D) : FnOk P w K mg base CX0 3 (He.fAd K ("_law_small", none)) (D D_law_small) P_law_small sp_law_small := by
  refine T.d_law_small.ok sc_law_small (fun vs H Q E h => ?_) (fun cdv A outer s H vs Q E hr h => ?_)
  · unfold sp_law_small at h
    first | (obtain ⟨rfl, _⟩ := h; rfl) | (obtain ⟨_, rfl, _⟩ := h; rfl) | (obtain ⟨_, _, rfl, _⟩ := h; rfl) | (obtain ⟨_, _, _, rfl, _⟩ := h; rfl) | (obtain ⟨_, _, _, _, rfl, _⟩ := h; rfl) | (obtain ⟨_, _, _, _, _, rfl, _⟩ := h; rfl) | (obtain ⟨_, _, _, _, _, _, rfl, _⟩ := h; rfl) | (obtain ⟨_, _, _, _, _, _, _, rfl, _⟩ := h; rfl) | (obtain ⟨_, _, _, _, _, _, _, _, rfl, _⟩ := h; rfl) | (obtain ⟨_, _, _, _, _, _, _, _, _, rfl, _⟩ := h; rfl) | (obtain ⟨_, _, _, _, _, _, _, _, _, _, rfl, _⟩ := h; rfl) | (obtain ⟨_, _, _, _, _, _, _, _, _, _, _, rfl, _⟩ := h; rfl)
  · refine ⟨_, PSs.nox (pss_cons (ps_set (i := 1) sc_law_small.nd rfl (Or.inr rfl) (pe_op op_add pe_int (pe_call (ok_law_draw T) (hr.mono (by decide)) rfl T.g_law_draw T.d_law_draw.kp (b_law_draw T.d_law_draw) .nil pass0 (pa_cons (pv 0) (pa_cons pe_int pa_nil)))))
      (pss_one (ps_ret (pe_tup (pa_cons (pe_lc (own := [("k", 2)]) rfl sc_law_small.nd (pi_range1 (by rfl) T.n_range (pa_cons (pe_op op_add pe_int (pe_call (ok_law_draw T) (hr.mono (by decide)) rfl T.g_law_draw T.d_law_draw.kp (b_law_draw T.d_law_draw) .nil pass0 (pa_cons (pv 0) (pa_cons pe_int pa_nil)))) pa_nil)) (blkOk_by (N := N_law_small) (sc := defScope s_law_small) (by decide +kernel)) (fun _ _ _ _ _ => (pg_name (i := 2) sc_law_small.nd rfl (Or.inl rfl))) (fun _ _ _ _ _ => pts_nil) (fun _ _ _ _ _ => (pe_op op_add pe_int (pe_call (ok_law_draw T) (hr.mono (by decide)) rfl T.g_law_draw T.d_law_draw.kp (b_law_draw T.d_law_draw) .nil pass0 (pa_cons (pv 0) (pa_cons (pv 1) pa_nil)))))) (pa_cons (pv 1) pa_nil)))))), ?_⟩
    unfold sp_law_small at h
    obtain ⟨s, rfl, hs, k⟩ := h
    walk_at "rd"
    refine use_draw (by decide) (by decide) hs fun r H1 r0 r1 s1 hs1 => ?_
    walk_at "rd"
    refine use_draw (by decide) (by decide) hs1 fun d H2 d0 d1 s2 hs2 => ?_
    walk_at "rd"
    intro D n
    obtain ⟨y1, y2, y3, hy2⟩ := id hs2
    have hsD : s ≠ D := ne_of_none hy2 n
    refine lc_range (lo := 0) (n := Int.toNat _) (fun i G => ∃ xs : List Int, xs.length = i ∧ (∀ x ∈ xs, 1 ≤ x ∧ x ≤ 1 + r) ∧ G D = some (.lst (xs.map V.int)) ∧ SX [s, D] H2 G ∧ Src G s) ⟨[], rfl, fun x hx => (nomatch hx), upd_same, SX.refl.mut n, y1, y2, y3, by rw [upd_ne hsD]; exact hy2⟩ ?_ ?_
    · rintro i G hi ⟨xs, hl, hb, hD, f, hsG⟩
      refine ⟨rfl, ?_⟩
      walk_at "rd"
      refine use_draw (n := 1 + r) (by omega) (by omega) hsG fun d2 G2 e0 e1 f2 hsG2 => ?_
      walk_at "rd"
      obtain ⟨z1, z2, z3, hz⟩ := hsG2
      refine ⟨_, f2 _ _ hsD.symm hD, szlt (by rw [List.length_map]; omega), xs ++ [1 + d2], by rw [List.length_append, hl]; rfl, fun x hx => ?_, by rw [upd_same, List.map_append]; rfl, (f.trans (f2.sx (by simp))).upd (by simp), z1, z2, z3, by rw [upd_ne hsD]; exact hz⟩
      rcases List.mem_append.mp hx with h | h
      · exact hb x h
      · rw [List.mem_singleton.mp h]; omega
    · rintro G ⟨xs, hl, hb, hD, f, hsG⟩
      walk_at "rd"
      intro q n2
      generalize eG2 : upd _ q _ = G2
      obtain ⟨g2, b2⟩ := gen_new n2 eG2
      clear eG2
      obtain ⟨z1, z2, z3, hz⟩ := hsG
      refine k q D xs (1 + r) G2 ?_ ⟨z1, z2, z3, g2 _ _ hz⟩ (ne_of_none hz n2).symm hsD.symm b2 (g2 _ _ hD) (by omega) (by omega) hb (by omega)
      intro c o hc ho
      have o2 := s2 _ _ hc (s1 _ _ hc ho)
      exact g2 _ _ (f _ _ (by simp [hc, ne_of_none o2 n]) o2)

@[irreducible] def sp_law_rest : Sp := fun vs H Q _ => ∃ (s : Addr), vs = [.ref s] ∧ Src H s ∧ ∀ (q : Addr) (f r e k : Int) H', SB s H H' → Src H' s → q ≠ s → H' q = some (.lst [.int f, .int r, .int e, .int k]) →
  (2 ≤ f ∧ f ≤ 8) → (1 ≤ r ∧ r ≤ 16) → (1 ≤ e ∧ e ≤ 40) → (1 ≤ k ∧ k ≤ 100) → Q (.ref q) H'
theorem use_rest {s : Addr} {H : Hp} {Q : VK} {E : XK} (hs : Src H s) (k : ∀ (q : Addr) (f r e k : Int) H', SB s H H' → Src H' s → q ≠ s → H' q = some (.lst [.int f, .int r, .int e, .int k]) →
  (2 ≤ f ∧ f ≤ 8) → (1 ≤ r ∧ r ≤ 16) → (1 ≤ e ∧ e ≤ 40) → (1 ≤ k ∧ k ≤ 100) → Q (.ref q) H') : sp_law_rest [.ref s] H Q E := by unfold sp_law_rest; exact ⟨s, rfl, hs, k⟩
theorem b_law_rest {K : PySem.W.Frag} {fd : FuncData} (F : F_law_rest K fd) : Binds K fd P_law_rest [] := FunD.bindsN F fun _ _ _ _ _ _ us hl => match us, hl with | [_], _ => rfl
theorem ok_law_rest (T : Txt K mg D) : FnOk P w K mg base CX0 3 (He.fAd K ("_law_rest", none)) (D D_law_rest) P_law_rest sp_law_rest := by
  refine T.d_law_rest.ok sc_law_rest (fun vs H Q E h => ?_) (fun cdv A outer s H vs Q E hr h => ?_)
  · unfold sp_law_rest at h
    first | (obtain ⟨rfl, _⟩ := h; rfl) | (obtain ⟨_, rfl, _⟩ := h; rfl) | (obtain ⟨_, _, rfl, _⟩ := h; rfl) | (obtain ⟨_, _, _, rfl, _⟩ := h; rfl) | (obtain ⟨_, _, _, _, rfl, _⟩ := h; rfl) | (obtain ⟨_, _, _, _, _, rfl, _⟩ := h; rfl) | (obtain ⟨_, _, _, _, _, _, rfl, _⟩ := h; rfl) | (obtain ⟨_, _, _, _, _, _, _, rfl, _⟩ := h; rfl) | (obtain ⟨_, _, _, _, _, _, _, _, rfl, _⟩ := h; rfl) | (obtain ⟨_, _, _, _, _, _, _, _, _, rfl, _⟩ := h; rfl) | (obtain ⟨_, _, _, _, _, _, _, _, _, _, rfl, _⟩ := h; rfl) | (obtain ⟨_, _, _, _, _, _, _, _, _, _, _, rfl, _⟩ := h; rfl)
  · refine ⟨_, PSs.nox (pss_one (ps_ret (pe_lst (pa_cons (pe_op op_add pe_int (pe_call (ok_law_draw T) (hr.mono (by decide)) rfl T.g_law_draw T.d_law_draw.kp (b_law_draw T.d_law_draw) .nil pass0 (pa_cons (pv 0) (pa_cons pe_int pa_nil)))) (pa_cons (pe_op op_add pe_int (pe_call (ok_law_draw T) (hr.mono (by decide)) rfl T.g_law_draw T.d_law_draw.kp (b_law_draw T.d_law_draw) .nil pass0 (pa_cons (pv 0) (pa_cons pe_int pa_nil)))) (pa_cons (pe_op op_add pe_int (pe_call (ok_law_draw T) (hr.mono (by decide)) rfl T.g_law_draw T.d_law_draw.kp (b_law_draw T.d_law_draw) .nil pass0 (pa_cons (pv 0) (pa_cons pe_int pa_nil)))) (pa_cons (pe_op op_add pe_int (pe_call (ok_law_draw T) (hr.mono (by decide)) rfl T.g_law_draw T.d_law_draw.kp (b_law_draw T.d_law_draw) .nil pass0 (pa_cons (pv 0) (pa_cons pe_int pa_nil)))) pa_nil))))))), ?_⟩
    unfold sp_law_rest at h
    obtain ⟨s, rfl, hs, k⟩ := h
    walk_at "rd"
    refine use_draw (by decide) (by decide) hs fun d1 H1 a1 b1 s1 hs1 => ?_
    walk_at "rd"
    refine use_draw (by decide) (by decide) hs1 fun d2 H2 a2 b2 s2 hs2 => ?_
    walk_at "rd"
    refine use_draw (by decide) (by decide) hs2 fun d3 H3 a3 b3 s3 hs3 => ?_
    walk_at "rd"
    refine use_draw (by decide) (by decide) hs3 fun d4 H4 a4 b4 s4 hs4 => ?_
    walk_at "rd"
    intro q n
    generalize eG : upd _ q _ = G
    obtain ⟨g, b⟩ := gen_new n eG
    clear eG
    obtain ⟨z1, z2, z3, hz⟩ := hs4
    exact k q _ _ _ _ G ((((s1.trans s2).trans s3).trans s4).trans g.sb) ⟨z1, z2, z3, g _ _ hz⟩ (ne_of_none hz n).symm b (by omega) (by omega) (by omega) (by omega)

def Bg (p : Prt) (r : Nat) (N : Int) : Prop := (r = 0 ∧ N = 0) ∨ (0 < r ∧ ∃ n, On p (r - 1) n ∧ N = (n : Int) + 1)
theorem bg_ex {p : Prt} (ok : p.Ok) (r : Nat) : ∃ N, Bg p r N := by
  by_cases h : r = 0
  · exact ⟨0, .inl ⟨h, rfl⟩⟩
  · obtain ⟨n, on⟩ := on_ex ok (r - 1)
    exact ⟨_, .inr ⟨by omega, n, on, rfl⟩⟩
theorem Bg.alk {p q : Prt} {t : Int} (a : Alk p q t) {r : Nat} {N : Int} (h : Bg p r N) : Bg q r N := by
  rcases h with h | ⟨h0, n, on, e⟩
  · exact .inl h
  · exact .inr ⟨h0, n, a.on on, e⟩
theorem use_begunN {K : PySem.W.Frag} {a : Addr} {p : Prt} {first pages r : Nat} {N : Int} {H : Hp} {Q : VK} {E : XK} {i : Int} (hi : i = (r : Int)) (h : PkAt K H a p first pages) (ok : p.Ok) (c : Cyc p first pages) (hr : r ≤ 1000000000000000000000000000000) (hN : Bg p r N)
  (k : ∀ H', Same H H' → Q (.int N) H') : sp_Packing_begun K [.ref a, .int i] H Q E := by
  refine use_begun hi h ok c hr (fun h0 G g => ?_) fun n G h0 on g => ?_
  · rcases hN with ⟨_, e⟩ | ⟨h1, _⟩
    · have q := k G g
      rw [e] at q
      exact q
    · omega
  · rcases hN with ⟨h1, _⟩ | ⟨_, n2, on2, e⟩
    · omega
    · have q := k G g
      rw [e, ← on.uniq ok on2] at q
      exact q
@[irreducible] def sp_law_alike (K : PySem.W.Frag) : Sp := fun vs H Q _ => ∃ (s e1 e2 : Addr) (p1 p2 : Prt) (f1 g1 f2 g2 : Nat) (t : Int), vs = [.ref s, .ref e1, .ref e2, .int t] ∧ Src H s ∧ (∀ G, SB s H G → PkAt K G e1 p1 f1 g1) ∧ (∀ G, SB s H G → PkAt K G e2 p2 f2 g2) ∧
  p1.Ok ∧ p2.Ok ∧ Cyc p1 f1 g1 ∧ Cyc p2 f2 g2 ∧ Alk p1 p2 t ∧ (0 ≤ t ∧ t ≤ 10) ∧ ∀ H', SB s H H' → Src H' s → Q (.bl true) H'
theorem use_alike {K : PySem.W.Frag} {s e1 e2 : Addr} {p1 p2 : Prt} {f1 g1 f2 g2 : Nat} {t : Int} {H : Hp} {Q : VK} {E : XK} (hs : Src H s) (h1 : ∀ G, SB s H G → PkAt K G e1 p1 f1 g1) (h2 : ∀ G, SB s H G → PkAt K G e2 p2 f2 g2)
  (ok1 : p1.Ok) (ok2 : p2.Ok) (c1 : Cyc p1 f1 g1) (c2 : Cyc p2 f2 g2) (a : Alk p1 p2 t) (ht : 0 ≤ t ∧ t ≤ 10) (k : ∀ H', SB s H H' → Src H' s → Q (.bl true) H') : sp_law_alike K [.ref s, .ref e1, .ref e2, .int t] H Q E := by
  unfold sp_law_alike; exact ⟨s, e1, e2, p1, p2, f1, g1, f2, g2, t, rfl, hs, h1, h2, ok1, ok2, c1, c2, a, ht, k⟩
theorem b_law_alike {K : PySem.W.Frag} {fd : FuncData} (F : F_law_alike K fd) : Binds K fd P_law_alike [] := FunD.bindsN F fun _ _ _ _ _ _ us hl => match us, hl with | [_, _, _, _], _ => rfl
theorem ok_law_alike (T : Txt K mg D) : FnOk P w K mg base CX0 5 (He.fAd K ("_law_alike", none)) (D D_law_alike) P_law_alike (sp_law_alike K) := by
  refine T.d_law_alike.ok sc_law_alike (fun vs H Q E h => ?_) (fun cdv A outer s H vs Q E hr h => ?_)
  · unfold sp_law_alike at h
    first | (obtain ⟨rfl, _⟩ := h; rfl) | (obtain ⟨_, rfl, _⟩ := h; rfl) | (obtain ⟨_, _, rfl, _⟩ := h; rfl) | (obtain ⟨_, _, _, rfl, _⟩ := h; rfl) | (obtain ⟨_, _, _, _, rfl, _⟩ := h; rfl) | (obtain ⟨_, _, _, _, _, rfl, _⟩ := h; rfl) | (obtain ⟨_, _, _, _, _, _, rfl, _⟩ := h; rfl) | (obtain ⟨_, _, _, _, _, _, _, rfl, _⟩ := h; rfl) | (obtain ⟨_, _, _, _, _, _, _, _, rfl, _⟩ := h; rfl) | (obtain ⟨_, _, _, _, _, _, _, _, _, rfl, _⟩ := h; rfl) | (obtain ⟨_, _, _, _, _, _, _, _, _, _, rfl, _⟩ := h; rfl) | (obtain ⟨_, _, _, _, _, _, _, _, _, _, _, rfl, _⟩ := h; rfl)
  · refine ⟨_, PSs.nox (pss_cons (ps_for PassesOwn.never rfl (pi_range1 (by rfl) T.n_range (pa_cons pe_int pa_nil)) (pg_name (i := 4) sc_law_alike.nd rfl (Or.inl rfl)) (pss_cons (ps_set (i := 5) sc_law_alike.nd rfl (Or.inl rfl) (pe_call (ok_law_pick T) (hr.mono (by decide)) rfl T.g_law_pick T.d_law_pick.kp (b_law_pick T.d_law_pick) .nil pass0 (pa_cons (pv 0) (pa_cons (pe_lst (pa_cons (pe_call (ok_law_draw T) (hr.mono (by decide)) rfl T.g_law_draw T.d_law_draw.kp (b_law_draw T.d_law_draw) .nil pass0 (pa_cons (pv 0) (pa_cons pe_int pa_nil))) (pa_cons (pe_op op_mul (pe_call (ok_law_draw T) (hr.mono (by decide)) rfl T.g_law_draw T.d_law_draw.kp (b_law_draw T.d_law_draw) .nil pass0 (pa_cons (pv 0) (pa_cons (pe_powc (c := 1000000000) (by decide)) pa_nil))) (pe_powc (c := 1000000000000000000000) (by decide))) (pa_cons (pe_op op_sub (pe_op op_sub (pe_powc (c := 1000000000000000000000000000000) (by decide)) pe_int) (pv 4)) pa_nil)))) pa_nil))))
      (pss_cons (ps_set (i := 6) sc_law_alike.nd rfl (Or.inl rfl) (pe_meth (pv 1) T.c_Packing T.m_Packing_page_of (ok_Packing_page_of T) (hr.mono (by decide)) (b_Packing_page_of T.d_Packing_page_of) .nil pass0 (pa_cons (pv 5) pa_nil)))
      (pss_cons (ps_if (PW.pt (pw_or (pt_cmpR op_ne (pe_meth (pv 2) T.c_Packing T.m_Packing_page_of (ok_Packing_page_of T) (hr.mono (by decide)) (b_Packing_page_of T.d_Packing_page_of) .nil pass0 (pa_cons (pv 5) pa_nil)) (pv 6) (nomark _)) (pw_or1 (pt_cmpR op_ne (pe_meth (pv 1) T.c_Packing T.m_Packing_begun (ok_Packing_begun T) (hr.mono (by decide)) (b_Packing_begun T.d_Packing_begun) .nil pass0 (pa_cons (pv 5) pa_nil)) (pe_meth (pv 2) T.c_Packing T.m_Packing_begun (ok_Packing_begun T) (hr.mono (by decide)) (b_Packing_begun T.d_Packing_begun) .nil pass0 (pa_cons (pv 5) pa_nil)) (nomark _))))) (pss_one (ps_ret pe_bl)) pss_nil)
      (pss_cons (ps_if (PW.pt (pw_or (pt_cmpR op_ne (pe_meth (pv 2) T.c_Packing T.m_Packing_first_row (ok_Packing_first_row T) (hr.mono (by decide)) (b_Packing_first_row T.d_Packing_first_row) .nil pass0 (pa_cons (pv 6) pa_nil)) (pe_meth (pv 1) T.c_Packing T.m_Packing_first_row (ok_Packing_first_row T) (hr.mono (by decide)) (b_Packing_first_row T.d_Packing_first_row) .nil pass0 (pa_cons (pv 6) pa_nil)) (nomark _)) (pw_or1 (pt_cmpR op_ne (pe_meth (pv 2) T.c_Packing T.m_Packing_rows_on (ok_Packing_rows_on T) (hr.mono (by decide)) (b_Packing_rows_on T.d_Packing_rows_on) .nil pass0 (pa_cons (pv 6) pa_nil)) (pe_meth (pv 1) T.c_Packing T.m_Packing_rows_on (ok_Packing_rows_on T) (hr.mono (by decide)) (b_Packing_rows_on T.d_Packing_rows_on) .nil pass0 (pa_cons (pv 6) pa_nil)) (nomark _))))) (pss_one (ps_ret pe_bl)) pss_nil)
      (pss_one (ps_if (pt_cmpR op_ne (pe_meth (pv 2) T.c_Packing T.m_Packing_units_on (ok_Packing_units_on T) (hr.mono (by decide)) (b_Packing_units_on T.d_Packing_units_on) .nil pass0 (pa_cons (pv 6) pa_nil)) (pe_op op_mul (pv 3) (pe_meth (pv 1) T.c_Packing T.m_Packing_units_on (ok_Packing_units_on T) (hr.mono (by decide)) (b_Packing_units_on T.d_Packing_units_on) .nil pass0 (pa_cons (pv 6) pa_nil))) (nomark _)) (pss_one (ps_ret pe_bl)) pss_nil)))))))
      (pss_one (ps_ret pe_bl))), ?_⟩
    unfold sp_law_alike at h
    obtain ⟨s, e1, e2, p1, p2, f1, g1, f2, g2, t, rfl, hs, h1, h2, ok1, ok2, c1, c2, al, ⟨t0, t1⟩, k⟩ := h
    walk_at "rd"
    refine for_range (lo := 0) (n := 5) (fun i σ G => ∃ v4 v5 v6, σ = [some (.ref s), some (.ref e1), some (.ref e2), some (.int t), v4, v5, v6] ∧ SB s H G ∧ Src G s) ⟨_, _, _, rfl, SB.refl, hs⟩ ?_ ?_
    · rintro i σ G hi ⟨v4, v5, v6, rfl, f, hsG⟩
      walk_at "rd"
      refine use_draw (by decide) (by decide) hsG fun d1 H1 a1 b1 s1 hs1 => ?_
      walk_at "rd"
      refine use_draw (n := 1000000000) (by decide) (by decide) hs1 fun d2 H2 a2 b2 s2 hs2 => ?_
      walk_at "rd"
      intro q5 n5
      generalize eG5 : upd _ q5 _ = G5
      obtain ⟨g5, b5⟩ := gen_new n5 eG5
      clear eG5
      obtain ⟨y1, y2, y3, hy⟩ := id hs2
      walk_at "rd"
      refine use_pick b5 (ne_of_none hy n5).symm (by walk_at "sd") ⟨y1, y2, y3, g5 _ _ hy⟩ fun v G6 hv f6 hsG6 => ?_
      obtain ⟨r, rfl, hr⟩ : ∃ r : Nat, v = .int r ∧ r < 1000000000000000000000000000000 := by
        simp only [List.mem_cons, List.mem_nil_iff, or_false] at hv
        rcases hv with rfl | rfl | rfl
        · exact ⟨d1.toNat, by congr 1; omega, by omega⟩
        · exact ⟨(d2 * 1000000000000000000000).toNat, congrArg V.int (by omega), by omega⟩
        · exact ⟨((1000000000000000000000000000000 : Int) - 1 - (0 + (i : Int))).toNat, congrArg V.int (by omega), by omega⟩
      have f7 := (((f.trans s1).trans s2).trans g5.sb).trans f6
      have hp1 := h1 _ f7
      have hp2 := h2 _ f7
      obtain ⟨dx1, tt1, ll1, hk1, _, _⟩ := id hp1
      obtain ⟨dx2, tt2, ll2, hk2, _, _⟩ := id hp2
      walk_at "rd"
      refine use_page_of (r := r) rfl hp1 ok1 c1 hr fun n J1 on j1 => ?_
      have on2 := al.on on
      have hk21 := j1 _ _ hk2
      have hS : startN p1 n < 1000000000000000000000000000000 := by have := on.1; omega
      have hS2 : startN p2 n < 1000000000000000000000000000000 := by rw [al.st]; exact hS
      walk_at "rd"
      refine use_page_of (r := r) rfl (hp2.same j1) ok2 c2 hr fun n' J2 on' j2 => ?_
      have en := on'.uniq ok2 on2
      subst en
      walk_at "rd"
      refine ne_eq rfl ?_
      have j12 := j1.trans j2
      have hk12 := j12 _ _ hk1
      obtain ⟨N, hN⟩ := bg_ex ok1 r
      walk_at "rd"
      refine use_begunN rfl (hp1.same j12) ok1 c1 (by omega) hN fun J3 j3 => ?_
      have hk23 := j3 _ _ (j12 _ _ hk2)
      walk_at "rd"
      refine use_begunN rfl (hp2.same (j12.trans j3)) ok2 c2 (by omega) (hN.alk al) fun J4 j4 => ?_
      walk_at "rd"
      refine ne_eq rfl ?_
      have j14 := (j12.trans j3).trans j4
      have hk24 := j14 _ _ hk2
      walk_at "rd"
      refine use_first_row (n := n') rfl (hp2.same j14) ok2 c2 hS2 fun J5 j5 => ?_
      have hk15 := j5 _ _ (j14 _ _ hk1)
      walk_at "rd"
      refine use_first_row (n := n') rfl (hp1.same (j14.trans j5)) ok1 c1 hS fun J6 j6 => ?_
      walk_at "rd"
      refine ne_eq (by rw [al.st]) ?_
      have j16 := (j14.trans j5).trans j6
      have hk26 := j16 _ _ hk2
      walk_at "rd"
      refine use_rows_on (n := n') rfl (hp2.same j16) ok2 c2 hS2 fun J7 j7 => ?_
      have hk17 := j7 _ _ (j16 _ _ hk1)
      walk_at "rd"
      refine use_rows_on (n := n') rfl (hp1.same (j16.trans j7)) ok1 c1 hS fun J8 j8 => ?_
      walk_at "rd"
      refine ne_eq (by rw [al.st, al.rw]) ?_
      have j18 := (j16.trans j7).trans j8
      have hk28 := j18 _ _ hk2
      walk_at "rd"
      refine use_units_on (n := n') rfl (hp2.same j18) ok2 c2 hS2 fun J9 j9 => ?_
      have hk19 := j9 _ _ (j18 _ _ hk1)
      walk_at "rd"
      refine use_units_on (n := n') rfl (hp1.same (j18.trans j9)) ok1 c1 hS fun J10 j10 => ?_
      walk_at "rd"
      refine ne_eq (by rw [al.st, al.rw, al.us]) ?_
      obtain ⟨z1, z2, z3, hz⟩ := hsG6
      have j110 := (j18.trans j9).trans j10
      walk_at "rd"
      exact ⟨f7.trans j110.sb, z1, z2, z3, j110 _ _ hz⟩
    · rintro σ G ⟨v4, v5, v6, rfl, f, hsG⟩
      walk_at "rd"
      exact k G f hsG

theorem b_law_right {K : PySem.W.Frag} {fd : FuncData} (F : F_law_right K fd) : Binds K fd P_law_right [] := FunD.bindsN F fun _ _ _ _ _ _ us hl => match us, hl with | [_], _ => rfl
theorem ok_law_right (T : Txt K mg D) : FnOk P w K mg base CX0 7 (He.fAd K ("_law_right", none)) (D D_law_right) P_law_right sp_law_right := by
  refine T.d_law_right.ok sc_law_right (fun vs H Q E h => ?_) (fun cdv A outer s H vs Q E hr h => ?_)
  · unfold sp_law_right at h
    first | (obtain ⟨rfl, _⟩ := h; rfl) | (obtain ⟨_, rfl, _⟩ := h; rfl) | (obtain ⟨_, _, rfl, _⟩ := h; rfl) | (obtain ⟨_, _, _, rfl, _⟩ := h; rfl) | (obtain ⟨_, _, _, _, rfl, _⟩ := h; rfl) | (obtain ⟨_, _, _, _, _, rfl, _⟩ := h; rfl) | (obtain ⟨_, _, _, _, _, _, rfl, _⟩ := h; rfl) | (obtain ⟨_, _, _, _, _, _, _, rfl, _⟩ := h; rfl) | (obtain ⟨_, _, _, _, _, _, _, _, rfl, _⟩ := h; rfl) | (obtain ⟨_, _, _, _, _, _, _, _, _, rfl, _⟩ := h; rfl) | (obtain ⟨_, _, _, _, _, _, _, _, _, _, rfl, _⟩ := h; rfl) | (obtain ⟨_, _, _, _, _, _, _, _, _, _, _, rfl, _⟩ := h; rfl)
  · refine ⟨_, PSs.nox (pss_cons (ps_asg (pe_call (ok_law_small T) (hr.mono (by decide)) rfl T.g_law_small T.d_law_small.kp (b_law_small T.d_law_small) .nil pass0 (pa_cons (pv 0) pa_nil)) (pg_tup rfl (pgs_cons (pg_name (i := 1) sc_law_right.nd rfl (Or.inl rfl)) (pgs_cons (pg_name (i := 2) sc_law_right.nd rfl (Or.inl rfl)) pgs_nil))))
      (pss_cons (ps_asg (pe_tup (pa_cons (pe_make T.mk_Packing (ok_Packing___init__ T) (hr.mono (by decide)) rfl T.g_Packing (b_Packing___init__ T.d_Packing___init__) .nil pass0 (pa_cons (pe_call (ok_law_settings T) (hr.mono (by decide)) rfl T.g_law_settings T.d_law_settings.kp (b_law_settings T.d_law_settings) .nil pass0 (pa_cons (pe_op (op_catSK (K := K)) (pe_lst (pa_cons (pv 1) (pa_cons (pv 2) pa_nil))) (pe_call (ok_law_rest T) (hr.mono (by decide)) rfl T.g_law_rest T.d_law_rest.kp (b_law_rest T.d_law_rest) .nil pass0 (pa_cons (pv 0) pa_nil))) pa_nil)) pa_nil)) (pa_cons (pe_op op_add pe_int (pe_call (ok_law_draw T) (hr.mono (by decide)) rfl T.g_law_draw T.d_law_draw.kp (b_law_draw T.d_law_draw) .nil pass0 (pa_cons (pv 0) (pa_cons pe_int pa_nil)))) pa_nil))) (pg_tup rfl (pgs_cons (pg_name (i := 3) sc_law_right.nd rfl (Or.inl rfl)) (pgs_cons (pg_name (i := 4) sc_law_right.nd rfl (Or.inr rfl)) pgs_nil))))
      (pss_cons (ps_setLc (i := 5) (own := [("length", 12)]) rfl sc_law_right.nd rfl rfl (sw_true rfl rfl rfl (by decide +kernel)) (pi_list (pv 1)) (blkOk_by (N := N_law_right) (sc := defScope s_law_right) (by decide +kernel)) (fun _ _ _ _ _ => (pg_name (i := 12) sc_law_right.nd rfl (Or.inl rfl))) (fun _ _ _ _ _ => pts_nil) (fun _ _ _ _ _ => (pe_op op_mul (pv 12) (pv 4))))
      (pss_cons (ps_set (i := 6) sc_law_right.nd rfl (Or.inl rfl) (pe_make T.mk_Packing (ok_Packing___init__ T) (hr.mono (by decide)) rfl T.g_Packing (b_Packing___init__ T.d_Packing___init__) .nil pass0 (pa_cons (pe_call (ok_law_settings T) (hr.mono (by decide)) rfl T.g_law_settings T.d_law_settings.kp (b_law_settings T.d_law_settings) .nil pass0 (pa_cons (pe_op (op_catSK (K := K)) (pe_lst (pa_cons (pv 5) (pa_cons (pe_op op_add (pe_op op_mul (pv 2) (pv 4)) (pe_call (ok_law_draw T) (hr.mono (by decide)) rfl T.g_law_draw T.d_law_draw.kp (b_law_draw T.d_law_draw) .nil pass0 (pa_cons (pv 0) (pa_cons (pv 4) pa_nil)))) pa_nil))) (pe_call (ok_law_rest T) (hr.mono (by decide)) rfl T.g_law_rest T.d_law_rest.kp (b_law_rest T.d_law_rest) .nil pass0 (pa_cons (pv 0) pa_nil))) pa_nil)) pa_nil)))
      (pss_cons (ps_if (PW.pt (pw_or (pt_cmpR (op_neNK (K := K) hr.units) (pe_meth0 (pv 6) T.c_Packing T.m_Packing_cycle (ok_Packing_cycle T) (hr.mono (by decide)) (b_Packing_cycle T.d_Packing_cycle) .nil pass0) (pe_meth0 (pv 3) T.c_Packing T.m_Packing_cycle (ok_Packing_cycle T) (hr.mono (by decide)) (b_Packing_cycle T.d_Packing_cycle) .nil pass0) (nomark _)) (pw_or1 (pt_not (pt_val (pe_call (ok_law_alike T) (hr.mono (by decide)) rfl T.g_law_alike T.d_law_alike.kp (b_law_alike T.d_law_alike) .nil pass0 (pa_cons (pv 0) (pa_cons (pv 3) (pa_cons (pv 6) (pa_cons (pv 4) pa_nil)))))))))) (pss_one (ps_ret pe_bl)) pss_nil)
      (pss_cons (ps_set (i := 7) sc_law_right.nd rfl (Or.inl rfl) (pe_op op_mul (pe_call (ok_law_draw T) (hr.mono (by decide)) rfl T.g_law_draw T.d_law_draw.kp (b_law_draw T.d_law_draw) .nil pass0 (pa_cons (pv 0) (pa_cons (pe_powc (c := 1000000000) (by decide)) pa_nil))) (pe_powc (c := 100000000000000000000) (by decide))))
      (pss_cons (ps_if (pt_cmpR op_notin_rng (pe_callTy call_int1 (by rfl) T.n_int (by decide +kernel) (pa_cons (pe_op op_sub (pe_meth (pv 6) T.c_Packing T.m_Packing_units_left (ok_Packing_units_left T) (hr.mono (by decide)) (b_Packing_units_left T.d_Packing_units_left) .nil pass0 (pa_cons (pv 7) pa_nil)) (pe_op op_mul (pe_meth (pv 3) T.c_Packing T.m_Packing_units_left (ok_Packing_units_left T) (hr.mono (by decide)) (b_Packing_units_left T.d_Packing_units_left) .nil pass0 (pa_cons (pv 7) pa_nil)) (pv 4))) pa_nil)) (pe_callTy cr_range1 (by rfl) T.n_range (by decide +kernel) (pa_cons (pv 4) pa_nil)) rfl) (pss_one (ps_ret pe_bl)) pss_nil)
      (pss_cons (ps_set (i := 8) sc_law_right.nd rfl (Or.inl rfl) (pe_make T.mk_Packing (ok_Packing___init__ T) (hr.mono (by decide)) rfl T.g_Packing (b_Packing___init__ T.d_Packing___init__) .nil pass0 (pa_cons (pe_call (ok_law_settings T) (hr.mono (by decide)) rfl T.g_law_settings T.d_law_settings.kp (b_law_settings T.d_law_settings) .nil pass0 (pa_cons (pe_op (op_catSK (K := K)) (pe_lst (pa_cons (pe_op (op_catSK (K := K)) (pv 1) (pv 1)) (pa_cons (pv 2) pa_nil))) (pe_call (ok_law_rest T) (hr.mono (by decide)) rfl T.g_law_rest T.d_law_rest.kp (b_law_rest T.d_law_rest) .nil pass0 (pa_cons (pv 0) pa_nil))) pa_nil)) pa_nil)))
      (pss_cons (ps_asg (pe_meth0 (pv 8) T.c_Packing T.m_Packing_cycle (ok_Packing_cycle T) (hr.mono (by decide)) (b_Packing_cycle T.d_Packing_cycle) .nil pass0) (pg_tup rfl (pgs_cons (pg_name (i := 9) sc_law_right.nd rfl (Or.inl rfl)) (pgs_cons (pg_name (i := 10) sc_law_right.nd rfl (Or.inl rfl)) (pgs_cons (pg_name (i := 11) sc_law_right.nd rfl (Or.inl rfl)) pgs_nil)))))
      (pss_cons (ps_if (PW.pt (pw_or (pt_not (pt_val (pe_call (ok_law_alike T) (hr.mono (by decide)) rfl T.g_law_alike T.d_law_alike.kp (b_law_alike T.d_law_alike) .nil pass0 (pa_cons (pv 0) (pa_cons (pv 3) (pa_cons (pv 8) (pa_cons pe_int pa_nil))))))) (pw_or1 (pt_cmpR op_ne (pe_op op_mod (pe_callTy call_int1 (by rfl) T.n_int (by decide +kernel) (pa_cons (pv 11) pa_nil)) (pe_ix (ix_tupK (K := K)) (pe_meth0 (pv 3) T.c_Packing T.m_Packing_cycle (ok_Packing_cycle T) (hr.mono (by decide)) (b_Packing_cycle T.d_Packing_cycle) .nil pass0) pe_int (fun _ _ => rfl))) pe_int (nomark _))))) (pss_one (ps_ret pe_bl)) pss_nil)
      (pss_one (ps_ret (pe_and (pe_cmpR op_eq (pv 9) (pe_ix (ix_tupK (K := K)) (pe_meth0 (pv 3) T.c_Packing T.m_Packing_cycle (ok_Packing_cycle T) (hr.mono (by decide)) (b_Packing_cycle T.d_Packing_cycle) .nil pass0) pe_int (fun _ _ => rfl)) (nomark _)) (pe_one (pe_cmpR op_eq (pe_op op_mod (pe_callTy call_int1 (by rfl) T.n_int (by decide +kernel) (pa_cons (pv 10) pa_nil)) (pe_ix (ix_tupK (K := K)) (pe_meth0 (pv 3) T.c_Packing T.m_Packing_cycle (ok_Packing_cycle T) (hr.mono (by decide)) (b_Packing_cycle T.d_Packing_cycle) .nil pass0) pe_int (fun _ _ => rfl))) pe_int (nomark _)))))))))))))))), ?_⟩
    unfold sp_law_right at h
    obtain ⟨s, rfl, hs, k⟩ := h
    walk_at "rd"
    refine use_small hs fun q0 l lens room H1 s1 hs1 nq nl hq hl l0 l3 hb' hr => ?_
    walk_at "rd"
    intro a2 n2
    generalize eH2 : upd _ a2 _ = H2
    obtain ⟨g2, b2⟩ := gen_new n2 eH2
    clear eH2
    obtain ⟨x1, x2, x3, hx1⟩ := id hs1
    have ns2 : a2 ≠ s := (ne_of_none hx1 n2).symm
    walk_at "rd"
    refine use_rest ⟨x1, x2, x3, g2 _ _ hx1⟩ fun a3 fa re ev ke H3 s3 hs3 n3 b3 r1 r2 r3 r4 => ?_
    have b23 := s3 _ _ ns2 b2
    walk_at "rd"
    refine ⟨_, _, _, _, rfl, rfl, SqL.of b23, SqL.of b3, (by simp), fun p4 H4 n4 g4 b4 => ?_⟩
    walk_at "rd"
    have hl4 := g4 _ _ (s3 _ _ nl (g2 _ _ hl))
    have ok1 : Prt.Ok ⟨lens, room, fa, re, ev, ke⟩ := ⟨l0, by show lens.length ≤ 6; omega, hb', by show 1 ≤ room; omega, by show room ≤ 64; omega, r1, r2, r3, r4⟩
    obtain ⟨w1, w2, w3, hw3⟩ := id hs3
    have hs4 := g4 _ _ hw3
    refine use_settings (p := ⟨lens, room, fa, re, ev, ke⟩) ⟨l, b4, hl4⟩ ok1 fun b H5 n5 s5 hset => ?_
    walk_at "rd"
    intro e de n6 nde nee
    generalize eH6 : upd (upd _ de _) e _ = H6
    obtain ⟨s6, c6⟩ := gen_mk n6 nde eH6
    clear eH6
    refine use_packing_init c6 (hset.same s6) ok1 fun H7 f1 p1 s7 cyc1 _ kp1 => ?_
    have f47 : Same H4 H7 := same_sb_new (s5.trans s6) s7 (s5.free n6)
    have kp1 := fun G => kp1 s _ G ((s5.trans s6) _ _ hs4)
    have hs7 := f47 _ _ hs4
    have hl7 := f47 _ _ hl4
    walk_at "rd"
    refine use_draw (by decide) (by decide) ⟨w1, w2, w3, hs7⟩ fun tm H8 t0 t1 s8 hs8 => ?_
    have t1 : tm < 3 := t1
    walk_at "rd"
    intro aa nA
    generalize eHA : upd _ aa _ = HA
    obtain ⟨gA, bA⟩ := gen_new nA eHA
    clear eHA
    walk_at "rd"
    have hl8 := gA _ _ (s8 _ _ nl hl7)
    have s8 : SB s H7 HA := s8.trans gA.sb
    obtain ⟨u1, u2, u3, hu8'⟩ := hs8
    have hs8 : Src HA s := ⟨u1, u2, u3, gA _ _ hu8'⟩
    walk_at "rd"
    intro D9 n9
    obtain ⟨u1, u2, u3, hu8⟩ := id hs8
    refine lc_list (K := K) (a := l) (xs := lens.map V.int) (fun i G => SX [D9] HA G ∧ G D9 = some (.lst (((lens.take i).map (· * (1 + tm))).map V.int))) ⟨SX.refl.mut n9, upd_same⟩ ?_ ?_ ?_
    · rintro i G _ ⟨f, _⟩
      exact SqL.of (f _ _ (by simp [ne_of_none hl8 n9]) hl8)
    · rintro i x G hx ⟨f, hD⟩
      obtain ⟨z, hz, rfl⟩ := map_some hx
      refine ⟨rfl, ?_⟩
      have hbz := hb' z (List.mem_of_getElem? hz)
      walk_at "rd"
      refine ⟨_, hD, szlt (by rw [List.length_map, List.length_map, List.length_take]; omega), f.upd (by simp), ?_⟩
      rw [upd_same, List.take_add_one, hz]
      simp
    rintro H10 ⟨f10, hD⟩
    rw [List.length_map, List.take_length] at hD
    have s10 : Same HA H10 := fun b o ho => f10 _ _ (by simp [ne_of_none ho n9]) ho
    have hsD : D9 ≠ s := (ne_of_none hu8 n9).symm
    walk_at "rd"
    refine use_draw (n := 1 + tm) (by omega) (by omega) ⟨u1, u2, u3, s10 _ _ hu8⟩ fun xt H11 xt0 xt1 s11 hs11 => ?_
    walk_at "rd"
    intro a12 n12
    generalize eH12 : upd _ a12 _ = H12
    obtain ⟨g12, b12⟩ := gen_new n12 eH12
    clear eH12
    obtain ⟨v1, v2, v3, hv11⟩ := id hs11
    have ns12 : a12 ≠ s := (ne_of_none hv11 n12).symm
    walk_at "rd"
    refine use_rest ⟨v1, v2, v3, g12 _ _ hv11⟩ fun a13 fa2 re2 ev2 ke2 H13 s13 hs13 n13 b13 q1 q2 q3 q4 => ?_
    have b1213 := s13 _ _ ns12 b12
    walk_at "rd"
    refine ⟨_, _, _, _, rfl, rfl, SqL.of b1213, SqL.of b13, (by simp), fun p14 H14 n14 g14 b14 => ?_⟩
    walk_at "rd"
    have hD14 := g14 _ _ (s13 _ _ hsD (g12 _ _ (s11 _ _ hsD hD)))
    have s714 : SB s H7 H14 := ((((s8.trans s10.sb).trans s11).trans g12.sb).trans s13).trans g14.sb
    have t3 : tm = 0 ∨ tm = 1 ∨ tm = 2 := by omega
    have ok2 : Prt.Ok ⟨lens.map (· * (1 + tm)), room * (1 + tm) + xt, fa2, re2, ev2, ke2⟩ := by
      refine ⟨by show 0 < (lens.map _).length; rw [List.length_map]; omega, by show (lens.map _).length ≤ 6; rw [List.length_map]; omega, fun x hx => ?_, ?_, ?_, q1, q2, q3, q4⟩
      · obtain ⟨z, hz, rfl⟩ := List.mem_map.mp hx
        have := hb' z hz
        show 1 ≤ z * (1 + tm) ∧ z * (1 + tm) ≤ room * (1 + tm) + xt
        rcases t3 with rfl | rfl | rfl <;> omega
      · show 1 ≤ room * (1 + tm) + xt
        rcases t3 with rfl | rfl | rfl <;> omega
      · show room * (1 + tm) + xt ≤ 64
        rcases t3 with rfl | rfl | rfl <;> omega
    obtain ⟨m1, m2, m3, hm13⟩ := id hs13
    have hs14 := g14 _ _ hm13
    refine use_settings (p := ⟨lens.map (· * (1 + tm)), room * (1 + tm) + xt, fa2, re2, ev2, ke2⟩) ⟨D9, b14, hD14⟩ ok2 fun b2' H15 n15 s15 hset2 => ?_
    walk_at "rd"
    intro e2 de2 n16 nde2 nee2
    generalize eH16 : upd (upd _ de2 _) e2 _ = H16
    obtain ⟨s16, c16⟩ := gen_mk n16 nde2 eH16
    clear eH16
    refine use_packing_init c16 (hset2.same s16) ok2 fun H17 f2 p2 s17 cyc2 _ kp2 => ?_
    have f1417 : Same H14 H17 := same_sb_new (s15.trans s16) s17 (s15.free n16)
    have kp2 := fun G => kp2 s _ G ((s15.trans s16) _ _ hs14)
    have hs17 := f1417 _ _ hs14
    have s717 : SB s H7 H17 := s714.trans f1417.sb
    have al := alk_times (p := ⟨lens, room, fa, re, ev, ke⟩) (q := ⟨lens.map (· * (1 + tm)), room * (1 + tm) + xt, fa2, re2, ev2, ke2⟩) (t := 1 + tm) (x := xt) ok1 ok2 (by omega) rfl rfl ⟨xt0, xt1⟩
    have eres : ∀ n, resN ⟨lens.map (· * (1 + tm)), room * (1 + tm) + xt, fa2, re2, ev2, ke2⟩ n = resN ⟨lens, room, fa, re, ev, ke⟩ n := fun n => by
      unfold resN
      rw [al.st]
      show _ % (lens.map _).length = _ % lens.length
      rw [List.length_map]
    obtain ⟨ef, ep⟩ := (cyc_res eres cyc2).uniq cyc1
    subst ef ep
    have hpk1 := kp1 H17 s717
    have hpk2 := kp2 H17 SB.refl
    obtain ⟨dx1, tt1, ll1, hk1, _, _⟩ := id hpk1
    obtain ⟨dx2, tt2, ll2, hk2, _, _⟩ := id hpk2
    walk_at "rd"
    refine use_cycle hpk2 fun q18 H18 n18 s18 c18 => ?_
    have hk18 := s18 _ _ hk1
    walk_at "rd"
    refine use_cycle (hpk1.same s18) fun q19 H19 n19 s19 c19 => ?_
    walk_at "rd"
    have c189 := s19 _ _ c18
    refine use_neN (.tup (SqT.of c189) (dp_pyi [(f2 : Int), (p2 : Int), _])) (.tup (SqT.of c19) (dp_pyi [(f2 : Int), (p2 : Int), _])) (nb_tup _) (nb_tup _) fun b hb => ?_
    have hb : b = false := by
      cases b with
      | true => exact absurd (by rw [al.st, al.st]) (hb.mp rfl)
      | false => rfl
    subst hb
    have s1719 := s18.trans s19
    have f19 : ∀ G, SB s H19 G → PkAt K G e _ f2 p2 ∧ PkAt K G e2 _ f2 p2 := fun G f => ⟨kp1 G (s717.trans (s1719.sb.trans f)), kp2 G (s1719.sb.trans f)⟩
    have hs19 := s1719 _ _ hs17
    walk_at "rd"
    refine use_alike ⟨m1, m2, m3, hs19⟩ (fun G f => (f19 G f).1) (fun G f => (f19 G f).2) ok1 ok2 cyc1 cyc2 al (by omega) fun H20 s20 hs20 => ?_
    walk_at "rd"
    refine use_draw (n := 1000000000) (by decide) (by decide) hs20 fun rw_ H21 rw0 rw1 s21 hs21 => ?_
    have hD21 := s21 _ _ hsD (s20 _ _ hsD (s1719 _ _ (f1417 _ _ hD14)))
    obtain ⟨hpk1', hpk2'⟩ := f19 _ (s20.trans s21)
    obtain ⟨dx3, tt3, ll3, hk3, _, _⟩ := id hpk1'
    obtain ⟨dx4, tt4, ll4, hk4, _, _⟩ := id hpk2'
    walk_at "rd"
    refine use_units_left (r := (rw_ * 100000000000000000000).toNat) (by omega) hpk2' ok2 cyc2 (by omega) fun n' H22 on' s22 => ?_
    have hk32 := s22 _ _ hk3
    walk_at "rd"
    refine use_units_left (r := (rw_ * 100000000000000000000).toNat) (by omega) (hpk1'.same s22) ok1 cyc1 (by omega) fun n'' H23 on'' s23 => ?_
    have en := (al.on on'').uniq ok2 on'
    subst en
    walk_at "rd"
    intro r24 n24
    generalize eH24 : upd _ r24 _ = H24
    obtain ⟨s24, b24⟩ := gen_new n24 eH24
    clear eH24
    refine ⟨_, _, _, _, rfl, rfl, b24, ?_⟩
    have hin : (0 : Int) ≤ room * (1 + tm) + xt - usum ⟨lens.map (· * (1 + tm)), room * (1 + tm) + xt, fa2, re2, ev2, ke2⟩ (startN ⟨lens.map (· * (1 + tm)), room * (1 + tm) + xt, fa2, re2, ev2, ke2⟩ n'') ((rw_ * 100000000000000000000).toNat + 1 - startN ⟨lens.map (· * (1 + tm)), room * (1 + tm) + xt, fa2, re2, ev2, ke2⟩ n'')
        - (room - usum ⟨lens, room, fa, re, ev, ke⟩ (startN ⟨lens, room, fa, re, ev, ke⟩ n'') ((rw_ * 100000000000000000000).toNat + 1 - startN ⟨lens, room, fa, re, ev, ke⟩ n'')) * (1 + tm) ∧
        room * (1 + tm) + xt - usum ⟨lens.map (· * (1 + tm)), room * (1 + tm) + xt, fa2, re2, ev2, ke2⟩ (startN ⟨lens.map (· * (1 + tm)), room * (1 + tm) + xt, fa2, re2, ev2, ke2⟩ n'') ((rw_ * 100000000000000000000).toNat + 1 - startN ⟨lens.map (· * (1 + tm)), room * (1 + tm) + xt, fa2, re2, ev2, ke2⟩ n'')
        - (room - usum ⟨lens, room, fa, re, ev, ke⟩ (startN ⟨lens, room, fa, re, ev, ke⟩ n'') ((rw_ * 100000000000000000000).toNat + 1 - startN ⟨lens, room, fa, re, ev, ke⟩ n'')) * (1 + tm) < 1 + tm := by
      rw [al.us, al.st, Int.sub_mul, Int.mul_comm (usum _ _ _) (1 + tm)]
      omega
    walk_at "rd"
    refine iteF_of (by rw [decide_eq_true hin]; rfl) ?_
    clear hin
    obtain ⟨o1, o2, o3, ho21⟩ := id hs21
    have s2124 := (s22.trans s23).trans s24
    have hs24 := s2124 _ _ ho21
    have l724 : SB s H7 H24 := (((s717.trans s1719.sb).trans s20).trans s21).trans s2124.sb
    have l24 : SB s H H24 := ((((s1.trans g2.sb).trans s3).trans g4.sb).trans f47.sb).trans l724
    have hl24 : H24 l = some (.lst (lens.map V.int)) := l724 _ _ nl hl7
    walk_at "rd"
    refine ⟨_, _, _, _, rfl, rfl, SqL.of hl24, SqL.of hl24, (by rw [List.length_map]; omega), fun p25 H25 n25 s25 b25 => ?_⟩
    walk_at "rd"
    intro a26 n26
    generalize eH26 : upd _ a26 _ = H26
    obtain ⟨g26, b26⟩ := gen_new n26 eH26
    clear eH26
    have ns26 : a26 ≠ s := (ne_of_none (s25 _ _ hs24) n26).symm
    have ns25 : p25 ≠ s := (ne_of_none hs24 n25).symm
    walk_at "rd"
    refine use_rest ⟨o1, o2, o3, g26 _ _ (s25 _ _ hs24)⟩ fun a27 fa3 re3 ev3 ke3 H27 s27 hs27 n27 b27 z1 z2 z3 z4 => ?_
    have b2627 := s27 _ _ ns26 b26
    walk_at "rd"
    refine ⟨_, _, _, _, rfl, rfl, SqL.of b2627, SqL.of b27, (by simp), fun p28 H28 n28 g28 b28 => ?_⟩
    walk_at "rd"
    have ok3 : Prt.Ok ⟨lens ++ lens, room, fa3, re3, ev3, ke3⟩ := by
      refine ⟨by show 0 < (lens ++ lens).length; rw [List.length_append]; omega, by show (lens ++ lens).length ≤ 6; rw [List.length_append]; omega, fun x hx => ?_, ok1.s0, ok1.s1, z1, z2, z3, z4⟩
      rcases List.mem_append.mp hx with h | h
      · exact hb' x h
      · exact hb' x h
    have al3 := alk_twice (p := ⟨lens, room, fa, re, ev, ke⟩) (q := ⟨lens ++ lens, room, fa3, re3, ev3, ke3⟩) ok1 ok3 rfl rfl
    have h2528 := g28 _ _ (s27 _ _ ns25 (g26 _ _ b25))
    rw [← List.map_append] at h2528
    obtain ⟨k1, k2, k3, hk27⟩ := id hs27
    have hs28 := g28 _ _ hk27
    have l2428 : SB s H24 H28 := ((s25.trans g26).sb.trans s27).trans g28.sb
    refine use_settings (p := ⟨lens ++ lens, room, fa3, re3, ev3, ke3⟩) ⟨p25, b28, h2528⟩ ok3 fun b3' H29 n29 s29 hset3 => ?_
    walk_at "rd"
    intro e3 de3 n30 nde3 nee3
    generalize eH30 : upd (upd _ de3 _) e3 _ = H30
    obtain ⟨s30, c30⟩ := gen_mk n30 nde3 eH30
    clear eH30
    refine use_packing_init c30 (hset3.same s30) ok3 fun H31 f3 p3 s31 cyc3 _ kp3 => ?_
    have f2831 : Same H28 H31 := same_sb_new (s29.trans s30) s31 (s29.free n30)
    have kp3 := fun G => kp3 s _ G ((s29.trans s30) _ _ hs28)
    have hs31 := f2831 _ _ hs28
    have l731 : SB s H7 H31 := (l724.trans l2428).trans f2831.sb
    have hpk3 := kp3 H31 SB.refl
    obtain ⟨dx31, tt31, ll31, hk31, _, _⟩ := id hpk3
    obtain ⟨ef3, ep3⟩ := cyc_twice (p := ⟨lens, room, fa, re, ev, ke⟩) (q := ⟨lens ++ lens, room, fa3, re3, ev3, ke3⟩) ok1 (by show (lens ++ lens).length = 2 * lens.length; rw [List.length_append]; omega) al3.st cyc1 cyc3
    subst ef3
    walk_at "rd"
    refine use_cycle hpk3 fun q32 H32 n32 s32 c32 => ?_
    walk_at "rd"
    refine use_alike ⟨k1, k2, k3, s32 _ _ hs31⟩ (fun G f => kp1 G (l731.trans (s32.sb.trans f))) (fun G f => kp3 G (s32.sb.trans f)) ok1 ok3 cyc1 cyc3 al3 (by decide) fun H33 s33 hs33 => ?_
    have hpk33 := kp1 H33 (l731.trans (s32.sb.trans s33))
    obtain ⟨dx33, tt33, ll33, hk33, _, _⟩ := id hpk33
    have hR0 := rowsC_pos ok1 cyc1
    have hR1 := rowsC_le ok1 cyc1
    have hsp := start_mono ok1 (show f3 ≤ f3 + p2 by omega)
    have er : (startN ⟨lens, room, fa, re, ev, ke⟩ (f3 + p2) : Int) - (startN ⟨lens, room, fa, re, ev, ke⟩ f3 : Int) = (rowsC ⟨lens, room, fa, re, ev, ke⟩ f3 p2 : Int) := by unfold rowsC; omega
    have hp2 := cyc1.pos
    have hp26 := cyc1.le ok1
    walk_at "rd"
    refine use_cycle hpk33 fun q34 H34 n34 s34 c34 => ?_
    walk_at "rd"
    refine ne_eq ?_ ?_
    · rw [al3.st, al3.st]
      rcases ep3 with h | h
      · rw [h]; exact Int.emod_self
      · have e := start_times ok1 cyc1 (Nat.le_refl f3) 2
        rw [h, er, e]
        have : ((startN ⟨lens, room, fa, re, ev, ke⟩ f3 + 2 * rowsC ⟨lens, room, fa, re, ev, ke⟩ f3 p2 : Nat) : Int) - (startN ⟨lens, room, fa, re, ev, ke⟩ f3 : Int) = 2 * (rowsC ⟨lens, room, fa, re, ev, ke⟩ f3 p2 : Int) := by omega
        rw [this]
        exact Int.mul_emod_left _ _
    have hk34 := s34 _ _ hk33
    walk_at "rd"
    refine use_cycle (hpk33.same s34) fun q35 H35 n35 s35 c35 => ?_
    have hk35 := s35 _ _ hk34
    walk_at "rd"
    refine iteT_of (decide_eq_true rfl) ?_
    walk_at "rd"
    refine use_cycle ((hpk33.same s34).same s35) fun q36 H36 n36 s36 c36 => ?_
    walk_at "rd"
    obtain ⟨w11, w22, w33, hw33'⟩ := hs33
    have f36 := (s34.trans s35).trans s36
    refine bl_eq ?_ (k H36 (((l24.trans l2428).trans (f2831.sb.trans (s32.sb.trans s33))).trans f36.sb) ⟨w11, w22, w33, f36 _ _ hw33'⟩)
    rcases ep3 with h | h
    · rw [h]; exact Int.emod_self
    · rw [h, Int.natCast_mul]; exact Int.mul_emod_left _ _

theorem b_law {K : PySem.W.Frag} {fd : FuncData} (F : F_law K fd) : Binds K fd P_law [] := FunD.bindsN F fun _ _ _ _ _ _ us hl => match us, hl with | [_], _ => rfl
theorem ok_law (T : Txt K mg D) : FnOk P w K mg base CX0 8 (He.fAd K ("law", none)) (D D_law) P_law (sp_law K) := by
  refine T.d_law.ok sc_law (fun vs H Q E h => ?_) (fun cdv A outer s H vs Q E hr h => ?_)
  · unfold sp_law at h
    first | (obtain ⟨rfl, _⟩ := h; rfl) | (obtain ⟨_, rfl, _⟩ := h; rfl) | (obtain ⟨_, _, rfl, _⟩ := h; rfl) | (obtain ⟨_, _, _, rfl, _⟩ := h; rfl) | (obtain ⟨_, _, _, _, rfl, _⟩ := h; rfl) | (obtain ⟨_, _, _, _, _, rfl, _⟩ := h; rfl) | (obtain ⟨_, _, _, _, _, _, rfl, _⟩ := h; rfl) | (obtain ⟨_, _, _, _, _, _, _, rfl, _⟩ := h; rfl) | (obtain ⟨_, _, _, _, _, _, _, _, rfl, _⟩ := h; rfl) | (obtain ⟨_, _, _, _, _, _, _, _, _, rfl, _⟩ := h; rfl) | (obtain ⟨_, _, _, _, _, _, _, _, _, _, rfl, _⟩ := h; rfl) | (obtain ⟨_, _, _, _, _, _, _, _, _, _, _, rfl, _⟩ := h; rfl)
  · refine ⟨_, PSs.nox (pss_cons (ps_for PassesOwn.never rfl (pi_range1 (by rfl) T.n_range (pa_cons (pe_callB (call_max2 rfl) (by rfl) T.n_max (by decide +kernel) (pa_cons pe_int (pa_cons (pe_callB (call_min2 rfl) (by rfl) T.n_min (by decide +kernel) (pa_cons pe_int (pa_cons (pe_callB (call_lenK (K := K)) (by rfl) T.n_len (by decide +kernel) (pa_cons (pv 0) pa_nil)) pa_nil))) pa_nil))) pa_nil)) (pg_name (i := 1) sc_law.nd rfl (Or.inl rfl)) (pss_cons (ps_set (i := 2) sc_law.nd rfl (Or.inl rfl) (pe_call (ok_law_source T) (hr.mono (by decide)) rfl T.g_law_source T.d_law_source.kp (b_law_source T.d_law_source) .nil pass0 (pa_cons (pv 0) (pa_cons (pv 1) pa_nil))))
      (pss_one (ps_if (pt_not (pt_val (pe_call (ok_law_right T) (hr.mono (by decide)) rfl T.g_law_right T.d_law_right.kp (b_law_right T.d_law_right) .nil pass0 (pa_cons (pv 2) pa_nil)))) (pss_one (ps_ret pe_bl)) pss_nil))))
      (pss_one (ps_ret pe_bl))), ?_⟩
    unfold sp_law at h
    obtain ⟨a, ns, rfl, hS, hl, k⟩ := h
    walk_at "rd"
    refine ⟨_, _, rfl, .inl hS, ?_⟩
    walk_at "rd"
    generalize hn : Int.toNat _ = n
    have hn2 : n ≤ 63 := by
      subst hn
      simp only [List.length_map]
      (repeat' split) <;> omega
    refine for_range (lo := 0) (n := n) (fun i σ H' => ∃ v1 v2, σ = [some (.ref a), v1, v2] ∧ Same H H') ⟨_, _, rfl, Same.refl _⟩ ?_ ?_
    · rintro i σ H1 hi ⟨v1, v2, rfl, f1⟩
      walk_at "rd"
      refine use_source (f1.seq hS) (by omega) fun s H2 n2 s2 h2 => ?_
      walk_at "rd"
      refine use_right h2 fun H3 s3 h3 => ?_
      walk_at "rd"
      exact same_sb_new (f1.trans s2) s3 (f1.free n2)
    · rintro σ H1 ⟨v1, v2, rfl, f1⟩
      walk_at "rd"
      exact k _

end
end KR
open PySem PySem.W PySem.Calls PyProof.Rows in
set_option maxRecDepth 100000 in
set_option maxHeartbeats 0 in
theorem PySem.Challenge.cw_keeprows_k12_whole_packings_of_like_sett_holds : PySem.Challenge.rw_keeprows_k12_whole_packings_of_like_sett.Holds := by
  w_on; o_law
  refine HandSHeadRun.head_any (r := OpenLaw.row PySem.Challenge.rw_keeprows_k12_whole_packings_of_like_sett) (q := view (OpenLaw.row PySem.Challenge.rw_keeprows_k12_whole_packings_of_like_sett).prog [34]) (H := KR.hk) (ob := KR.ob) (M := 4000) (loose := KR.looseN) (d := HandSHeadRun.topDef (OpenLaw.row PySem.Challenge.rw_keeprows_k12_whole_packings_of_like_sett).prog 34) (kwd := []) KR.ob_eq
    (by kernel_rfl) (fun s => by kernel_rfl) KR.run (by kernel_rfl) (by kernel_rfl) (by kernel_rfl) (by rfl) (by first | assumption | decide +kernel) (by decide +kernel) ⟨rfl, rfl, rfl, rfl, rfl, by decide +kernel⟩ ?hw ?hc
  case hw => w_witness2
  case hc =>
    refine L2.walk_ofE (l := PySem.Challenge.rw_keeprows_k12_whole_packings_of_like_sett) (n := 63) (k := 8) (x := "script") (CX := L2.CX0) rfl (by decide) (by kernel_rfl) ⟨rfl, by decide, by decide⟩ ?F (fun _ _ _ _ z => z)
    intro w mg fa h Y G hmg0
    obtain ⟨K, KX, c, cx⟩ := Y
    have hmg : mg ("law" : PySem.Str) = some (.ref fa) := by
      have e : (HandSHeadRun.topDef (OpenLaw.row PySem.Challenge.rw_keeprows_k12_whole_packings_of_like_sett).prog 34).name = ("law" : PySem.Str) := by kernel_rfl
      rw [← e]
      exact hmg0
    obtain ⟨D, T⟩ := KR.txt_of KX G c cx
    have e1 := hmg.symm.trans T.g_law
    cases e1
    exact ⟨K, D KR.D_law, KR.sp_law K, KX, fun s v => L2.FunD.bindsA (ps := ["script"]) T.d_law (fun _ _ _ _ _ _ us hl => match us, hl with | [_], _ => rfl) s [v] rfl, fun H a ns hl _ hS => by unfold KR.sp_law; exact ⟨a, ns, rfl, hS, hl, fun _ => rfl⟩, fun base _ _ => KR.ok_law T⟩
