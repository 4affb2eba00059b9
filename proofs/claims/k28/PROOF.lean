import PyProof.Rows.All
import Wide.All
import OpenK.AllK
import Wide.FinOn
import HandS.ForMost
import HandS.Exc
import HandS.TryOnly
import HandS.TryMany
import HandS.WordsExc
import HandS.Defaults
import HandS.MakeKwOnly
import HandS.IsInst
import HandS.Sort
import HandS.OwnEq
import HandS.NoneIn
import HandS.Conv
import HandS.Flow
import HandS.Wide
import HandS.Evl
import HandS.Style
import HandS.Head0
import HandS.Head1
import HandS.Head2
import HandS.HeadEnd
import HandS.HeadHook1
import HandS.HeadHook2
import KE.KStateDown
import PyProof.LongRange
import KE.KDictPairs
import HandS.TupSets
import HandS.Small
import HandS.Strs
import HandS.SortInts
import HandS.Deep
import HandS.DictComp
import HandS.DictTup
import HandS.SortRule
import HandS.ReplaceDef
import HandS.ClsMeth
import HandS.Walk
import HandS.Zip
import KE.KSuper
import PyProof.DictMoreH
import PyProof.SliceList
import PySem.Challenge.RW_keeprows_k28_events_of_each_row
set_option Elab.async false
set_option linter.all false
set_option maxRecDepth 100000
set_option maxHeartbeats 16000000
set_option pp.deepTerms false
set_option pp.deepTerms.threshold 2
namespace KR
open PySem PySem.Spec PyProof.Rows L2
/-! ### small rules -/
theorem iteB {c : Bool} {A B : Prop} (h1 : c = true → A) (h2 : c = false → B) : if c = true then A else B := by
  cases c with
  | true => exact h1 rfl
  | false => exact h2 rfl
theorem iteT_of {c : Bool} {A B : Prop} (h : c = true) (a : A) : if c = true then A else B := by subst h; exact iteT a
theorem iteF_of {c : Bool} {A B : Prop} (h : c = false) (b : B) : if c = true then A else B := by subst h; exact iteF b
@[irreducible] def rIsiI (K : PySem.W.Frag) : List V → Hp → VK → Prop := rIsi K
theorem call_isiI {X : Cx} : CallR X (.builtin "isinstance") (rIsiI X.K) := by unfold rIsiI; exact call_isi
theorem isi_int {K : PySem.W.Frag} {H : Hp} {i : Int} {Q : VK} (q : Q (.bl true) H) : rIsiI K [.int i, .ty "int"] H Q := by
  unfold rIsiI; exact ⟨_, _, _, _, true, rfl, .ty _, .base (.int i), kit_ty (by decide +kernel), q⟩
theorem isi_bool {K : PySem.W.Frag} {H : Hp} {i : Int} {Q : VK} (q : Q (.bl false) H) : rIsiI K [.int i, .ty "bool"] H Q := by
  unfold rIsiI; exact ⟨_, _, _, _, false, rfl, .ty _, .base (.int i), kit_ty (by decide +kernel), q⟩
theorem isi_list {K : PySem.W.Frag} {H : Hp} {a : Addr} {xs : List V} {Q : VK} (h : H a = some (.lst xs)) (q : Q (.bl true) H) : rIsiI K [.ref a, .ty "list"] H Q := by
  unfold rIsiI; exact ⟨_, _, _, _, true, rfl, .ty _, .base (.lst h), kit_ty (by decide +kernel), q⟩
theorem pe_le {X : Cx} {e : Expr} {t t' : TE} (h : PE X e t) (k : ∀ σ H Q, t' σ H Q → t σ H Q) : PE X e t' := ⟨fun pins s σ H Q I hw => h.run pins s σ H Q I (k σ H Q hw)⟩
theorem pe_powc {X : Cx} {a b c : Int} {i j : Nat} {p1 p2 pos : Pos} (h : 0 ≤ b ∧ b ≤ 1000000 ∧ a.natAbs < 2 ^ 64 ∧ a ^ b.toNat = c) :
    PE X (.BinOp (.Constant (.int a) i p1) .Pow (.Constant (.int b) j p2) pos) (tC (.int c)) :=
  pe_le (pe_op op_pow pe_int pe_int) fun σ H Q q => ⟨a, b, rfl, rfl, ⟨h.1, h.2.1, h.2.2.1⟩, (show Q (.int (a ^ b.toNat)) H by rw [h.2.2.2]; exact q)⟩
theorem pe_globi {X : Cx} {x : Str} {i : Int} {pos : Pos} (hm : ∃ t, X.mg x = some (.int i t)) (hg : Gl X x := by rfl) (hd : (x == ("__debug__" : Str)) = false := by decide) : PE X (.Name x pos) (tC (.int i)) := by
  obtain ⟨t, h⟩ := hm
  exact pe_glob hg h ⟨t, rfl⟩ hd
/-! ### side conditions of numbers -/
theorem log2_lt {n : Nat} {k : Nat} (h : n < 2 ^ k) (hk : 0 < k) : n.log2 < k := by
  by_cases hn : n = 0
  · subst hn; simpa using hk
  · exact (Nat.log2_lt hn).2 h
theorem cdw {i j : Int} (h0 : 0 < j) (h1 : j ≤ 1000000000000000000000000000000000000000000) : CDivW i j :=
  ⟨h0, log2_lt (Nat.lt_of_lt_of_le (Nat.lt_succ_of_le (show j.natAbs ≤ 1000000000000000000000000000000000000000000 by omega)) (by decide +kernel)) (by decide)⟩
theorem cdv {i j : Int} (h0 : 0 < j) (h1 : j < 1073741824) : CDiv i j := ⟨h0, h1⟩
theorem cml {i j : Int} (h0 : -18446744073709551616 < i) (h1 : i < 18446744073709551616) : CMul i j := .inl ⟨h0, h1⟩
theorem cmr {i j : Int} (h0 : -18446744073709551616 < j) (h1 : j < 18446744073709551616) : CMul i j := .inr ⟨h0, h1⟩
/-! ### heaps: what was tracked stands, but for one address -/
def SB (s : Addr) (H H' : Hp) : Prop := ∀ b o, b ≠ s → H b = some o → H' b = some o
theorem SB.refl {s : Addr} {H : Hp} : SB s H H := fun _ _ _ h => h
theorem SB.trans {s : Addr} {H H1 H2 : Hp} (a : SB s H H1) (b : SB s H1 H2) : SB s H H2 := fun c o n h => b c o n (a c o n h)
theorem _root_.L2.Same.sb {s : Addr} {H H' : Hp} (a : Same H H') : SB s H H' := fun c o _ h => a c o h
theorem SB.free {s : Addr} {H H' : Hp} (e : SB s H H') {l : Addr} (n : l ≠ s) (h : H' l = none) : H l = none := by
  cases q : H l with
  | none => rfl
  | some o => rw [e l o n q] at h; cases h
theorem SB.upd {s : Addr} {H : Hp} {o : HO} : SB s H (upd H s o) := fun b u n h => by rw [upd_ne n]; exact h
theorem same_new {H : Hp} {p : Addr} {o : HO} (h : H p = none) : Same H (upd H p o) := fun b u e => by rw [upd_ne (ne_of_none e h)]; exact e
theorem gen_new {H H' : Hp} {p : Addr} {o : HO} (n : H p = none) (e : upd H p o = H') : Same H H' ∧ H' p = some o := by
  subst e
  exact ⟨same_new n, upd_same⟩
/-- a new object, its heap a letter -/
theorem new_obj {H : Hp} {o : HO} {R : Addr → Hp → Prop} (h : ∀ p H', H p = none → Same H H' → H' p = some o → R p H') : ∀ p, H p = none → R p (upd H p o) :=
  fun p hp => h p _ hp (same_new hp) upd_same
theorem new_ref {H : Hp} {o : HO} {Q : VK} (h : ∀ p H', H p = none → Same H H' → H' p = some o → Q (.ref p) H') : ∀ p, H p = none → Q (.ref p) (upd H p o) :=
  fun p hp => h p _ hp (same_new hp) upd_same
theorem hp_same {H H' : Hp} {a : Addr} {o : HO} (s : Same H H') (h : H a = some o) : H' a = some o := s a o h
theorem hp_sb {s a : Addr} {H H' : Hp} {o : HO} (e : SB s H H') (n : a ≠ s) (h : H a = some o) : H' a = some o := e a o n h
end KR
namespace KR
open PySem PySem.Spec PyProof.Rows L2 MeetsSeq
/-! ### list + list where the left one may be of the written part -/
theorem add_any {l b : Addr} {items items2 : Array Value} {n n2 : Nat} {sl sl2 : Array (Option Value)} (hz : items.size + items2.size ≤ sizeLine) :
    Meets (Builtin.«list.__add__» ⟨[.ref l, .ref b], []⟩) (fun _ R s =>
      (s.heap.get? l = some ⟨.type "list", none, .seq items n, sl⟩ ∧ s.heap.get? b = some ⟨.type "list", none, .seq items2 n2, sl2⟩) ∧
      R (.ok (.ret (Value.ref s.heap.objs.size))) { s with heap := s.heap.push { cls := Value.type "list", data := Data.seq (items ++ items2) } }) :=
  .of_wp fun prog w A R s h => by
    obtain ⟨hp, g, d, tk, os⟩ := s
    obtain ⟨⟨e1, e2⟩, h⟩ := h
    have f1 := AutoSeq1.idx_int
    have f2 := AutoSeq1.sub_tuple_tuple
    have f3 := AutoSeq1.sub_list_list
    have f4 := AutoSeq1.sub_tuple_list
    have f5 := AutoSeq1.sub_list_tuple
    wp_walk using wpAny_loadPart' e1, wpAny_loadPart' e2
    exact ⟨_, rfl, h⟩
def rCatS (K : PySem.W.Frag) : R2 := fun x y H Q => ∃ l b xs zs, x = .ref l ∧ y = .ref b ∧ SqL K H l xs ∧ SqL K H b zs ∧ xs.length + zs.length ≤ 100000 ∧
  ∀ p H', H p = none → Same H H' → H' p = some (.lst (xs ++ zs)) → Q (.ref p) H'
theorem op_catS {X : Cx} : OpR X (binaryOp .Add) (rCatS X.K) := by
  intro pins s σ H x y v u Q I rx ry h
  obtain ⟨l, b, xs, zs, rfl, rfl, hl, hb, hz, q⟩ := h
  cases rx
  cases ry
  obtain ⟨its, r, ⟨o, n, e, ec, ed, es⟩, _⟩ := I.list hl
  obtain ⟨its2, r2, ⟨o2, n2, e2, ec2, ed2, es2⟩, _⟩ := I.list hb
  obtain ⟨c, d, dt, sl⟩ := o
  obtain ⟨c2, d2, dt2, sl2⟩ := o2
  dsimp only at ec ed es ec2 ed2 es2
  subst ec ed es ec2 ed2 es2
  have hlen : its.length + its2.length ≤ sizeLine := by
    rw [← r.length, ← r2.length]
    exact Nat.le_trans hz (by decide)
  refine concat_meets ⟨_, e, rfl⟩ ⟨_, e2, rfl⟩ noFill_list_add seq_list_add F.slot_list_add F.entry_list_add (F.args_list_add_2 _ _) (add_any (by rw [List.size_toArray, List.size_toArray]; exact hlen)) ⟨⟨e, e2⟩, ?_⟩
  have ea : its.toArray ++ its2.toArray = (its ++ its2).toArray := by simp
  rw [ea]
  have hn := I.fresh
  have J := I.lnew (t' := s.toks) (r.append r2) (by rw [List.length_append]; exact Nat.le_trans hz (by decide))
  exact ⟨.ref _, _, J, rfl, q _ _ hn (same_new hn) upd_same⟩
end KR
namespace KR
open PySem PySem.Spec PyProof.Rows L2
/-! ### frames -/
def SX (X : List Addr) (H H' : Hp) : Prop := ∀ b o, b ∉ X → H b = some o → H' b = some o
theorem SX.refl {X : List Addr} {H : Hp} : SX X H H := fun _ _ _ h => h
theorem SX.trans {X : List Addr} {H H1 H2 : Hp} (a : SX X H H1) (b : SX X H1 H2) : SX X H H2 := fun c o n h => b c o n (a c o n h)
theorem SX.mono {X Y : List Addr} {H H1 : Hp} (a : SX X H H1) (h : ∀ x ∈ X, x ∈ Y) : SX Y H H1 := fun c o n q => a c o (fun z => n (h c z)) q
theorem SB.sx {s : Addr} {X : List Addr} {H H1 : Hp} (a : SB s H H1) (h : s ∈ X) : SX X H H1 := fun c o n q => a c o (fun z => n (z ▸ h)) q
theorem _root_.L2.Same.sx {X : List Addr} {H H1 : Hp} (a : Same H H1) : SX X H H1 := fun c o _ q => a c o q
theorem SX.sb {s : Addr} {H H1 : Hp} (a : SX [s] H H1) : SB s H H1 := fun c o n q => a c o (by simpa using n) q
theorem SX.upd {X : List Addr} {H H' : Hp} {p : Addr} {o : HO} (a : SX X H H') (h : p ∈ X) : SX X H (upd H' p o) := fun c u n q => by
  have e : c ≠ p := fun z => n (by rw [z]; exact h)
  rw [upd_ne e]; exact a c u n q
theorem SX.mut {X : List Addr} {H H' : Hp} {p : Addr} {o : HO} (a : SX X H H') (h : H p = none) : SX X H (L2.upd H' p o) := fun c u n q => by
  rw [upd_ne (ne_of_none q h)]; exact a c u n q
theorem SB.mut {s : Addr} {H H' : Hp} {p : Addr} {o : HO} (a : SB s H H') (h : H p = none) : SB s H (L2.upd H' p o) := fun c u n q => by
  rw [upd_ne (ne_of_none q h)]; exact a c u n q
theorem _root_.L2.Same.mut {H H' : Hp} {p : Addr} {o : HO} (a : Same H H') (h : H p = none) : Same H (L2.upd H' p o) := fun c u q => by
  rw [upd_ne (ne_of_none q h)]; exact a c u q
theorem SX.drop {X : List Addr} {H H' : Hp} {p : Addr} (a : SX (p :: X) H H') (h : H p = none) : SX X H H' := fun c u n q => by
  refine a c u (fun z => ?_) q
  rcases List.mem_cons.mp z with e | e
  · rw [e, h] at q; cases q
  · exact n e
theorem szl {n : Nat} (h : n ≤ 100000) : n ≤ sizeLine := Nat.le_trans h (by decide)
theorem szlt {n : Nat} (h : n ≤ 100000) : n < sizeLine := Nat.lt_of_le_of_lt h (by decide)
theorem atI_int {xs : List V} {i : Int} {j : Nat} {v : V} (hi : i = (j : Int)) (h : xs[j]? = some v) : atI xs i = some v := by subst hi; exact atI_nat h
theorem at_of_lt {xs : List V} {i : Int} (h0 : 0 ≤ i) (h1 : i < xs.length) : ∃ v, v ∈ xs ∧ atI xs i = some v ∧ xs[i.toNat]? = some v := by
  have h : i.toNat < xs.length := by omega
  refine ⟨xs[i.toNat], List.getElem_mem h, ?_, List.getElem?_eq_getElem h⟩
  have e : i = (i.toNat : Int) := by omega
  exact atI_int (xs := xs) (v := xs[i.toNat]) e (List.getElem?_eq_getElem h)
theorem map_some {ns : List Int} {i : Nat} {v : V} (h : (ns.map V.int)[i]? = some v) : ∃ z, ns[i]? = some z ∧ v = .int z := by
  rw [List.getElem?_map] at h
  cases e : ns[i]? with
  | none => rw [e] at h; cases h
  | some z => rw [e] at h; exact ⟨z, rfl, (Option.some.inj h).symm⟩
theorem gen_st {H H' : Hp} {a : Addr} {o : HO} (e : upd H a o = H') : SB a H H' ∧ H' a = some o := by subst e; exact ⟨SB.upd, upd_same⟩
theorem lt1000 {n : Nat} (h : Nat.ble (n + 1) 1000 = true) : n < 1000 := Nat.le_of_ble_eq_true h
theorem kb_of {K : PySem.W.Frag} {x qual : Str} {params : Arguments} {body : List Stmt} {scope : Scope} {f : Addr} {fd : FuncData} {ps : List Str} (F : FunD K x qual params body scope [] [] f fd) (n : Nat) (ks : List Str)
    (g : {α : Type} → List α → List α → List α) (hrel : ∀ {vs zs : List V} {us ws : List Value}, Vals vs us → Vals zs ws → vs.length = n → zs.length = ks.length → Vals (g vs zs) (g us ws))
    (h : ∀ (kV doc pm : Value) (an : Option Addr) (cdv ct : Value) (us ws : List Value), us.length = n → ws.length = ks.length → bindArgs (PySem.W.fnOf x qual params body scope .none kV doc pm an cdv ct) ⟨us, ks.zip ws⟩ = pure (ps.zip (g us ws)))
    (hb : ∀ {vs zs : List V} {us ws : List Value}, Vals vs us → Vals zs ws → Vals (g vs zs) (g us ws)) :
    KBn K fd ps n ks (fun us ws => g us ws) (fun vs zs => g vs zs) := by
  obtain ⟨oc, od, dV, kV, doc, pm, an, cdv, ct, osl, rfl, lk, hcd, hD, hK⟩ := F.ex
  rcases hD with ⟨_, rfl⟩ | ⟨e, _⟩
  · exact ⟨fun s us ws _ l1 l2 => BindsTo.of_eq (h kV doc pm an cdv ct us ws l1 l2), fun r1 r2 => hb r1 r2⟩
  · exact absurd rfl e
/-- keywords in the parameters' order -/
theorem kb_app {K : PySem.W.Frag} {x qual : Str} {params : Arguments} {body : List Stmt} {scope : Scope} {f : Addr} {fd : FuncData} {ps : List Str} (F : FunD K x qual params body scope [] [] f fd) (n : Nat) (ks : List Str)
    (h : ∀ (kV doc pm : Value) (an : Option Addr) (cdv ct : Value) (us ws : List Value), us.length = n → ws.length = ks.length → bindArgs (PySem.W.fnOf x qual params body scope .none kV doc pm an cdv ct) ⟨us, ks.zip ws⟩ = pure (ps.zip (us ++ ws))) :
    KBn K fd ps n ks (fun us ws => us ++ ws) (fun vs zs => vs ++ zs) := kb_of F n ks (fun a b => a ++ b) (fun r1 r2 _ _ => r1.append r2) h fun r1 r2 => r1.append r2
theorem gen_mk {H H' : Hp} {x dx : Addr} {o u : HO} (n : H x = none) (nd : H dx = none) (e : upd (upd H dx u) x o = H') : Same H H' ∧ H' x = some o := by
  subst e
  exact ⟨fun b v h => by rw [upd_ne (ne_of_none h n), upd_ne (ne_of_none h nd)]; exact h, upd_same⟩
theorem same_sb_new {H H1 H2 : Hp} {x : Addr} (a : Same H H1) (b : SB x H1 H2) (n : H x = none) : Same H H2 := fun c o h => b c o (ne_of_none h n) (a c o h)
/-! ### the head's facts, and a further Bool -/
def obsB (n : Nat) (fa : List He.Fa) (fn : List He.DefD) (ex : PySem.W.Frag → Bool) (g : Addr → Option Obj) : He.AlD :=
  ((He.obsD fa fn (He.frG g (He.asD g n))).1 && ex (He.frG g (He.asD g n)), (He.obsD fa fn (He.frG g (He.asD g n))).2)
def hookB (n : Nat) (fa : List He.Fa) (fn : List He.DefD) (ex : PySem.W.Frag → Bool) : PySem.W.Hook where
  α := He.AlD
  obs := fun s => obsB n fa fn ex s.heap.get?
  val := fun _ => He.valD fn
  says := fun _ h => ∃ K : PySem.W.Frag, K.In h ∧ He.SaysD fa fn K ∧ ex K = true
  of := fun _ s e => by
    refine ⟨He.frG s.heap.get? (He.asD s.heap.get? n), He.frG_in, ?_⟩
    have e1 : ((He.obsD fa fn (He.frG s.heap.get? (He.asD s.heap.get? n))).1 && ex (He.frG s.heap.get? (He.asD s.heap.get? n))) = true := congrArg (fun z : He.AlD => z.1) e
    have e2 : (obsB n fa fn ex s.heap.get?).2 = (He.valD fn).2 := congrArg (fun z : He.AlD => z.2) e
    obtain ⟨h1, h2⟩ := He.ba e1
    exact ⟨Prod.ext h1 e2, h2⟩
  keeps := fun _ _ _ h k => by
    obtain ⟨K, hK, c⟩ := h
    exact ⟨K, PySem.W.Frag.In.keeps hK k, c⟩
theorem obsB_eq {n : Nat} {fa : List He.Fa} {fn : List He.DefD} {ex : PySem.W.Frag → Bool} {g : Addr → Option Obj} {s : Shared} (h : ∀ a, g a = s.heap.get? a) : obsB n fa fn ex g = (hookB n fa fn ex).obs s := by
  have e : g = s.heap.get? := funext h
  subst e
  rfl
/-- what isinstance wants of a class -/
structure IsC (K : PySem.W.Frag) (C : Addr) : Prop where
  cl : PySem.W.findIn K (.ref C) "__class__" = some (some (.builtin "object.__class__"))
  g : PySem.W.specialIn K (.builtin "object.__class__") "__get__" = some (some (.builtin "getset_descriptor.__get__"))
  t : PySem.W.takesIn K (.builtin "object.__class__") = some true
  m : PySem.W.mroIn K C (.type "object") = some true
def isCB (C : Str) (K : PySem.W.Frag) : Bool :=
  decide (PySem.W.findIn K (.ref (He.ga K C)) "__class__" = some (some (.builtin "object.__class__"))) && (decide (PySem.W.specialIn K (.builtin "object.__class__") "__get__" = some (some (.builtin "getset_descriptor.__get__"))) &&
    (decide (PySem.W.takesIn K (.builtin "object.__class__") = some true) && decide (PySem.W.mroIn K (He.ga K C) (.type "object") = some true)))
theorem isCB_ok {C : Str} {K : PySem.W.Frag} (h : isCB C K = true) : IsC K (He.ga K C) := by
  unfold isCB at h
  obtain ⟨h1, h⟩ := He.ba h
  obtain ⟨h2, h⟩ := He.ba h
  obtain ⟨h3, h4⟩ := He.ba h
  exact ⟨of_decide_eq_true h1, of_decide_eq_true h2, of_decide_eq_true h3, of_decide_eq_true h4⟩
def kitB1 (ty : String) (C : Str) (b : Bool) (K : PySem.W.Frag) : Bool := decide (PySem.W.kitOne K (.type ty) (.ref (He.ga K C)) = some b)
def kitB2 (C : Str) (ty : String) (b : Bool) (K : PySem.W.Frag) : Bool := decide (PySem.W.kitOne K (.ref (He.ga K C)) (.type ty) = some b)
def kitB3 (C D : Str) (b : Bool) (K : PySem.W.Frag) : Bool := decide (PySem.W.kitOne K (.ref (He.ga K C)) (.ref (He.ga K D)) = some b)
theorem isi_own {K : PySem.W.Frag} {H : Hp} {a C dx D : Addr} {fs : List (Str × V)} {b : Bool} {Q : VK} (h : H a = some (.ins C dx fs)) (c : Cls K C) (i : IsC K C) (k : PySem.W.kitOne K (.ref C) (.ref D) = some b) (q : Q (.bl b) H) :
    rIsiI K [.ref a, .ref D] H Q := by
  unfold rIsiI; exact ⟨_, _, _, _, b, rfl, .own _, .base (.ins h c i.cl i.g i.t i.m), k, q⟩
theorem none_all {l : List Str} {fs : List (Str × V)} (h : (l.all fun x => (List.lookup x fs).isNone) = true) : ∀ x ∈ l, List.lookup x fs = none := fun x hx => by
  have := List.all_eq_true.mp h x hx
  exact Option.isNone_iff_eq_none.mp this
/-! ### data without bools: == is equality -/
mutual
def nbD : PyData → Bool
  | .none => true
  | .int _ => true
  | .str x => PyData.strOk x
  | .list xs => nbA xs
  | .tuple xs => nbA xs
  | .bool _ => false
  | .dict _ => false
def nbA : List PyData → Bool
  | [] => true
  | x :: xs => nbD x && nbA xs
end
mutual
theorem nb_lay : ∀ d : PyData, nbD d = true → PyData.canLay0 d = true
  | .none, _ => rfl
  | .int _, _ => rfl
  | .str x, h => h
  | .list xs, h => nb_layA xs h
  | .tuple xs, h => nb_layA xs h
  | .bool _, h => by cases h
  | .dict _, h => by cases h
theorem nb_layA : ∀ ds : List PyData, nbA ds = true → PyData.canLayAll0 ds = true
  | [], _ => rfl
  | x :: xs, h => by
    obtain ⟨h1, h2⟩ := He.ba (show (nbD x && nbA xs) = true from h)
    show (PyData.canLay0 x && PyData.canLayAll0 xs) = true
    rw [nb_lay x h1, nb_layA xs h2]
    rfl
end
mutual
theorem eqv_nb : ∀ d e : PyData, nbD d = true → nbD e = true → (PyData.eqv d e = true ↔ d = e)
  | .none, e, _, he => by cases e <;> simp_all [PyData.eqv, nbD]
  | .int i, e, _, he => by cases e <;> simp_all [PyData.eqv, nbD]
  | .str x, e, _, he => by cases e <;> simp_all [PyData.eqv, nbD]
  | .list xs, e, hd, he => by
    cases e with
    | list ys =>
      have k := eqv_nbA xs ys hd he
      constructor
      · intro h
        exact congrArg PyData.list (k.mp (by simpa [PyData.eqv] using h))
      · intro h
        injection h with h
        simpa [PyData.eqv] using k.mpr h
    | _ => simp_all [PyData.eqv, nbD]
  | .tuple xs, e, hd, he => by
    cases e with
    | tuple ys =>
      have k := eqv_nbA xs ys hd he
      constructor
      · intro h
        exact congrArg PyData.tuple (k.mp (by simpa [PyData.eqv] using h))
      · intro h
        injection h with h
        simpa [PyData.eqv] using k.mpr h
    | _ => simp_all [PyData.eqv, nbD]
  | .bool _, _, hd, _ => by cases hd
  | .dict _, _, hd, _ => by cases hd
theorem eqv_nbA : ∀ ds es : List PyData, nbA ds = true → nbA es = true → (PyData.eqvAll ds es = true ↔ ds = es)
  | [], [], _, _ => by simp [PyData.eqvAll]
  | [], _ :: _, _, _ => by simp [PyData.eqvAll]
  | _ :: _, [], _, _ => by simp [PyData.eqvAll]
  | x :: xs, y :: ys, hd, he => by
    obtain ⟨h1, h2⟩ := He.ba (show (nbD x && nbA xs) = true from hd)
    obtain ⟨h3, h4⟩ := He.ba (show (nbD y && nbA ys) = true from he)
    have k1 := eqv_nb x y h1 h3
    have k2 := eqv_nbA xs ys h2 h4
    simp only [PyData.eqvAll, Bool.and_eq_true, List.cons.injEq, k1, k2]
end
/-- d, without bools, not deep -/
def NB (d : PyData) : Prop := nbD d = true ∧ PyData.depth d ≤ 64
@[irreducible] def rEqN (K : PySem.W.Frag) : R2 := fun x y H Q => ∃ d e, Dp K H x d ∧ Dp K H y e ∧ NB d ∧ NB e ∧ ∀ b, (b = true ↔ d = e) → Q (.bl b) H
@[irreducible] def rNeN (K : PySem.W.Frag) : R2 := fun x y H Q => ∃ d e, Dp K H x d ∧ Dp K H y e ∧ NB d ∧ NB e ∧ ∀ b, (b = true ↔ ¬ d = e) → Q (.bl b) H
theorem NB.sh {d : PyData} (h : NB d) : SeqAt.shaped d = true := by
  unfold SeqAt.shaped
  rw [nb_lay d h.1, decide_eq_true h.2]
  rfl
theorem op_eqN {X : Cx} (hu : X.A.units + 64 < cLine) : OpR X (compareOp .Eq) (rEqN X.K) := by
  intro pins s σ H x y v u Q I rx ry h
  unfold rEqN at h
  obtain ⟨d, e, hd, he, n1, n2, q⟩ := h
  exact op_eqD hu pins s σ H x y v u Q I rx ry ⟨d, e, hd, he, n1.sh, n2.sh, q _ (eqv_nb d e n1.1 n2.1)⟩
theorem op_neN {X : Cx} (hu : X.A.units + 64 < cLine) : OpR X (compareOp .NotEq) (rNeN X.K) := by
  intro pins s σ H x y v u Q I rx ry h
  unfold rNeN at h
  obtain ⟨d, e, hd, he, n1, n2, q⟩ := h
  refine op_neD hu pins s σ H x y v u Q I rx ry ⟨d, e, hd, he, n1.sh, n2.sh, q _ ?_⟩
  have k := eqv_nb d e n1.1 n2.1
  cases hb : PyData.eqv d e with
  | true => rw [hb] at k; simp [k.mp rfl]
  | false => rw [hb] at k; simp at k; simp [k]
theorem use_eqN {K : PySem.W.Frag} {H : Hp} {x y : V} {d e : PyData} {Q : VK} (hx : Dp K H x d) (hy : Dp K H y e) (n1 : NB d) (n2 : NB e) (q : ∀ b, (b = true ↔ d = e) → Q (.bl b) H) : rEqN K x y H Q := by unfold rEqN; exact ⟨d, e, hx, hy, n1, n2, q⟩
theorem use_neN {K : PySem.W.Frag} {H : Hp} {x y : V} {d e : PyData} {Q : VK} (hx : Dp K H x d) (hy : Dp K H y e) (n1 : NB d) (n2 : NB e) (q : ∀ b, (b = true ↔ ¬ d = e) → Q (.bl b) H) : rNeN K x y H Q := by unfold rNeN; exact ⟨d, e, hx, hy, n1, n2, q⟩
/-! lists of pyi as data -/
def pyi (xs : List Int) : List PyData := xs.map PyData.int
theorem dp_pyi {K : PySem.W.Frag} {H : Hp} : ∀ xs : List Int, DpAll K H (xs.map V.int) (pyi xs)
  | [] => .nil
  | x :: xs => .cons (.int x) (dp_pyi xs)
theorem nb_ints : ∀ xs : List Int, nbA (pyi xs) = true
  | [] => rfl
  | x :: xs => by
    show (nbD (.int x) && nbA (pyi xs)) = true
    rw [nb_ints xs]
    rfl
theorem dep_ints : ∀ xs : List Int, PyData.depthAll (pyi xs) = 0
  | [] => rfl
  | x :: xs => by
    show max (PyData.depth (.int x)) (PyData.depthAll (pyi xs)) = 0
    rw [dep_ints xs]
    rfl
theorem nb_list (xs : List Int) : NB (.list (pyi xs)) := ⟨nb_ints xs, by show PyData.depthAll (pyi xs) + 1 ≤ 64; rw [dep_ints]; decide⟩
theorem nb_tup (xs : List Int) : NB (.tuple (pyi xs)) := ⟨nb_ints xs, by show PyData.depthAll (pyi xs) + 1 ≤ 64; rw [dep_ints]; decide⟩
theorem ints_inj {xs ys : List Int} (h : pyi xs = pyi ys) : xs = ys := by
  have := congrArg (fun z : List PyData => z.map fun d => match d with | .int i => i | _ => 0) h
  simpa [pyi, List.map_map, Function.comp_def] using this
theorem list_ints {xs ys : List Int} : PyData.list (pyi xs) = PyData.list (pyi ys) ↔ xs = ys := ⟨fun h => ints_inj (by injection h), fun h => by rw [h]⟩
theorem tup_ints {xs ys : List Int} : PyData.tuple (pyi xs) = PyData.tuple (pyi ys) ↔ xs = ys := ⟨fun h => ints_inj (by injection h), fun h => by rw [h]⟩
/-! ### the rules, the written part named (a comprehension's block has the def's) -/
section
variable {X : Cx} {K : PySem.W.Frag}
theorem ix_listK (h : X.K = K := by rfl) : IxR X (rIxL K) := h ▸ ix_list
theorem ix_tupK (h : X.K = K := by rfl) : IxR X (rIxT K) := h ▸ ix_tup
def rLenN (K : PySem.W.Frag) : List V → Hp → VK → Prop := fun xs H Q => ∃ p ys, xs = [.ref p] ∧ (SqL K H p ys ∨ SqT K H p ys) ∧ Q (.int ys.length) H
theorem call_lenK (h : X.K = K := by rfl) : CallR X (.builtin "len") (rLenN K) := h ▸ call_len_seq
def rListN (K : PySem.W.Frag) : List V → Hp → VK → Prop := fun xs H Q => ∃ p ys, xs = [.ref p] ∧ (SqL K H p ys ∨ SqT K H p ys) ∧ ∀ l, H l = none → Q (.ref l) (upd H l (.lst ys))
theorem call_listK (h : X.K = K := by rfl) : CallR X (.type "list") (rListN K) := h ▸ call_list_of
def rTupN (K : PySem.W.Frag) : List V → Hp → VK → Prop := fun xs H Q => ∃ p ys, xs = [.ref p] ∧ ((SqL K H p ys ∧ ∀ l, H l = none → Q (.ref l) (upd H l (.tup ys))) ∨ (SqT K H p ys ∧ Q (.ref p) H))
theorem call_tupK (h : X.K = K := by rfl) : CallR X (.type "tuple") (rTupN K) := h ▸ call_tuple_of
theorem op_catSK (h : X.K = K := by rfl) : OpR X (binaryOp .Add) (rCatS K) := h ▸ op_catS
theorem op_inK (h : X.K = K := by rfl) : OpR X (compareOp .In) (rIn K false) := h ▸ op_in_seq
theorem op_notInK (h : X.K = K := by rfl) : OpR X (compareOp .NotIn) (rIn K true) := h ▸ op_notIn_seq
theorem op_eqNK (hu : X.A.units + 64 < cLine) (h : X.K = K := by rfl) : OpR X (compareOp .Eq) (rEqN K) := h ▸ op_eqN hu
theorem op_neNK (hu : X.A.units + 64 < cLine) (h : X.K = K := by rfl) : OpR X (compareOp .NotEq) (rNeN K) := h ▸ op_neN hu
theorem sl_listK (h : X.K = K := by rfl) : SlR X (rSlL K) := h ▸ sl_list
theorem sl_tupK (h : X.K = K := by rfl) : SlR X (rSlT K) := h ▸ sl_tup
theorem cr_sumK (hc : X.calm = true) (h : X.K = K := by rfl) : CallR X (.builtin "sum") (rSum K) := h ▸ cr_sum hc
theorem cr_maxK (hc : X.calm = true) (h : X.K = K := by rfl) : CallR X (.builtin "max") (rMax K) := h ▸ cr_max hc
theorem cr_minK (hc : X.calm = true) (h : X.K = K := by rfl) : CallR X (.builtin "min") (rMin K) := h ▸ cr_min hc
theorem call_isiK2 (h : X.K = K := by rfl) : CallR X (.builtin "isinstance") (rIsiI K) := h ▸ call_isiI
theorem pe_fldK {e : Expr} {ta : TE} {f : Str} {pos : Pos} (he : PE X e ta) (hb : attributeBase e f X.env (eval e X.env) = eval e X.env) (h : X.K = K := by rfl) : PE X (.Attribute e f pos) (tFld K ta f) := h ▸ pe_fld he hb
end
end KR
namespace KR
open PySem PySem.Spec PyProof.Rows L2
/-! ### ranges of any size, by ones -/
theorem turn_long {P : Program} {w : World} {K : PySem.W.Frag} {tg : Expr} (j : Addr) (lo : Int) (n : Nat) : Turn P w K tg (Itr lo n) [j] j (fun i h => IsLongIter h j (lo + (i : Nat) * 1) ((n : Int) - (i : Nat)) 1) where
  mem := List.mem_singleton.mpr rfl
  obj := fun i h q b hb => by
    rw [List.mem_singleton.mp hb]
    exact ⟨_, q, fun v z => by
      have y : Data.fields _ = Data.cell v := z
      cases y⟩
  keep := fun i h h' q k => k j (List.mem_singleton.mpr rfl) _ q
  item := by
    intro Y e1 e2 e3 hc i pins s σ H E I fp q g
    subst e1 e2 e3
    obtain ⟨a0, a1, a2, a3, a4, a5⟩ := fp j (List.mem_singleton.mpr rfl)
    refine (Walks.longrange (prog := Y.prog) (w := Y.w) (I.ok.hd hc) j lo 1 n).item i s _ _ g q fun v h' tk hv q' kk => ?_
    obtain ⟨t, rfl⟩ := hv
    have J : Inv Y pins σ H { s with heap := h', toks := tk } := I.turned (fun b o hb e => kk b o (by simpa using hb) e) a0 a1 a3 a4 a5
    exact ⟨_, rfl, go_of (s := { s with heap := h', toks := tk }) (n := "longrange_iterator") q' rfl rfl (by decide) ⟨.int (lo + i), H, J, ⟨t, by rw [Int.mul_one]⟩, ⟨rfl, rfl⟩, q', fun b hb => (fp b hb).1⟩⟩
  done := by
    intro Y e1 e2 e3 hc i pins s σ H E I fp q g
    subst e1 e2 e3
    obtain ⟨a0, a1, a2, a3, a4, a5⟩ := fp j (List.mem_singleton.mpr rfl)
    have hle : n ≤ i := g
    exact wpAny_pyNext_long_end (I.ok.hd hc) q (by omega) fun h' eb => ⟨rfl, I.turned (t' := s.toks) (fun b o hb e => eb b o hb e) a0 a1 a3 a4 a5⟩
  self := fun _ _ _ _ _ q h => wpAny_pyIter_longiter q h
section
variable {X : Cx} {tg : Expr}
theorem long_it {pins : List (Addr × Obj)} {σ : L2.St} {H : Hp} {s : Shared} {R : It → Hp → Prop} {E : Value → Shared → Prop} {lo hi : Int} {t u v : Tok} {tk : Nat} (I : Inv X pins σ H s) (hb : Builtin.Range.small lo hi 1 = false)
    (q : R (Itr lo (hi - lo).toNat) H) : wpAny (model X.prog X.w) X.A (pyIter (.ref s.heap.objs.size)) (PIE X pins σ tg R) E { s with heap := s.heap.push { cls := .type "range", data := .fields #[.int lo t, .int hi u, .int 1 v] }, toks := tk } := by
  refine wpAny_pyIter_longrange (IsRange.new ..) hb ?_
  have J := I.kept (h' := s.heap.push { cls := .type "range", data := .fields #[.int lo t, .int hi u, .int 1 v] }) (t' := tk) fun b o e => Heap.get?_push_of_some _ e
  refine ⟨_, [_], _, _, H, rfl, J.kept (t' := tk) fun b o e => Heap.get?_push_of_some _ e, turn_long _ lo (hi - lo).toNat, ?_, fun b hb => ?_, q⟩
  · have f1 : lo + ((0 : Nat) : Int) * 1 = lo := by simp
    have f2 : (((hi - lo).toNat : Nat) : Int) - ((0 : Nat) : Int) = Builtin.Range.rangeSize lo hi 1 := by
      rw [rangeSize_one]
      split <;> omega
    show IsLongIter _ _ (lo + ((0 : Nat) : Int) * 1) ((((hi - lo).toNat : Nat) : Int) - ((0 : Nat) : Int)) 1
    rw [f1, f2]
    exact Heap.get?_push_size _ rfl
  · rw [List.mem_singleton.mp hb]
    exact J.fpOk (Nat.le_refl _) (J.hok.fresh (Nat.le_refl _))
/-- small with the bounds that the library's rule wants, or any size -/
theorem any_it {pins : List (Addr × Obj)} {σ : L2.St} {H : Hp} {s : Shared} {R : It → Hp → Prop} {E : Value → Shared → Prop} {lo hi : Int} {t u v : Tok} {tk : Nat} (I : Inv X pins σ H s)
    (q : R (Itr lo (hi - lo).toNat) H) : wpAny (model X.prog X.w) X.A (pyIter (.ref s.heap.objs.size)) (PIE X pins σ tg R) E { s with heap := s.heap.push { cls := .type "range", data := .fields #[.int lo t, .int hi u, .int 1 v] }, toks := tk } := by
  cases hb : Builtin.Range.small lo hi 1 with
  | false => exact long_it I hb q
  | true =>
    refine wpAny_pyIter_range (IsRange.new ..) hb ?_
    have J := I.kept (h' := s.heap.push { cls := .type "range", data := .fields #[.int lo t, .int hi u, .int 1 v] }) (t' := tk) fun b o e => Heap.get?_push_of_some _ e
    refine ⟨_, [_], _, _, H, rfl, J.kept (t' := tk) fun b o e => Heap.get?_push_of_some _ e, turn_range _ lo (hi - lo).toNat, ?_, fun b hb => ?_, q⟩
    · have f1 : lo + ((0 : Nat) : Int) * 1 = lo := by simp
      have f2 : (((hi - lo).toNat : Nat) : Int) - ((0 : Nat) : Int) = Builtin.Range.rangeSize lo hi 1 := by
        rw [rangeSize_one]
        split <;> omega
      show IsRangeIter _ _ (lo + ((0 : Nat) : Int) * 1) ((((hi - lo).toNat : Nat) : Int) - ((0 : Nat) : Int)) 1
      rw [f1, f2]
      exact Heap.get?_push_size _ rfl
    · rw [List.mem_singleton.mp hb]
      exact J.fpOk (Nat.le_refl _) (J.hok.fresh (Nat.le_refl _))
def iRngB (ta : TA) : TI := fun σ H R => ta σ H fun vs H1 => ∃ i j : Int, vs = [.int i, .int j] ∧ R (Itr i (j - i).toNat) H1
theorem pi_rangeB {a b : Expr} {ta : TA} {p pos : Pos} (hg : Gl X "range") (hm : X.mg "range" = none) (ha : PA X [a, b] ta) (hs : starEach [a, b] X.env = [(false, eval a X.env), (false, eval b X.env)] := by rfl) (hs2 : starEach [b] X.env = [(false, eval b X.env)] := by rfl) :
    PI X tg (.Call (.Name "range" p) [a, b] [] pos) (iRngB ta) := by
  refine ⟨fun pins s σ H R I h => ?_⟩
  refine Call_ (ld_blt I hg hm boot_range (PyProof.Rows.callWith_type1 (thn (ha.run pos pins s σ H _ I h) fun us s1 z => ?_) (by rw [hs, hs2]) (by rw [hs2]; rfl)))
  obtain ⟨vs, H1, I1, r1, i, j, e, q⟩ := z
  subst e
  obtain ⟨u1, u2, e, ⟨t, e1⟩, ⟨t', e2⟩⟩ := vals2 r1
  subst e e1 e2
  exact call_range_2 (any_it I1 q)
end
end KR
namespace PySem.W
open PySem PySem.Calls PyProof.Rows Builtin
section
variable {prog : Program} {w : World} {A : Around} {E : Value → Shared → Prop} {s : Shared} {K : Frag} {x C L f : Addr} {h₀ : Heap} {m : Str → Option Value} {ox : Obj} {od : Option Obj} {b tb : Value}
/-- != of an instance whose class has its own __eq__ and object's __ne__ -/
theorem ne_own {Q : Value → Shared → Prop} (hu : A.units + 1 < cLine) (X : K.In s.heap) (I : InstAt s.heap x ox C od) (hb : Looks (model prog w) s.heap (typeOf b) tb) (hn : notFirst K C tb = true)
    (hs : findIn K (.ref C) "__eq__" = some (some (.ref f))) (hf : isFn K (.ref f) = true) (hne : findIn K (.ref C) "__ne__" = some (some (.builtin "object.__ne__"))) (hob : mroIn K C (.type "object") = some true)
    (h : wpAny (model prog w) A.in1 (call (.ref f) [.ref x, b]) (fun v s' => ∃ r, v = .bool r ∧ Q (.bool (!r)) s') E s) : wpAny (model prog w) A (richCompare .NotEq (.ref x) b) Q E s := by
  have S : Slot "object" "__ne__" "object.__ne__" := F.cmp_object.ne
  have body : wpAny (model prog w) A.in1 (Builtin.«object.__ne__» ⟨[.ref x, b], []⟩) (fun fin s' => match fin with | .done g => wants (fun v s' => ∃ r, v = .bool r ∧ Q v s') E (.ok g) s' | .again c' => c'.quiet = true ∧ codeAny (model prog w) A c' (wants (fun v s' => ∃ r, v = .bool r ∧ Q v s') E) s') (fun e s' => wants (fun v s' => ∃ r, v = .bool r ∧ Q v s') E (.error e) s') s := by
    unfold Builtin.«object.__ne__»
    have hu1 : A.in1.units < cLine := hu
    refine wpAny_bind (wpAny_pure ?_)
    refine wpAny_bind (wpAny_cRoomFor hu1 ?_)
    refine wpAny_bind (ifBound_K X I hs hf (wpAny_mono h (fun v s' hv => ?_) fun _ _ e => e))
    obtain ⟨r, rfl, q⟩ := hv
    dsimp only
    refine wpAny_bind (wpAny_truthy_bool ?_)
    exact wpAny_pure ⟨_, rfl, q⟩
  have one : wpAny (model prog w) A (tryCompare (.ref x) "__ne__" b) (fun r s' => ∃ v, r = some v ∧ Q v s') E s := by
    unfold tryCompare
    refine wpAny_bind ?_
    simp only [callSpecialIfBound?, bindSpecialIfBound?]
    refine wpAny_holding (wpAny_bind (wpAny_bind (wpAny_bind (I.type.here ((looks_findIn X hne).here ?_)))))
    simp only [S.bind]
    refine wpAny_bind (wpAny_askSetting (wpAny_ite ?_))
    have hcall : wpAny (model prog w) A (call (.builtin "object.__ne__") [.ref x, b]) (fun v s' => ∃ r, v = .bool r ∧ Q v s') E s := by
      refine wpAny_call (codeAny_call_builtin S.plain F.cmpEntry_ne (check_slot F.cmpKind_ne F.cmpSplit_ne (I.type.andThen (looks_mroIn X hob)) (F.cmpArgs_ne _ _) body))
    have fin : wpAny (model prog w) A (call (.builtin "object.__ne__") ([.ref x] ++ [b]) >>= fun v => pure (some v)) (fun (r : Option Value) s' => wpAny (model prog w) A (match r with | some .notImplemented | none => pure none | some v => pure (some v)) (fun r s' => ∃ v, r = some v ∧ Q v s') E s') E s := by
      refine wpAny_bind (wpAny_mono hcall (fun v s' h' => ?_) fun _ _ h' => h')
      obtain ⟨r, rfl, q⟩ := h'
      exact wpAny_pure (wpAny_pure ⟨_, rfl, q⟩)
    split
    · exact wpAny_bind (wpAny_pure (wpAny_pure fin))
    · exact wpAny_tryCatch (wpAny_bind (wpAny_pure (wpAny_pure fin)))
  have hu0 : A.units < cLine := Nat.lt_of_succ_lt hu
  unfold richCompare
  simp only [oneThing_ref]
  refine wpAny_holding (wpAny_bind (wpAny_cRoomFor hu0 ?_))
  refine wpAny_bind (I.type.here (wpAny_bind (hb.here ?_)))
  split
  · rename_i q
    have e : subIn K tb (.ref C) = some false := by
      rcases Bool.or_eq_true_iff.mp hn with e | e
      · rw [beq_iff_eq.mp e] at q; simp at q
      · exact beq_iff_eq.mp e
    refine wpAny_bind ((looks_subIn X e).here ?_)
    simp only [Bool.false_eq_true, if_false]
    refine wpAny_bind (wpAny_mono one (fun r s' z => ?_) fun _ _ e => e)
    obtain ⟨v, rfl, hq⟩ := z
    exact wpAny_pure hq
  · refine wpAny_bind (wpAny_pure ?_)
    simp only [Bool.false_eq_true, if_false]
    refine wpAny_bind (wpAny_mono one (fun r s' z => ?_) fun _ _ e => e)
    obtain ⟨v, rfl, hq⟩ := z
    exact wpAny_pure hq
end
end PySem.W
namespace KR
open PySem PySem.Spec PyProof.Rows L2
/-- what == by an own __eq__ wants of the class -/
structure EqC (K : PySem.W.Frag) (C : Addr) : Prop where
  nf : ∀ t ∈ (["int", "NoneType", "bool", "str", "list", "tuple", "dict"] : List String), PySem.W.notFirst K C (.type t) = true
  ne : PySem.W.findIn K (.ref C) "__ne__" = some (some (.builtin "object.__ne__"))
  ob : PySem.W.mroIn K C (.type "object") = some true
def eqCB (C : Str) (K : PySem.W.Frag) : Bool :=
  ((["int", "NoneType", "bool", "str", "list", "tuple", "dict"] : List String).all fun t => PySem.W.notFirst K (He.ga K C) (.type t)) &&
    (decide (PySem.W.findIn K (.ref (He.ga K C)) "__ne__" = some (some (.builtin "object.__ne__"))) && decide (PySem.W.mroIn K (He.ga K C) (.type "object") = some true))
theorem eqCB_ok {C : Str} {K : PySem.W.Frag} (h : eqCB C K = true) : EqC K (He.ga K C) := by
  unfold eqCB at h
  obtain ⟨h1, h⟩ := He.ba h
  obtain ⟨h2, h3⟩ := He.ba h
  exact ⟨fun t ht => List.all_eq_true.mp h1 t ht, of_decide_eq_true h2, of_decide_eq_true h3⟩
/-- the other side: a plain value, a list, a tuple or an instance of the same class -/
def OthV (K : PySem.W.Frag) (C : Addr) (H : Hp) : V → Prop
  | .int _ | .non | .bl _ | .str _ => True
  | .ref b => (∃ xs, SqL K H b xs) ∨ (∃ xs, SqT K H b xs) ∨ ∃ dx fs, H b = some (.ins C dx fs)
  | _ => False
theorem OthV.looks {X : Cx} {C : Addr} {pins : List (Addr × Obj)} {s : Shared} {σ : L2.St} {H : Hp} {y : V} {u : Value} (ec : EqC X.K C) (I : Inv X pins σ H s) (o : OthV X.K C H y) (r : RelV y u) :
    ∃ tb, PySem.W.Looks (model X.prog X.w) s.heap (typeOf u) tb ∧ PySem.W.notFirst X.K C tb = true := by
  cases y with
  | non => cases r; exact ⟨_, .now, ec.nf "NoneType" (by decide)⟩
  | bl i => cases r; exact ⟨_, .now, ec.nf "bool" (by decide)⟩
  | int i => obtain ⟨t, rfl⟩ := r; exact ⟨_, .now, ec.nf "int" (by decide)⟩
  | str i => obtain ⟨t, rfl⟩ := r; exact ⟨_, .now, ec.nf "str" (by decide)⟩
  | ref b =>
    cases r
    rcases o with ⟨xs, h⟩ | ⟨xs, h⟩ | ⟨dx, fs, h⟩
    · obtain ⟨its, _, ⟨o, n, ho, hc, _⟩, _⟩ := I.list h
      exact ⟨_, by rw [← hc]; exact (PySem.W.Looks.ld ho).andThen .now, ec.nf "list" (by decide)⟩
    · obtain ⟨its, _, ⟨o, ho, hc, _⟩, _⟩ := I.tuple h
      exact ⟨_, by rw [← hc]; exact (PySem.W.Looks.ld ho).andThen .now, ec.nf "tuple" (by decide)⟩
    · obtain ⟨m, J, _⟩ := ins_get I.hok h
      obtain ⟨od, J, _⟩ := J.look
      exact ⟨.ref C, J.type, by simp [PySem.W.notFirst]⟩
  | _ => exact absurd o (by intro z; exact z)
/-- x == y, x != y by the own __eq__ with the promise sp -/
@[irreducible] def rEqO (K : PySem.W.Frag) (C : Addr) (sp : Sp) (E : XK) : R2 := fun x y H Q => ∃ a dx fs, x = .ref a ∧ H a = some (.ins C dx fs) ∧ OthV K C H y ∧ sp [x, y] H (fun v H' => ∃ b, v = .bl b ∧ Q (.bl b) H') E
@[irreducible] def rNeO (K : PySem.W.Frag) (C : Addr) (sp : Sp) (E : XK) : R2 := fun x y H Q => ∃ a dx fs, x = .ref a ∧ H a = some (.ins C dx fs) ∧ OthV K C H y ∧ sp [x, y] H (fun v H' => ∃ b, v = .bl b ∧ Q (.bl (!b)) H') E
theorem use_eqO {K : PySem.W.Frag} {C : Addr} {sp : Sp} {E : XK} {a dx : Addr} {fs : List (Str × V)} {y : V} {H : Hp} {Q : VK} (h : H a = some (.ins C dx fs)) (o : OthV K C H y) (k : sp [.ref a, y] H (fun v H' => ∃ b, v = .bl b ∧ Q (.bl b) H') E) : rEqO K C sp E (.ref a) y H Q := by
  unfold rEqO; exact ⟨a, dx, fs, rfl, h, o, k⟩
theorem use_neO {K : PySem.W.Frag} {C : Addr} {sp : Sp} {E : XK} {a dx : Addr} {fs : List (Str × V)} {y : V} {H : Hp} {Q : VK} (h : H a = some (.ins C dx fs)) (o : OthV K C H y) (k : sp [.ref a, y] H (fun v H' => ∃ b, v = .bl b ∧ Q (.bl (!b)) H') E) : rNeO K C sp E (.ref a) y H Q := by
  unfold rNeO; exact ⟨a, dx, fs, rfl, h, o, k⟩
section
variable {X : Cx} {CX : CXT} {C f : Addr} {fd : FuncData} {ps : List Str} {sp : Sp} {E : XK} {k : Nat}
theorem run_own {A : Around} {pins : List (Addr × Obj)} {σ : L2.St} {H : Hp} {s : Shared} {Q : VK} {us : List Value} {vs : List V} (hA : A.frames = X.A.frames) (F : FnOk X.prog X.w X.K X.mg X.base CX k f fd ps sp) (hr : Room k A) (hb : Binds X.K fd ps []) (hx : Passes CX X E)
    (I : Inv X pins σ H s) (r : Vals vs us) (h : sp vs H Q E) : wpAny (model X.prog X.w) A (call (.ref f) us) (EP X pins σ Q) X.xe s := by
  have hl : us.length = ps.length := by rw [← r.length]; exact F.len _ _ _ _ h
  have e0 : Env0 X.prog X.w X.K X.mg X.base A X.stack s H := by
    have e := I.env0
    exact ⟨by rw [hA]; exact e.frames, e.mod, e.bs, e.bsz, e.funs, e.frf, e.hok, e.bare⟩
  refine wpAny_call (codeAny_mono (F.run A X.stack s H ⟨us, []⟩ us vs Q E hr e0 (by
    have := hb s us I.kIn (by simpa using hl)
    simpa using this) r h) fun r s' hq => ?_)
  cases r with
  | error e => exact hx pins σ H s e s' I hq
  | ok fl =>
    cases fl with
    | ret u => exact I.after hq
    | next => exact False.elim hq
    | brk => exact False.elim hq
    | cont => exact False.elim hq
theorem op_eqO (F : FnOk X.prog X.w X.K X.mg X.base CX k f fd ps sp) (hm : Meth X.K C "__eq__" f) (ec : EqC X.K C) (hr : Room k X.A) (hb : Binds X.K fd ps []) (hx : Passes CX X E) : OpR X (compareOp .Eq) (rEqO X.K C sp E) := by
  intro pins s σ H x y v u Q I rx ry hq
  unfold rEqO at hq
  obtain ⟨a, dx, fs, rfl, ha, o, q⟩ := hq
  cases rx
  obtain ⟨mA, J, _⟩ := ins_get I.hok ha
  obtain ⟨od, J, _⟩ := J.look
  obtain ⟨tb, hl, hn⟩ := o.looks ec I ry
  obtain ⟨m, hF⟩ := I.fr
  show wpAny (model X.prog X.w) X.A (richCompare .Eq (.ref a) u) (EP X pins σ Q) X.xe s
  refine PySem.W.cmp_K (op := .Eq) hr.units0 hF I.ok.mod.kin J hl hn hm.at_ hm.fn ?_
  refine wpAny_mono (run_own rfl F hr hb hx I (.cons (show RelV (.ref a) (.ref a) from rfl) (.cons ry .nil)) q) (fun r s' hq => ?_) fun _ _ e => e
  obtain ⟨w, H', I', rw', b, rfl, q⟩ := hq
  cases rw'
  exact ⟨.bl b, H', I', rfl, q⟩
theorem op_neO (F : FnOk X.prog X.w X.K X.mg X.base CX k f fd ps sp) (hm : Meth X.K C "__eq__" f) (ec : EqC X.K C) (hr : Room (k + 1) X.A) (hb : Binds X.K fd ps []) (hx : Passes CX X E) : OpR X (compareOp .NotEq) (rNeO X.K C sp E) := by
  intro pins s σ H x y v u Q I rx ry hq
  unfold rNeO at hq
  obtain ⟨a, dx, fs, rfl, ha, o, q⟩ := hq
  cases rx
  obtain ⟨mA, J, _⟩ := ins_get I.hok ha
  obtain ⟨od, J, _⟩ := J.look
  obtain ⟨tb, hl, hn⟩ := o.looks ec I ry
  show wpAny (model X.prog X.w) X.A (richCompare .NotEq (.ref a) u) (EP X pins σ Q) X.xe s
  refine PySem.W.ne_own hr.in1.units0 I.kIn J hl hn hm.at_ hm.fn ec.ne ec.ob ?_
  refine wpAny_mono (run_own rfl F hr.in1 hb hx I (.cons (show RelV (.ref a) (.ref a) from rfl) (.cons ry .nil)) q) (fun r s' hq => ?_) fun _ _ e => e
  obtain ⟨w, H', I', rw', b, rfl, q⟩ := hq
  cases rw'
  exact ⟨b, rfl, .bl (!b), H', I', rfl, q⟩
end
end KR
namespace L2
open PySem PySem.Spec PyProof.Rows
section
variable {P : Program} {w : World} {A : Around} {R : Result → Shared → Prop} {I : Addr} {fp wr : List Addr} {G : Array GenState → Array GenState → Prop} {n : Nat} {Pv : Nat → Value → Prop} {St : Nat → Shared → Prop}
/-- the set at a holds what has come of ns -/
def SetSo (w : World) (h : Heap) (a : Addr) (ns : List Int) (i : Nat) : Prop := ∃ m, m ≤ i ∧ SetR w h a (fun k => decide (k ∈ ns.take i)) m
theorem set_loopR (W : WalksS P w A.in1 I fp wr G n Pv St) (S : Addr) (hSf : S ∉ fp) (ns : List Int) (hl : ns.length = n) (hval : ∀ i v, Pv i v → ∃ t, v = .int (ns.getD i 0) t) (hb : n + 1 < scanBound) :
    ∀ (k i : Nat) (s : Shared), n - i = k → i ≤ n → St i s → SetSo w s.heap S ns i → (∀ s', Moved (S :: wr) G s s' → SetSo w s'.heap S ns n → R (.ok (.ret .none)) s') →
      codeAny (model P w) A (.builtin "set.update.loop" ⟨[.ref S, .ref I], []⟩) R s := by
  have hSw : S ∉ wr := fun h => hSf (W.sub _ h)
  have hsub : ∀ b ∈ wr, b ∈ S :: wr := fun b hb => List.mem_cons_of_mem _ hb
  intro k
  induction k with
  | zero =>
    intro i s hk hi hst hS hR
    obtain rfl : i = n := by omega
    refine codeAny_builtin F.entry_set_update_loop ?_
    rw [Around.under_plainId F.plain_set_update_loop _]
    show wpAny _ A.in1 (pyNext (.ref I) >>= _) _ _ s
    refine wpAny_bind (W.done s _ _ hst fun s' hm => ?_)
    refine wpAny_pure (hR s' (hm.mono hsub) ?_)
    obtain ⟨m, hm1, r⟩ := hS
    exact ⟨m, hm1, r.at fun o ho => hm.heap S _ hSw ho⟩
  | succ k ih =>
    intro i s hk hi hst hS hR
    have hlt : i < n := by omega
    refine codeAny_builtin F.entry_set_update_loop ?_
    rw [Around.under_plainId F.plain_set_update_loop _]
    show wpAny _ A.in1 (pyNext (.ref I) >>= _) _ _ s
    refine wpAny_bind (W.item i s _ _ hlt hst fun v s' hP hst' hm => ?_)
    obtain ⟨t, rfl⟩ := hval i v hP
    obtain ⟨m, hm1, r⟩ := hS
    have r' := r.at (h' := s'.heap) fun o ho => hm.heap S _ hSw ho
    refine wpAny_bind (wpAny_holding ?_)
    unfold setAdd
    refine wpAny_holding ?_
    refine wpAny_bind ((intKind P w).pyHash (k := ns.getD i 0) (intKind_is _ _ _ _) ?_)
    refine setR_add_hashed (s := { s' with toks := s'.toks + 1 }) r' (by omega) fun h' hsb r2 => ?_
    have rS : SetSo w h' S ns (i + 1) := by
      refine ⟨_, ?_, r2.congr fun j => ?_⟩
      · split <;> omega
      · have hi' : i < ns.length := by omega
        have e : ns.take (i + 1) = ns.take i ++ [ns.getD i 0] := by
          rw [List.take_add_one, List.getD_eq_getElem?_getD, List.getElem?_eq_getElem hi']
          rfl
        show decide (j ∈ ns.take (i + 1)) = (decide (j ∈ ns.take i) || decide (j = ns.getD i 0))
        rw [e, Bool.eq_iff_iff, Bool.or_eq_true, decide_eq_true_eq, decide_eq_true_eq, decide_eq_true_eq, List.mem_append, List.mem_singleton]
    refine wpAny_pure ⟨plainId_quiet F.plain_set_update_loop _, ih (i + 1) _ (by omega) hlt (W.frame _ s' _ _ hst' (Nat.le_succ _) fun b hb o e => ?_) rS fun s'' hm'' hS'' => ?_⟩
    · rw [hsb.2 b (fun h : b = S => hSf (by rw [← h]; exact hb))]; exact e
    · refine hR s'' (Moved.trans W.gtrans ((hm.mono hsub).then_heap (Nat.le_succ _) fun b o hb e => ?_) hm'') hS''
      rw [hsb.2 b (fun h : b = S => hb (by rw [h]; exact List.mem_cons_self))]; exact e
end
section
variable {P : Program} {w : World} {A : Around} {E : Value → Shared → Prop} {s : Shared}
theorem code_set_ledK (a : Value) {Q₁ : Value → Shared → Prop}
    (h : Q₁ (.ref s.heap.objs.size) { s with heap := s.heap.push { cls := .type "set", dict := none, data := .set #[] 0 (.fresh 0 0 (!w.params.followText "set-order")) } }) :
    codeAny (model P w) A (.call (.builtin "set.__new__") ⟨[.type "set", a], []⟩) (wants Q₁ E) s := by
  refine codeAny_of_tree ?_
  show wpAny _ A.in1 (do checkBuiltinCall "set.__new__" ⟨[.type "set", a], []⟩; again (.builtin "set.__new__" ⟨[.type "set", a], []⟩)) _ _ s
  refine wpAny_bind (wpAny_of_eq (F.newCall_set_1 a) (wpAny_pure ⟨plainId_quiet F.plain_set_new _, codeAny_builtin F.entry_set_new ?_⟩))
  rw [Around.under_plainId F.plain_set_new _]
  unfold Builtin.«set.__new__» Builtin.Frozenset.newClass
  have hsub := sub_set_self
  obtain ⟨hp, g, d, tk, os⟩ := s
  dsimp only
  wp_walk
  refine wpAny_askSetting (wpAny_pure ?_)
  dsimp only
  simp only [newObj]
  refine wpAny_bind (wpAny_alloc (wpAny_pure ?_))
  exact wpAny_pure h
set_option maxHeartbeats 8000000 in
set_option maxRecDepth 100000 in
theorem setR_list {l : Addr} {items : Array Value} {ns : List Int} {Q : Value → Shared → Prop} (hh : A.handled = none) (hl : s.heap.IsList l items) (hi : IntsAre items.toList ns) (hb : items.size + 1 < scanBound)
    (h : ∀ (h' : Heap) (tk : Nat), SetSo w h' s.heap.objs.size ns items.size → (∀ b o, b < s.heap.objs.size → s.heap.get? b = some o → h'.get? b = some o) → Q (.ref s.heap.objs.size) { s with heap := h', toks := tk }) :
    wpAny (model P w) A (call (.type "set") [.ref l]) Q E s := by
  obtain ⟨c, tl, hmro⟩ := F.called_set.mro
  have hmade := F.called_set.made
  have hsub := F.called_set.sub
  refine wpAny_call (codeAny_of_tree ?_)
  show wpAny _ _ (callAny (.type "set") _) _ _ _
  refine wpAny_pure ⟨Code.quiet_builtin _ (by decide +kernel), codeAny_builtin F.entry_type_call ?_⟩
  rw [Around.under_plain (weight_type_call_type "set" [.ref l] []) rfl]
  have h1 := F.called_set.notType
  have h2 := F.called_set.canCreate
  have hct := F.typeCall_set_1 (.ref l)
  repeat (any_goals (first | assumption | wp_step))
  refine codeAny_mono (code_set_ledK (.ref l) (E := E) (Q₁ := fun obj s₁ => obj = .ref s.heap.objs.size ∧ s₁ = { s with heap := s.heap.push { cls := .type "set", dict := none, data := .set #[] 0 (.fresh 0 0 (!w.params.followText "set-order")) } }) ⟨rfl, rfl⟩) fun r s₁ hr => ?_
  cases r with
  | error e => exact hr
  | ok fl =>
    cases fl with
    | ret obj =>
      obtain ⟨rfl, rfl⟩ := hr
      have R0 := setR_fresh (h := s.heap) w
      have hS : (s.heap.push { cls := .type "set", dict := none, data := .set #[] 0 (.fresh 0 0 (!w.params.followText "set-order")) }).get? s.heap.objs.size = some { cls := .type "set", dict := none, data := .set #[] 0 (.fresh 0 0 (!w.params.followText "set-order")) } := Heap.get?_push_size _ rfl
      have hT : Shared.TypeIs { s with heap := s.heap.push { cls := .type "set", dict := none, data := .set #[] 0 (.fresh 0 0 (!w.params.followText "set-order")) } } (.ref s.heap.objs.size) "set" := ⟨_, hS, rfl⟩
      have hli := F.called_set.init.lookup
      have hbi := F.called_set.init.bind (.ref s.heap.objs.size)
      repeat (any_goals (first | assumption | wp_step))
      refine codeAny_mono (codeAny_call_builtin (R := wants (fun r s₂ => r = .none ∧ ∃ h' tk, s₂ = { s with heap := h', toks := tk } ∧ SetSo w h' s.heap.objs.size ns items.size ∧ (∀ b o, b < s.heap.objs.size → s.heap.get? b = some o → h'.get? b = some o)) E) F.called_set.init.plain F.entry_set_init (check_set_init_1 hT ?_)) fun r₂ s₂ hr₂ => ?_
      · obtain ⟨ol, hol, hcl, nl, hdl⟩ := hl
        obtain ⟨ocls, odict, odata, oslots⟩ := ol
        simp only at hcl hdl
        subst hcl; subst hdl
        have hol' : (s.heap.push { cls := .type "set", dict := none, data := .set #[] 0 (.fresh 0 0 (!w.params.followText "set-order")) }).get? l = some { cls := .type "list", dict := odict, data := .seq items nl, slots := oslots } := Heap.get?_push_of_some _ hol
        have hsls := F.sub_list_set
        have hslf := F.sub_list_frozenset
        have hne : (Value.type "list" == Value.type "dict") = false := by decide
        have hl1 : (s.heap.push { cls := .type "set", dict := none, data := .set #[] 0 (.fresh 0 0 (!w.params.followText "set-order")) }).IsList l items := ⟨_, hol', rfl, nl, rfl⟩
        unfold Builtin.«set.__init__» noKeywords Builtin.Frozenset.updateFrom
        generalize hPI : pyIter = PI
        wp_walk
        subst hPI
        refine wpAny_pyIter_list hl1 ?_
        refine wpAny_bind (wpAny_runValue ?_)
        have hlS : l < s.heap.objs.size := Heap.lt_size hol
        have hh3 : A.in1.in1.in1.handled = none := by simp [hh]
        have hneI : l ≠ (s.heap.push { cls := .type "set", dict := none, data := .set #[] 0 (.fresh 0 0 (!w.params.followText "set-order")) }).objs.size := by
          rw [Heap.size_push]; exact Nat.ne_of_lt (Nat.lt_succ_of_lt hlS)
        have hSf : s.heap.objs.size ∉ [(s.heap.push { cls := .type "set", dict := none, data := .set #[] 0 (.fresh 0 0 (!w.params.followText "set-order")) }).objs.size, l] := by
          rw [Heap.size_push]; simp only [List.mem_cons, List.not_mem_nil, or_false, not_or]
          exact ⟨Nat.ne_of_lt (Nat.lt_succ_self _), Nat.ne_of_gt hlS⟩
        have hlen : ns.length = items.size := by rw [← Array.length_toList]; exact hi.length.symm
        refine set_loopR ((Walks.list hh3 _ l hneI items).toS) s.heap.objs.size hSf ns hlen (fun i v hv => IntsAre.int_at hi i v (by rw [Array.getElem?_toList]; exact hv)) hb (items.size - 0) 0 _ (by omega) (Nat.zero_le _)
          ⟨⟨_, Heap.get?_push_size _ rfl, rfl, rfl⟩, (hl1.push _)⟩ ⟨0, Nat.le_refl _, (R0.at fun o ho => Heap.get?_push_of_some _ ho).congr fun k => by simp⟩ fun s' hm hS' => ?_
        obtain ⟨h', g', d', tk', os'⟩ := s'
        have eg : g' = s.gens := hm.gens
        have ed : d' = s.drawn := hm.drawn
        have eo : os' = s.os := hm.os
        subst eg; subst ed; subst eo
        refine wpAny_pure ?_
        show wpAny _ _ (ret Value.none) _ _ _
        refine wpAny_pure ⟨rfl, h', tk', rfl, hS', fun b o hb e => ?_⟩
        have hb1 : b ≠ s.heap.objs.size := Nat.ne_of_lt hb
        have hb2 : b ≠ (s.heap.push { cls := .type "set", dict := none, data := .set #[] 0 (.fresh 0 0 (!w.params.followText "set-order")) }).objs.size := by rw [Heap.size_push]; exact Nat.ne_of_lt (Nat.lt_succ_of_lt hb)
        exact hm.heap b o (by simp only [List.mem_cons, List.not_mem_nil, or_false, not_or]; exact ⟨hb1, hb2⟩) (Heap.get?_push_of_some _ (Heap.get?_push_of_some _ e))
      · cases r₂ with
        | error e => exact hr₂
        | ok fl₂ =>
          cases fl₂ with
          | ret r =>
            obtain ⟨rfl, h', tk, rfl, hS', hk'⟩ := hr₂
            repeat (any_goals (first | assumption | wp_step))
            exact h _ _ hS' hk'
          | _ => exact hr₂.elim
    | _ => exact hr.elim
end
end L2
namespace KR
open PySem PySem.Spec PyProof.Rows L2
/-- set(xs) of a list of ints, fewer than 64 -/
def rSetL (K : PySem.W.Frag) (w : World) : List V → Hp → VK → Prop := fun vs H Q => ∃ (l : Addr) (ns : List Int), vs = [V.ref l] ∧ SqL K H l (ns.map V.int) ∧ ns.length ≤ 1000 ∧
  ∀ p m H', H p = none → Same H H' → m ≤ ns.length → H' p = some (SetO w p (fun k => decide (k ∈ ns)) m) → Q (.ref p) H'
theorem cr_setL {X : Cx} {K : PySem.W.Frag} (hc : X.calm = true) (hK : X.K = K := by rfl) : CallR X (.type "set") (rSetL K X.w) := by
  subst hK
  intro pins s σ H xs us Q I r h
  obtain ⟨l, ns, rfl, hs, hn, q⟩ := h
  obtain ⟨its, rv, pl, hz⟩ := I.list hs
  rw [Vals.ref1 r]
  have hlen : its.length = ns.length := by rw [← rv.length, List.length_map]
  refine setR_list (I.ok.hd hc) pl.isList (ns := ns) (by simpa using intsAre_of rv) (by rw [List.size_toArray, hlen]; unfold scanBound; omega) fun h' tk hS hk => ?_
  obtain ⟨m, hm, R⟩ := hS
  rw [List.size_toArray, hlen] at hm
  have R := R.congr (S' := fun k => decide (k ∈ ns)) fun k => by
    show decide (k ∈ ns) = decide (k ∈ ns.take its.toArray.size)
    rw [List.size_toArray, hlen, List.take_length]
  have n1 := I.hok.fresh (Nat.le_refl s.heap.objs.size)
  exact ⟨.ref s.heap.objs.size, upd H s.heap.objs.size (SetO X.w s.heap.objs.size (fun k => decide (k ∈ ns)) m), I.laid (t' := tk) (fun b u e => hk b u (Heap.lt_size e) e) (Nat.le_refl _) (setO_new R), rfl, q _ m _ n1 (same_new n1) hm upd_same⟩
/-- sorted(s) of a set of ints, fewer than 64 -/
def rSortS (w : World) : List V → Hp → VK → Prop := fun vs H Q => ∃ (a : Addr) (S : Int → Bool) (n : Nat), vs = [V.ref a] ∧ H a = some (SetO w a S n) ∧ n < 64 ∧
  ∀ (ns : List Int) (p : Addr) H', ns.Pairwise (· < ·) → (∀ k : Int, k ∈ ns ↔ S k = true) → ns.length = n → H p = none → Same H H' → H' p = some (.lst (ns.map V.int)) → Q (.ref p) H'
theorem cr_sortS {X : Cx} (hc : X.calm = true) : CallR X (.builtin "sorted") (rSortS X.w) := by
  intro pins s σ H vs us Q I r h
  obtain ⟨a, S, n, e, ha, h64, q⟩ := h
  exact cr_sortedSet hc pins s σ H vs us Q I r ⟨a, S, n, e, ha, h64, fun ns p h1 h2 h3 h4 => q ns p _ h1 h2 h3 h4 (same_new h4) upd_same⟩
end KR
namespace L2
open PySem PySem.Spec PyProof.Rows
section
variable {P : Program} {w : World} {A : Around} {E : Value → Shared → Prop} {s : Shared}
theorem sorted_setB {a : Addr} {S : Int → Bool} {n : Nat} {Q : Value → Shared → Prop} (R : SetR w s.heap a S n) (hh : A.handled = none) (h64 : n ≤ 1000)
    (hQ : ∀ s' p (out : Array Value) (c : Nat) (ns : List Int), (∀ b o, s.heap.get? b = some o → s'.heap.get? b = some o) → s'.gens = s.gens → s'.os = s.os → s.heap.objs.size ≤ p →
      s'.heap.get? p = some (seqObj "list" out c) → IntsAre out.toList ns → ns.Pairwise (· < ·) → (∀ k, k ∈ ns ↔ S k = true) → ns.length = n → Q (.ref p) s') :
    wpAny (model P w) A (call (.builtin "sorted") [.ref a]) Q E s := by
  obtain ⟨o, es, ep, t, ho, hex, hd, g, nd, hm, hb, hf, hn, hr, hl⟩ := R
  refine Calls.call_function_entry kind_sorted plain_sorted entry_sorted (args_sorted1 _) ?_
  unfold Builtin.«sorted»
  refine wpAny_bind (m := checkCount "sorted" 1 1 _) (wpAny_pure ?_)
  refine wpAny_bind (collect_set (A := A.in1) hh ⟨o, ho, hex.1, hd⟩ hf hb hr hl fun s1 vs k1 hz g1 o1 pm => ?_)
  have hvl : vs.length = n := by rw [pm.length_eq, List.length_map, Array.length_toList]; exact hn
  have hI : IntsAre vs (vs.map Builtin.Re.reRawOf) := ints_of vs fun v hv => by
    obtain ⟨e, he, q⟩ := List.mem_map.mp (pm.mem_iff.mp hv)
    obtain ⟨k, tk, h1, _⟩ := g e he
    exact ⟨k, tk, by rw [← q]; exact h1⟩
  have pk : (vs.map Builtin.Re.reRawOf).Perm (es.toList.map keyOf) := by
    have q := pm.map Builtin.Re.reRawOf
    rw [List.map_map] at q
    exact q
  have hsl : vs.length ≤ sizeLine := by rw [hvl, sizeLine_eq]; omega
  refine wpAny_bind (wpAny_newList ?_ hsl)
  have hoL : (s1.heap.push (seqObj "list" vs.toArray 0)).get? s1.heap.objs.size = some (seqObj "list" vs.toArray 0) := Heap.get?_push_size _ rfl
  refine wpAny_bind (wpAny_holding (wpAny_call_entry slot_list_sort ⟨_, hoL, rfl⟩ entry_list_sort (SrtO.list_sort_ord SrtO.swo_int hoL hsl (fun h2 => SrtO.ints_sortable hI h2) fun out h1 h2 => ⟨_, rfl, ?_⟩) (args_list_sort _)))
  obtain ⟨a1, a2, a3⟩ := SrtO.ints_out hI h1 h2
  obtain ⟨c, hc⟩ := sortedHeap_at (vs := vs) (out := out.toArray) hoL
  have pn : (out.map SrtO.iv).Perm (es.toList.map keyOf) := a2.trans pk
  refine wpAny_pure ⟨_, rfl, hQ _ s1.heap.objs.size out.toArray c _ (fun b u e => ?_) g1 o1 hz hc (by simpa using a1) (lt_of_le_nodup _ a3 (pn.nodup_iff.mpr nd)) (fun k => by rw [pn.mem_iff, ← hm k]) ?_⟩
  · have q := k1 b u e
    have hlt := Heap.lt_size q
    show (sortedHeap (s1.heap.push (seqObj "list" vs.toArray 0)) s1.heap.objs.size vs out.toArray).get? b = some u
    rw [sortedHeap_old (Nat.ne_of_lt hlt) (by rw [size_push']; exact Nat.lt_succ_of_lt hlt)]
    exact Heap.get?_push_of_some _ q
  · rw [pn.length_eq, List.length_map, Array.length_toList]; exact hn
end
end L2
namespace KR
open PySem PySem.Spec PyProof.Rows L2
/-- sorted(s) of a set of ints, up to a thousand -/
def rSortSB (w : World) : List V → Hp → VK → Prop := fun vs H Q => ∃ (a : Addr) (S : Int → Bool) (n : Nat), vs = [V.ref a] ∧ H a = some (SetO w a S n) ∧ n ≤ 1000 ∧
  ∀ (ns : List Int) (p : Addr) H', ns.Pairwise (· < ·) → (∀ k : Int, k ∈ ns ↔ S k = true) → ns.length = n → H p = none → Same H H' → H' p = some (.lst (ns.map V.int)) → Q (.ref p) H'
theorem cr_sortSB {X : Cx} (hc : X.calm = true) : CallR X (.builtin "sorted") (rSortSB X.w) := by
  intro pins s σ H vs us Q I r h
  obtain ⟨a, S, n, rfl, ha, h64, q⟩ := h
  have R := setO_get I ha
  rw [Vals.ref1 r]
  refine sorted_setB R (I.ok.hd hc) h64 fun s' p out c ns k g o hp hg hi hs hm hl => ?_
  have hlen : (ns.map V.int).length ≤ sizeLine := by rw [List.length_map, hl, sizeLine_eq]; omega
  have hn : H p = none := I.hok.fresh hp
  have J : Inv X pins σ (upd H p (.lst (ns.map V.int))) { s with heap := s'.heap, gens := s'.gens, drawn := s'.drawn, toks := s'.toks } :=
    I.call (ch := []) (Un.laid k hp hn) (I.hok.laid k hp ⟨hlen, out.toList, c, vals_of_ints hi, hg⟩) (by rw [g]; exact I.bare) (fun _ z => nomatch z)
  have e : s' = { s with heap := s'.heap, gens := s'.gens, drawn := s'.drawn, toks := s'.toks } := by
    cases s'
    cases s
    cases o
    rfl
  rw [e]
  exact ⟨.ref p, _, J, rfl, q ns p _ hs hm hl hn (same_new hn) upd_same⟩
/-- sorted(xs) of a list of ints -/
def rSortLI (K : PySem.W.Frag) : List V → Hp → VK → Prop := fun vs H Q => ∃ (a : Addr) (ns : List Int), vs = [V.ref a] ∧ SqL K H a (ns.map V.int) ∧
  ∀ (ns' : List Int) (p : Addr) H', ns'.Perm ns → ns'.Pairwise (· ≤ ·) → H p = none → Same H H' → H' p = some (.lst (ns'.map V.int)) → Q (.ref p) H'
theorem cr_sortLI {X : Cx} {K : PySem.W.Frag} (hK : X.K = K := by rfl) : CallR X (.builtin "sorted") (rSortLI K) := by
  subst hK
  intro pins s σ H vs us Q I r h
  obtain ⟨a, ns, e, hs, q⟩ := h
  exact cr_sortedI pins s σ H vs us Q I r ⟨a, ns, e, hs, fun ns' p h1 h2 h3 => q ns' p _ h1 h2 h3 (same_new h3) upd_same⟩
theorem vals_pick {xs : List V} {us : List Value} (r : Vals xs us) : ∀ js : List Nat, Vals (js.filterMap (xs[·]?)) (js.filterMap (us[·]?))
  | [] => .nil
  | j :: js => by
    rw [List.filterMap_cons, List.filterMap_cons]
    cases h : xs[j]? with
    | none => rw [Vals.none_of r h]; exact vals_pick r js
    | some x =>
      obtain ⟨u, hu, ru⟩ := r.get h
      rw [hu]
      exact .cons ru (vals_pick r js)
/-- xs[::k]: some of the items -/
def rSlS (K : PySem.W.Frag) : R2 := fun x y H Q => ∃ (a : Addr) (xs : List V) (k : Int), x = .ref a ∧ y = .int k ∧ SqL K H a xs ∧ k ≠ 0 ∧
  ∀ (ys : List V) (p : Addr) H', (∀ v ∈ ys, v ∈ xs) → ys.length ≤ xs.length → H p = none → Same H H' → H' p = some (.lst ys) → Q (.ref p) H'
theorem pe_sliceS {X : Cx} {K : PySem.W.Frag} {e st : Expr} {te ts : TE} {p2 pos : Pos} (he : PE X e te) (hst : PE X st ts) (hK : X.K = K := by rfl) : PE X (.Subscript e (.Slice none none (some st) p2) pos) (tOp (rSlS K) te ts) := by
  subst hK
  refine ⟨fun pins s σ H Q I h => ?_⟩
  refine Subscript_ (thn (he.run pins s σ H _ I h) fun v s1 ⟨x, H1, I1, r1, q1⟩ => ?_)
  refine wpAny_Slice ?_
  rw [evalPart_none]
  refine wpAny_pure ?_
  refine wpAny_pure ?_
  rw [evalPart_some]
  refine thn (hst.run pins s1 σ H1 _ I1 q1) fun vk s3 ⟨y, H3, I3, r3, q3⟩ => ?_
  obtain ⟨a, xs, k, rfl, rfl, hx, hk, q⟩ := q3
  cases r1
  obtain ⟨t, rfl⟩ := r3
  have I4 : Inv X pins σ H3 { s3 with heap := s3.heap.push { cls := .type "slice", data := .fields #[Value.none, Value.none, .int k t] } } := I3.kept (t' := s3.toks) fun b ob q => Heap.get?_push_of_some _ q
  obtain ⟨its, r, ht, hz⟩ := I4.list hx
  have hlen := r.length
  show wpAny (model X.prog X.w) X.A (subscriptTail e (.Slice none none (some st) p2) (.ref a) (.ref s3.heap.objs.size)) (EP X pins σ Q) X.xe { s3 with heap := s3.heap.push { cls := .type "slice", data := .fields #[Value.none, Value.none, .int k t] } }
  refine tail_any (ops := [.ref a, .ref s3.heap.objs.size]) ht.isList.typeIs slot_list_getitem.lookup ?_ (by with_unfolding_all rfl)
  refine wpAny_getItem_list_slice ht.isList (Heap.IsSliceOf.new ..) .none .none (.int k t) (fun z => hk (Option.some.inj z)) ?_ (by rw [List.size_toArray] <;> omega)
  have hp : ∃ js : List Nat, (slicePick its.toArray none none (some k)).toList = js.filterMap (its[·]?) := ⟨_, by
    unfold slicePick
    rw [List.toList_toArray]
    exact congrArg (fun f => List.filterMap f _) (funext fun j => by simp)⟩
  obtain ⟨js, hj⟩ := hp
  have hsz := slicePick_size_le its.toArray none none (some k)
  have rj := vals_pick r js
  rw [← hj] at rj
  have hl2 : (js.filterMap (xs[·]?)).length = (slicePick its.toArray none none (some k)).size := rj.length
  have hle0 : (js.filterMap (xs[·]?)).length ≤ xs.length := by rw [hl2, hlen]; exact Nat.le_trans hsz (Nat.le_of_eq (List.size_toArray))
  have hle : xs.length ≤ sizeLine := by first | exact hz | (rw [hlen]; exact hz)
  exact ⟨.ref _, _, I4.laid (t' := s3.toks) (o := .lst (js.filterMap (xs[·]?))) (fun b ob q => Heap.get?_push_of_some _ q) (Nat.le_refl _) ⟨Nat.le_trans hle0 hle, _, 0, rj, Heap.get?_push_size _ rfl⟩, rfl,
    q _ _ _ (fun v hv => by obtain ⟨j, _, e⟩ := List.mem_filterMap.mp hv; exact List.mem_of_getElem? e) hle0 (I4.hok.fresh (Nat.le_refl _)) (same_new (I4.hok.fresh (Nat.le_refl _))) upd_same⟩
end KR
namespace KR
open PySem PySem.Spec PyProof.Rows L2
theorem units65 {k : Nat} {A : Around} (r : L2.Room k A) : A.units + 65 < cLine := by have := r.un; omega
theorem op_inDK {X : Cx} {K : PySem.W.Frag} (hu : X.A.units + 65 < cLine) (h : X.K = K := by rfl) : OpR X (compareOp .In) (rInD K) := h ▸ op_inD hu
theorem op_notInDK {X : Cx} {K : PySem.W.Frag} (hu : X.A.units + 65 < cLine) (h : X.K = K := by rfl) : OpR X (compareOp .NotIn) (rNotInD K) := h ▸ op_notInD hu
end KR
namespace KR
open PySem PySem.Spec PyProof.Rows L2
/-! ### return super().m(..) -/
/-- the def at f is such a one, of the class at D, its instances of the class at C; m is found at f2 -/
structure SupK (K : PySem.W.Frag) (C D : Addr) (m : Str) (f f2 : Addr) (name qual : Str) (params : Arguments) (body : List Stmt) (scope : Scope) (file : Str) (fd : FuncData) : Prop where
  ex : ∃ (oc : Value) (od : Option Addr) (kV doc pm : Value) (an : Option Addr) (cda : Addr) (ct : Value) (cc : Addr) (osl : Array (Option Value)),
    fd = PySem.W.ksFn name qual params body scope .none kV doc pm an (.ref cda) ct cc ∧ K.lookup f = some ⟨oc, od, .func fd, osl⟩ ∧ PySem.W.codeIn K (.ref cda) qual = true ∧
    (∃ (c1 : Value) (c2 : Option Addr) (vs : Array Value) (c3 : Array (Option Value)) (tf : Tok), K.lookup cda = some ⟨c1, c2, .fields vs, c3⟩ ∧ vs[2]? = some (.str file tf)) ∧
    (∃ (c1 : Value) (c2 : Option Addr) (c3 : Array (Option Value)), K.lookup cc = some ⟨c1, c2, .cell (some (.ref D)), c3⟩)
  hD : ∃ cd, PySem.W.clsIn K D = some cd
  sub : PySem.W.mroIn K C (.ref D) = some true
  ns : PySem.W.nsIn K mainGlobals "super" = some none
  any : PySem.W.nsIn K cStatics "thirdparty.any" = some none
  at2 : PySem.W.ks_superIn K C D m = some (some (.ref f2))
  ty2 : PySem.W.typeIn K (.ref f2) = some (.type "function")
  fi2 : PySem.W.fnIn K f2 = true
  kp : PySem.W.keepIn K (.ref f) = true
def cxS (CX : CXT) (P : Program) (w : World) (K : PySem.W.Frag) (mg : Str → Option Value) (base : Heap) (N : List Str) (qual : Str) (scope : Scope) (f cda cc : Addr) (A : Around) (outer : List Env) (s : Shared) (H : Hp) (E : XK) : Cx :=
  { cxOf CX P w K mg base N qual scope f (.ref cda) A outer s H E with
    A := A.deeper (PySem.W.ksEnv qual scope s.heap.objs.size f (.ref cda) cc), env := PySem.W.ksEnv qual scope s.heap.objs.size f (.ref cda) cc, stack := PySem.W.ksEnv qual scope s.heap.objs.size f (.ref cda) cc :: outer, fn := fun _ => false,
    xe := fun e s' => wpAny (model P w) (A.deeper (PySem.W.ksEnv qual scope s.heap.objs.size f (.ref cda) cc)) (leaving (PySem.W.ksEnv qual scope s.heap.objs.size f (.ref cda) cc) e) (fun _ s'' => CX outer H s E e s'') (fun e' s'' => CX outer H s E e' s'') s' }
section
variable {CX : CXT} {P : Program} {w : World} {K : PySem.W.Frag} {mg : Str → Option Value} {base : Heap}
theorem inv_startS {ps : List Str} {qual : Str} {scope : Scope} {f cda cc : Addr} {A : Around} {outer : List Env} {s : Shared} {h₁ : Heap} {tk : Nat} {H : Hp} {E : XK} {us : List Value} {vs : List V} {oc : Obj} {D : Addr}
    (hk : scope.kind = .function) (hnd : ps.Nodup) (hloc : ∀ x ∈ ps, scope.names.lookup x = some .local) (hfree : ∀ x, scope.names.lookup x = some .cell ∨ scope.names.lookup x = some .free → x = "__class__")
    (hd : A.handled = none) (e0 : Env0 P w K mg base A outer s H) (hl : vs.length = ps.length) (r : Vals vs us) (hcc : base.get? cc = some oc) (hoc : oc.data = .cell (some (.ref D)))
    (hn : h₁.Ns s.heap.objs.size (fun x => (ps.zip us).reverse.lookup x)) (keep : ∀ b o, s.heap.get? b = some o → h₁.get? b = some o) :
    Inv (cxS CX P w K mg base ps qual scope f cda cc A outer s H E) [] (L2.start ps vs) H { s with heap := h₁, toks := tk } := by
  have hul : us.length = ps.length := by rw [← r.length, hl]
  have one : ∀ {x : Str} {c : Addr}, ([("__class__", cc)] : List (Str × Addr)).lookup x = some c → x = "__class__" ∧ c = cc := fun {x c} e => by
    by_cases hx : x = "__class__"
    · subst hx
      exact ⟨rfl, (by simpa [List.lookup] using e.symm)⟩
    · have hb : (x == ("__class__" : Str)) = false := beq_eq_false_iff_ne.mpr hx
      simp [List.lookup, hb] at e
  have noA : ∀ b : Addr, b ∉ (cxS CX P w K mg base ps qual scope f cda cc A outer s H E).ex := fun b z => absurd (show b ∈ ([] : List Addr) from z) (by simp)
  have hkl : ∀ y ∈ ps.zip us, (PySem.W.ksEnv qual scope s.heap.objs.size f (.ref cda) cc).kindOf y.1 = some .local := fun ⟨n, v⟩ hy => hloc n (List.of_mem_zip hy).1
  have hm : (fun x => (ps.zip us).reverse.lookup x) = bindL (PySem.W.ksEnv qual scope s.heap.objs.size f (.ref cda) cc).kindOf (ps.zip us) fun _ => none := by
    funext y
    rw [bindL_loc _ _ hkl y]
    cases (ps.zip us).reverse.lookup y <;> rfl
  refine ⟨⟨e0.mod, hk, rfl, rfl, Nat.le_refl _, fun x y c h1 h2 => (one h1).1.trans (one h2).1.symm, fun x hx => ?_, fun x c hf _ => (by cases hf), fun _ => hd, Around.frames_deeper e0.frames, .inr ⟨rfl, rfl⟩, fun b z => absurd z (noA b), e0.bs, e0.bsz, fun b _ _ => noA b, fun b z => absurd z (noA b), e0.funs, e0.frf⟩,
    rfl, e0.bare, Un.kept keep, ⟨_, hn, fun i y v h1 h2 h3 => ?_⟩, fun y c h => ?_, e0.hok.fresh (Nat.le_refl _), fun y c h => ?_, fun p hp => absurd (show p ∈ ([] : List (Addr × Obj)) from hp) (by simp), e0.hok.kept keep, ?_⟩
  · refine ⟨cc, ?_⟩
    rw [hfree x hx]
    rfl
  · have hi : i < vs.length := by
      unfold L2.start at h2
      by_cases hi : i < vs.length
      · exact hi
      · rw [List.getElem?_append_right (by simpa using hi)] at h2
        rw [List.getElem?_replicate] at h2
        split at h2 <;> cases h2
    have ha : vs[i]? = some v := by
      unfold L2.start at h2
      rw [List.getElem?_append_left (by simpa using hi), List.getElem?_map] at h2
      cases e : vs[i]? with
      | none => rw [e] at h2; cases h2
      | some a => rw [e] at h2; cases h2; rfl
    obtain ⟨u, hu, rv⟩ := r.get ha
    refine ⟨u, rv, .inl ⟨hloc y (List.mem_of_getElem? h1), ?_⟩⟩
    rw [hm]
    exact bindL_get hnd h1 hu (hloc y (List.mem_of_getElem? h1))
  · obtain ⟨-, rfl⟩ := one h
    obtain ⟨oc1, oc2, oc3, oc4⟩ := oc
    have e1 := keep _ _ (e0.bs _ _ hcc).1
    exact ⟨some (.ref D), ⟨_, e1, hoc⟩⟩
  · obtain ⟨-, rfl⟩ := one h
    exact (e0.bs _ _ hcc).2
  · show (L2.start ps vs).length = ps.length
    unfold L2.start
    rw [List.length_append, List.length_map, List.length_replicate]
    omega

/-- the tree ahead of the call: the bound method at q -/
theorem super_run {ps : List Str} {qual name : Str} {scope : Scope} {f cda cc f2 : Addr} {A : Around} {outer : List Env} {s0 : Shared} {H0 : Hp} {E0 : XK} {C D x dx : Addr} {pins : List (Addr × Obj)} {σ : L2.St} {H : Hp} {s : Shared} {m pself file : Str} {fs : List (Str × V)}
    {params : Arguments} {body : List Stmt} {fd : FuncData} {p0 p1 apos pos : Pos} {args : List Expr} {pl : Sem Bool} {Q : Value → Shared → Prop} {E : Value → Shared → Prop} {ar : Arg} {more : List Arg}
    (S : SupK K C D m f f2 name qual params body scope file fd) {oc cf : Value} {od cd' : Option Addr} {osl : Array (Option Value)} {vs : Array Value} {c3 : Array (Option Value)} {tf : Tok} {dc1 : Value} {dc2 : Option Addr} {dc3 : Array (Option Value)}
    (lk : K.lookup f = some ⟨oc, od, .func fd, osl⟩) (hfp : fd.params = params) (lkc : K.lookup cda = some ⟨cf, cd', .fields vs, c3⟩) (hvs : vs[2]? = some (.str file tf)) (lcc : K.lookup cc = some ⟨dc1, dc2, .cell (some (.ref D)), dc3⟩)
    (I : Inv (cxS CX P w K mg base (pself :: ps) qual scope f cda cc A outer s0 H0 E0) pins (some (.ref x) :: σ) H s) (ex : H x = some (.ins C dx fs)) (hsup : scope.names.lookup ("super" : Str) = some .globalImplicit) (hcls : scope.names.lookup ("__class__" : Str) = some .free)
    (hk : scope.kind = .function) (hat : (m == ("__class__" : Str)) = false) (hp : params.posonlyargs ++ params.args = ar :: more) (har : ar.arg = pself) (hself : scope.names.lookup pself = some .local)
    (hfile : ((P.main.file : Str) == file) = true) (htop : (P.main.scope.names.lookup ("super" : Str)).isSome = false)
    (h : ∀ q s', Inv (cxS CX P w K mg base (pself :: ps) qual scope f cda cc A outer s0 H0 E0) ((q, PySem.W.methodObj (.ref f2) (.ref x)) :: pins) (some (.ref x) :: σ) H s' → base.get? q = none →
      wpAny (model P w) (A.deeper (PySem.W.ksEnv qual scope s0.heap.objs.size f (.ref cda) cc)) (callWith pos (.ref q) [] (backTo pos (starEach args (PySem.W.ksEnv qual scope s0.heap.objs.size f (.ref cda) cc))) []) Q E s')
    (he : eval (.Call (.Attribute (.Call (.Name "super" p0) [] [] p1) m apos) args [] pos) (PySem.W.ksEnv qual scope s0.heap.objs.size f (.ref cda) cc) = (do
      let ov ← attributeBase (.Call (.Name "super" p0) [] [] p1) m (PySem.W.ksEnv qual scope s0.heap.objs.size f (.ref cda) cc) (eval (.Call (.Name "super" p0) [] [] p1) (PySem.W.ksEnv qual scope s0.heap.objs.size f (.ref cda) cc))
      standAt apos.atName
      let (fn', first) ← holding [ov] (getMethod ov m pl)
      callWith pos fn' first (backTo pos (starEach args (PySem.W.ksEnv qual scope s0.heap.objs.size f (.ref cda) cc))) [])) :
    _root_.PySem.wpAt (model P w) (A.deeper (PySem.W.ksEnv qual scope s0.heap.objs.size f (.ref cda) cc)) (.func body (PySem.W.ksEnv qual scope s0.heap.objs.size f (.ref cda) cc))
      (eval (.Call (.Attribute (.Call (.Name "super" p0) [] [] p1) m apos) args [] pos) (PySem.W.ksEnv qual scope s0.heap.objs.size f (.ref cda) cc)) Q E s := by
  have KX : K.In s.heap := I.kIn
  refine ks_wpAt_MethodCall (pl := pl) ?_ he
  have kX := KX
  obtain ⟨cdD, hcD⟩ := S.hD
  obtain ⟨oD, hD1, hD2⟩ : ∃ oD, s.heap.get? D = some oD ∧ oD.data = .cls cdD := by
    unfold PySem.W.clsIn at hcD
    split at hcD
    · rename_i c d cd' sl ho
      cases hcD
      exact ⟨_, KX _ _ ho, rfl⟩
    · cases hcD
  obtain ⟨mA, O, _, _, _, _⟩ := ins_get I.hok ex
  obtain ⟨odx, J, _⟩ := O.look
  obtain ⟨mL, hns, hLk⟩ := I.loc
  have hL := hLk 0 pself (.ref x) rfl rfl (.inl hself)
  obtain ⟨ux, rux, hlook⟩ := hL
  cases (show ux = Value.ref x from rux)
  have hmL : mL pself = some (.ref x) := by
    rcases hlook with ⟨_, e⟩ | ⟨e, _⟩
    · exact e
    · have e : scope.names.lookup pself = some .cell ∨ scope.names.lookup pself = some .free := e
      rw [hself] at e
      rcases e with e | e <;> cases e
  refine ks_wpAt_super_base (env := PySem.W.ksEnv qual scope s0.heap.objs.size f (.ref cda) cc) (ar := ar) hsup hcls hat rfl (KX _ _ lk) rfl (by rw [hfp, hp]; rfl) rfl (KX _ _ lkc) rfl hvs hfile htop ?_
  obtain ⟨mb, hb1, hb2⟩ := I.mod.blt
  refine PySem.W.ks_loadName_global hk hsup (Calls.loadGlobal_builtin (env := PySem.W.ksEnv qual scope s0.heap.objs.size f (.ref cda) cc) (I.mod.glob.keeps I.bk) (PySem.W.mg_none_of KX (I.mod.glob.keeps I.bk) S.ns) (hb1.keeps I.bk) ((hb2 _ (by decide)).trans (by decide +kernel)) ⟨rfl, ?_⟩)
  refine wpAny_loadName_free hk hcls rfl ⟨_, KX _ _ lcc, rfl⟩ ?_
  rw [har]
  refine wpAny_loadName_local hk hself hns hmL ?_
  refine ks_wpAny_isType_cls hD1 hD2 ⟨rfl, ?_⟩
  obtain ⟨hh, g, d, t, os⟩ := s
  refine ks_wpAny_call_super hD1 hD2 J.at_ J.cls (fun c e => ?_) (PySem.W.looks_mroIn KX S.sub) (fun h' e k => ?_)
  · have := J.no
    unfold PySem.W.notCls at this
    rw [e] at this
    exact Bool.noConfusion this
  have I1 := I.kept (h' := h') (t' := t) k
  have KX1 : K.In h' := I1.kIn
  have hne : ∃ cd, PySem.W.clsIn K C = some cd := by
    cases hc : PySem.W.clsIn K C with
    | none =>
      have z := S.at2
      unfold PySem.W.ks_superIn at z
      rw [hc] at z
      cases z
    | some cd => exact ⟨cd, rfl⟩
  obtain ⟨cdC, hcC⟩ := hne
  have hm2 := S.at2
  unfold PySem.W.ks_superIn at hm2
  rw [hcC] at hm2
  obtain ⟨of, hof, hofc⟩ : ∃ of, h'.get? f2 = some of ∧ of.cls = .type "function" := by
    have ht' : (K.lookup f2).map (·.cls) = some (.type "function") := S.ty2
    cases z : K.lookup f2 with
    | none => rw [z] at ht'; cases ht'
    | some of => rw [z] at ht'; exact ⟨of, KX1 _ _ z, Option.some.inj ht'⟩
  obtain ⟨mA1, O1, _, _, _, _⟩ := ins_get I1.hok ex
  obtain ⟨od1, J1, _⟩ := O1.look
  refine ks_wpAny_getMethod_super e (PySem.W.looks_opaque KX1 S.any) (l₀ := cdC.mro) ?_ rfl KX1 hm2 hof hofc (PySem.W.ks_ne KX1 J1 hcC) hat ?_
  · exact fun A Q E s k q => wpAny_bind ((PySem.W.looks_clsIn KX1 hcC) A _ E s k (wpAny_pure q))
  · exact h _ _ (ClX.met_new (g := f2) (C := x) I1) (ClX.base_none I1 (Nat.le_refl _))
/-- a def that is no more than: return super().m() -/
theorem super_ok0 {pl : Sem Bool} {k : Nat} {f f2 C D : Addr} {fd fd2 : FuncData} {name qual m pself file : Str} {params : Arguments} {scope : Scope} {sp : Sp} {p0 p1 apos pos rp : Pos} {ar : Arg} {more : List Arg}
    (S : SupK K C D m f f2 name qual params [.Return (some (.Call (.Attribute (.Call (.Name "super" p0) [] [] p1) m apos) [] [] pos)) rp] scope file fd) (F2 : FnOk P w K mg base CX k f2 fd2 [pself] sp)
    (hb2 : L2.Binds K fd2 [pself] [])
    (inst : ∀ vs H Q E, sp vs H Q E → ∃ x dx fs, vs = [.ref x] ∧ H x = some (.ins C dx fs))
    (hx : ∀ (f cda cc : Addr) (A : Around) (outer : List Env) (s0 : Shared) (H0 : Hp) (E0 : XK), Passes CX (cxS CX P w K mg base [pself] qual scope f cda cc A outer s0 H0 E0) E0)
    (hsup : scope.names.lookup ("super" : Str) = some .globalImplicit) (hcls : scope.names.lookup ("__class__" : Str) = some .free)
    (hk : scope.kind = .function) (hco : scope.isCoroutine = false) (hgen : scope.isGenerator = false) (hat : (m == ("__class__" : Str)) = false) (hp : params.posonlyargs ++ params.args = ar :: more) (har : ar.arg = pself) (hself : scope.names.lookup pself = some .local)
    (hfree : ∀ x, scope.names.lookup x = some .cell ∨ scope.names.lookup x = some .free → x = "__class__") (hnc : ∀ x ∈ scope.names, x.2 ≠ .cell)
    (hfile : ((P.main.file : Str) == file) = true) (htop : (P.main.scope.names.lookup ("super" : Str)).isSome = false)
    (he : ∀ (L f cda cc : Addr), eval (.Call (.Attribute (.Call (.Name "super" p0) [] [] p1) m apos) [] [] pos) (PySem.W.ksEnv qual scope L f (.ref cda) cc) = (do
      let ov ← attributeBase (.Call (.Name "super" p0) [] [] p1) m (PySem.W.ksEnv qual scope L f (.ref cda) cc) (eval (.Call (.Name "super" p0) [] [] p1) (PySem.W.ksEnv qual scope L f (.ref cda) cc))
      standAt apos.atName
      let (fn', first) ← holding [ov] (getMethod ov m pl)
      callWith pos fn' first (backTo pos (starEach [] (PySem.W.ksEnv qual scope L f (.ref cda) cc))) [])) : FnOk P w K mg base CX (k + 1) f fd [pself] sp := by
  obtain ⟨oc, od, kV, doc, pm, an, cda, ct, cc, osl, rfl, lk, hcd, ⟨cf, cd', vs, c3, tf, lkc, hvs⟩, ⟨dc1, dc2, dc3, lcc⟩⟩ := S.ex
  refine ⟨fun vs H Q E h => ?_, fun A outer s H args us vs' Q E hr e0 hbd r hsp => ?_⟩
  · obtain ⟨x, dx, fs, rfl, _⟩ := inst _ _ _ _ h
    rfl
  · obtain ⟨x, dx, fs, rfl, ex⟩ := inst _ _ _ _ hsp
    have KX : K.In s.heap := e0.mod.kin.keeps fun b o e => (e0.bs b o e).1
    have lim : s.heap.NoLimit := e0.mod.nolimit.keeps fun b o e => (e0.bs b o e).1
    have hloc : ∀ y ∈ ([pself] : List Str).zip us, scope.names.lookup y.1 = some .local := fun ⟨n, v⟩ hy => by
      have := (List.of_mem_zip hy).1
      rw [List.mem_singleton.mp this]
      exact hself
    refine ks_codeAny_call_defAt (body := [.Return (some (.Call (.Attribute (.Call (.Name "super" p0) [] [] p1) m apos) [] [] pos)) rp]) hr.depth (KX _ _ lk) rfl lim (PySem.W.codeRec_of KX hcd) rfl hbd hnc hloc (fun h₁ hns keep => ?_) hco hgen hk
    have I := inv_startS (CX := CX) (P := P) (w := w) (K := K) (mg := mg) (base := base) (f := f) (cda := cda) (cc := cc) (qual := qual) (E := E) (tk := s.toks + (([pself] : List Str).zip us).length) (D := D) hk (by simp) (fun y hy => by rw [List.mem_singleton.mp hy]; exact hself) hfree hr.hd e0 (by rfl) r (e0.mod.kin _ _ lcc) rfl hns keep
    refine ks_wpAt_execs_cons (ks_wpAt_Return_some (super_run (ps := []) (σ := []) (pl := pl) (CX := CX) (E0 := E) (H0 := H) (s0 := s) (outer := outer) S lk rfl lkc hvs lcc I ex hsup hcls hk hat hp har hself hfile htop (fun q s' J hq => ?_) (he _ _ _ _)))
    have hrx := hr.deeper (PySem.W.ksEnv qual scope s.heap.objs.size f (.ref cda) cc)
    refine PySem.W.callWith_M0 ⟨ClX.pin_at J, J.kIn⟩ S.fi2 (wpAny_call (PySem.W.method_call (ClX.pin_at J) (codeAny_mono (F2.run _ _ _ H ⟨[.ref x], []⟩ [.ref x] [.ref x] Q E hrx J.env0 (hb2 _ [.ref x] J.kIn rfl) (.cons rfl .nil) hsp) fun r s2 z => ?_)))
    cases r with
    | error e => exact hx _ _ _ _ _ _ _ _ _ _ _ _ _ _ J z
    | ok fl =>
      cases fl with
      | ret u =>
        obtain ⟨v, H2, J2, rv, qz⟩ := J.after z
        exact ⟨v, H2, J2.os, J2.bare, J2.base, J2.hok, rv, qz⟩
      | next => exact False.elim z
      | brk => exact False.elim z
      | cont => exact False.elim z
/-- .. with one argument, a parameter -/
theorem super_ok1 {pl : Sem Bool} {k : Nat} {f f2 C D : Addr} {fd fd2 : FuncData} {name qual m pself parg file : Str} {params : Arguments} {scope : Scope} {sp : Sp} {p0 p1 pn apos pos rp : Pos} {ar : Arg} {more : List Arg} {ps2 : List Str}
    (S : SupK K C D m f f2 name qual params [.Return (some (.Call (.Attribute (.Call (.Name "super" p0) [] [] p1) m apos) [.Name parg pn] [] pos)) rp] scope file fd) (F2 : FnOk P w K mg base CX k f2 fd2 ps2 sp)
    (hb2 : L2.Binds K fd2 ps2 []) (hl2 : ps2.length = 2)
    (inst : ∀ vs H Q E, sp vs H Q E → ∃ x dx fs v, vs = [.ref x, v] ∧ H x = some (.ins C dx fs))
    (hx : ∀ (f cda cc : Addr) (A : Around) (outer : List Env) (s0 : Shared) (H0 : Hp) (E0 : XK), Passes CX (cxS CX P w K mg base [pself, parg] qual scope f cda cc A outer s0 H0 E0) E0)
    (hsup : scope.names.lookup ("super" : Str) = some .globalImplicit) (hcls : scope.names.lookup ("__class__" : Str) = some .free)
    (hk : scope.kind = .function) (hco : scope.isCoroutine = false) (hgen : scope.isGenerator = false) (hat : (m == ("__class__" : Str)) = false) (hp : params.posonlyargs ++ params.args = ar :: more) (har : ar.arg = pself) (hself : scope.names.lookup pself = some .local)
    (harg : scope.names.lookup parg = some .local) (hnd : [pself, parg].Nodup) (hdb : (parg == ("__debug__" : Str)) = false) (hcdb : (parg == ("__classdict__" : Str)) = false)
    (hfree : ∀ x, scope.names.lookup x = some .cell ∨ scope.names.lookup x = some .free → x = "__class__") (hnc : ∀ x ∈ scope.names, x.2 ≠ .cell)
    (hfile : ((P.main.file : Str) == file) = true) (htop : (P.main.scope.names.lookup ("super" : Str)).isSome = false)
    (he : ∀ (L f cda cc : Addr), eval (.Call (.Attribute (.Call (.Name "super" p0) [] [] p1) m apos) [.Name parg pn] [] pos) (PySem.W.ksEnv qual scope L f (.ref cda) cc) = (do
      let ov ← attributeBase (.Call (.Name "super" p0) [] [] p1) m (PySem.W.ksEnv qual scope L f (.ref cda) cc) (eval (.Call (.Name "super" p0) [] [] p1) (PySem.W.ksEnv qual scope L f (.ref cda) cc))
      standAt apos.atName
      let (fn', first) ← holding [ov] (getMethod ov m pl)
      callWith pos fn' first (backTo pos (starEach [.Name parg pn] (PySem.W.ksEnv qual scope L f (.ref cda) cc))) [])) : FnOk P w K mg base CX (k + 1) f fd [pself, parg] sp := by
  obtain ⟨oc, od, kV, doc, pm, an, cda, ct, cc, osl, rfl, lk, hcd, ⟨cf, cd', vs, c3, tf, lkc, hvs⟩, ⟨dc1, dc2, dc3, lcc⟩⟩ := S.ex
  refine ⟨fun vs H Q E h => ?_, fun A outer s H args us vs' Q E hr e0 hbd r hsp => ?_⟩
  · obtain ⟨x, dx, fs, v, rfl, _⟩ := inst _ _ _ _ h
    rfl
  · obtain ⟨x, dx, fs, va, rfl, ex⟩ := inst _ _ _ _ hsp
    have KX : K.In s.heap := e0.mod.kin.keeps fun b o e => (e0.bs b o e).1
    have lim : s.heap.NoLimit := e0.mod.nolimit.keeps fun b o e => (e0.bs b o e).1
    have hlocN : ∀ y ∈ ([pself, parg] : List Str), scope.names.lookup y = some .local := fun y hy => by
      rcases List.mem_cons.mp hy with h | h
      · rw [h]; exact hself
      · rw [List.mem_singleton.mp h]; exact harg
    have hloc : ∀ y ∈ ([pself, parg] : List Str).zip us, scope.names.lookup y.1 = some .local := fun ⟨n, v⟩ hy => hlocN n (List.of_mem_zip hy).1
    refine ks_codeAny_call_defAt (body := [.Return (some (.Call (.Attribute (.Call (.Name "super" p0) [] [] p1) m apos) [.Name parg pn] [] pos)) rp]) hr.depth (KX _ _ lk) rfl lim (PySem.W.codeRec_of KX hcd) rfl hbd hnc hloc (fun h₁ hns keep => ?_) hco hgen hk
    have I := inv_startS (CX := CX) (P := P) (w := w) (K := K) (mg := mg) (base := base) (f := f) (cda := cda) (cc := cc) (qual := qual) (E := E) (tk := s.toks + (([pself, parg] : List Str).zip us).length) (D := D) hk hnd hlocN hfree hr.hd e0 (by rfl) r (e0.mod.kin _ _ lcc) rfl hns keep
    refine ks_wpAt_execs_cons (ks_wpAt_Return_some (super_run (ps := [parg]) (σ := [some va]) (pl := pl) (CX := CX) (E0 := E) (H0 := H) (s0 := s) (outer := outer) S lk rfl lkc hvs lcc I ex hsup hcls hk hat hp har hself hfile htop (fun q s' J hq => ?_) (he _ _ _ _)))
    have hrx := hr.deeper (PySem.W.ksEnv qual scope s.heap.objs.size f (.ref cda) cc)
    have pa : PA (cxS CX P w K mg base [pself, parg] qual scope f cda cc A outer s H E) [.Name parg pn] _ := pa_cons (pe_var (i := 1) rfl (.inl harg) (hd := hdb) (hcd := hcdb)) pa_nil
    refine ClX.callwith_cm (X := cxS CX P w K mg base [pself, parg] qual scope f cda cc A outer s H E) J hq S.fi2 (thn (pa.run pos _ s' _ H (fun vs2 H3 => vs2 = [va] ∧ H3 = H) J ⟨va, rfl, rfl, rfl⟩) fun us2 s3 ⟨vs2, H3, I3, rv, e2, e3⟩ => ⟨⟨ClX.pin_at I3, I3.kIn⟩, ?_⟩) rfl rfl
    subst e2 e3
    have rr : Vals [V.ref x, va] (Value.ref x :: us2) := .cons rfl rv
    have hlen : (Value.ref x :: us2).length = ps2.length := by rw [← rr.length, hl2]; rfl
    have hbb := hb2 s3 (Value.ref x :: us2) I3.kIn (by rw [List.append_nil]; exact hlen)
    rw [List.append_nil] at hbb
    refine wpAny_call (PySem.W.method_call (ClX.pin_at I3) (codeAny_mono (F2.run _ _ _ H3 ⟨Value.ref x :: us2, []⟩ (Value.ref x :: us2) [.ref x, va] Q E hrx I3.env0 hbb rr hsp) fun r s2 z => ?_))
    cases r with
    | error e => exact hx _ _ _ _ _ _ _ _ _ _ _ _ _ _ I3 z
    | ok fl =>
      cases fl with
      | ret u =>
        obtain ⟨v, H2, J2, rv, qz⟩ := I3.after z
        exact ⟨v, H2, J2.os, J2.bare, J2.base, J2.hok, rv, qz⟩
      | next => exact False.elim z
      | brk => exact False.elim z
      | cont => exact False.elim z
end
end KR
namespace KR
open PySem PySem.Spec PyProof.Rows L2
theorem pg_tupK {X : Cx} {K : PySem.W.Frag} {es : List Expr} {k : Nat} {t : TGs} {n : Nat} {pos : Pos} (hK : X.K = K := by rfl) (hc : X.calm = true) (h : PGs X es t)
    (hn : (assignEach es X.env).length = n := by rfl) (hst : (assignEach es X.env).findIdx? (·.1) = none := by rfl) : PG X (.Tuple es k pos) (gTup K n t) := hK ▸ pg_tup hc h hn hst
/-! ### sorted of pairs of ints, of a dict's keys -/
def lexLe (a b : Int × Int) : Prop := a.1 < b.1 ∨ (a.1 = b.1 ∧ a.2 ≤ b.2)
def PrL (H : Hp) (L : List (Addr × Int × Int)) : Prop := ∀ e ∈ L, H e.1 = some (.tup [.int e.2.1, .int e.2.2])
def refsP (L : List (Addr × Int × Int)) : List V := L.map fun e => V.ref e.1
/-- the pair that stands at a reference -/
def kk (H : Hp) : V → Int × Int
  | .ref b => match H b with
    | some (.tup [.int i, .int j]) => (i, j)
    | _ => (0, 0)
  | _ => (0, 0)
def adrV : V → Addr
  | .ref b => b
  | _ => 0
theorem kk_of {H : Hp} {e : Addr × Int × Int} (h : H e.1 = some (.tup [.int e.2.1, .int e.2.2])) : kk H (.ref e.1) = e.2 := by
  unfold kk
  simp only [h]
theorem back_refs {H : Hp} : ∀ {L : List (Addr × Int × Int)}, PrL H L → (refsP L).map (fun v => (adrV v, kk H v)) = L
  | [], _ => rfl
  | e :: L, h => by
    show (adrV (.ref e.1), kk H (.ref e.1)) :: (refsP L).map _ = _
    rw [kk_of (h e List.mem_cons_self), back_refs fun x hx => h x (List.mem_cons_of_mem _ hx)]
    rfl
theorem sorted_back {H : Hp} {L0 : List (Addr × Int × Int)} {ys : List V} (h : PrL H L0) (p : ys.Perm (refsP L0)) (s : SrtO.Srtd (ltP (kk H)) ys) :
    ∃ L, L.Perm L0 ∧ (L.map (·.2)).Pairwise lexLe ∧ ys = refsP L ∧ PrL H L := by
  have hp : (ys.map fun v => (adrV v, kk H v)).Perm L0 := by
    have := p.map fun v => (adrV v, kk H v)
    rwa [back_refs h] at this
  refine ⟨ys.map fun v => (adrV v, kk H v), hp, ?_, ?_, fun e he => h e (hp.mem_iff.mp he)⟩
  · rw [List.map_map, List.pairwise_map]
    refine List.Pairwise.imp (fun {x y} (q : SrtO.lexB (kk H y) (kk H x) = false) => ?_) s
    have := SrtO.lexB_no.mp q
    show (kk H x).1 < (kk H y).1 ∨ ((kk H x).1 = (kk H y).1 ∧ (kk H x).2 ≤ (kk H y).2)
    omega
  · unfold refsP
    rw [List.map_map]
    refine (List.map_id _).symm.trans (List.map_congr_left fun v hv => ?_)
    obtain ⟨e, _, rfl⟩ := List.mem_map.mp (p.mem_iff.mp hv)
    rfl
/-- sorted(xs) of a list of pairs of ints, of any length -/
def rSortP (K : PySem.W.Frag) : List V → Hp → VK → Prop := fun vs H Q => ∃ (a : Addr) (L0 : List (Addr × Int × Int)), vs = [V.ref a] ∧ SqL K H a (refsP L0) ∧ PrL H L0 ∧
  ∀ (L : List (Addr × Int × Int)) (p : Addr) H', L.Perm L0 → (L.map (·.2)).Pairwise lexLe → PrL H' L → H p = none → Same H H' → H' p = some (.lst (refsP L)) → Q (.ref p) H'
theorem cr_sortP {X : Cx} {K : PySem.W.Frag} (hK : X.K = K := by rfl) : CallR X (.builtin "sorted") (rSortP K) := by
  subst hK
  intro pins s σ H vs us Q I r h
  obtain ⟨a, L0, e, hs, hp, q⟩ := h
  refine cr_sortedPO pins s σ H vs us Q I r ⟨a, refsP L0, kk H, e, hs, fun x hx => ?_, fun ys p h1 h2 h3 => ?_⟩
  · obtain ⟨e, he, rfl⟩ := List.mem_map.mp hx
    have := hp e he
    exact ⟨e.1, rfl, by rw [kk_of this]; exact this⟩
  · obtain ⟨L, p1, p2, rfl, p4⟩ := sorted_back hp h2.perm h1
    exact q L p _ p1 p2 (fun e he => same_new h3 _ _ (p4 e he)) h3 (same_new h3) upd_same
/-- sorted(d) of a dict with int keys -/
def rSortDI : List V → Hp → VK → Prop := fun vs H Q => ∃ (a : Addr) (kvs : List (Key × V)) (ks : List Int), vs = [V.ref a] ∧ Rd H a (.dK kvs) ∧ kvs.map (·.1) = ks.map Sum.inl ∧
  ∀ (ys : List Int) (p : Addr) H', ys.Perm ks → ys.Pairwise (· ≤ ·) → H p = none → Same H H' → H' p = some (.lst (ys.map V.int)) → Q (.ref p) H'
theorem cr_sortDI {X : Cx} (hcalm : X.calm = true) : CallR X (.builtin "sorted") rSortDI := by
  intro pins s σ H xs us Q I r q
  obtain ⟨a, kvs, ks, ex, hd, hks, q⟩ := q
  subst ex
  obtain ⟨u, eu, rx⟩ := vals1 r
  subst eu
  cases rx
  obtain ⟨z, lo, vs, rel, dd⟩ := dk_rd I.hok hd
  obtain ⟨ep, hat⟩ := dd.dictAt
  have hkeys : vs.map (·.1) = ks.map Sum.inl := rel.keys.symm.trans hks
  have hl : vs.length = ks.length := by
    have e := congrArg List.length hkeys
    rw [List.length_map, List.length_map] at e
    exact e
  have h16 : vs.length ≤ sizeLine := by rw [← rel.length]; exact z
  refine Calls.call_function_entry PyProof.Rows.kind_sorted PyProof.Rows.plain_sorted PyProof.Rows.entry_sorted (PyProof.Rows.args_sorted1 _) ?_
  unfold Builtin.«sorted»
  refine wpAny_bind (m := checkCount "sorted" 1 1 _) (wpAny_pure ?_)
  refine wpAny_bind (PySem.W.kdu_collect (A := X.A.in1) (PySem.W.kdl_dict (knd := mixKind X.prog X.w) (kvs := vs) (ep := ep) lo) (I.ok.hd hcalm) hat h16 fun h' tk acc hk hacc => ?_)
  have hal : acc.toList.length = ks.length := by rw [Array.length_toList, hacc.1, hl]
  have hS : IntsAre acc.toList ks := ints_each hal fun j v e => by
    obtain ⟨k, x, e1, e2⟩ := hacc.2 j v (by rw [← Array.getElem?_toList]; exact e)
    have e3 : (vs.map (·.1))[j]? = some k := by rw [List.getElem?_map, e1]; rfl
    rw [hkeys, List.getElem?_map] at e3
    cases e4 : ks[j]? with
    | none => rw [e4] at e3; cases e3
    | some y =>
      rw [e4] at e3
      have e5 : Sum.inl y = k := Option.some.inj e3
      subst e5
      rcases keyIs_shape (show keyIs (Sum.inl y) v = true from e2) with ⟨i, t, ek, ev⟩ | ⟨z, t, ek, ev⟩
      · cases ek
        exact ⟨y, t, rfl, ev⟩
      · cases ek
  have I1 : Inv X pins σ H { s with heap := h', toks := tk } := I.kept hk
  have hsl : acc.toList.length ≤ sizeLine := by rw [hal, ← hl]; exact h16
  refine wpAny_bind (wpAny_newList ?_ hsl)
  have hoL : (h'.push (seqObj "list" acc.toList.toArray 0)).get? h'.objs.size = some (seqObj "list" acc.toList.toArray 0) := Heap.get?_push_size _ rfl
  show wpAny _ _ _ _ _ { s with heap := h'.push (seqObj "list" acc.toList.toArray 0), toks := tk }
  refine wpAny_bind (wpAny_holding (wpAny_call_entry PyProof.Rows.slot_list_sort ⟨_, hoL, rfl⟩ PyProof.Rows.entry_list_sort
    (SrtO.list_sort_ord SrtO.swo_int (s := { s with heap := h'.push (seqObj "list" acc.toList.toArray 0), toks := tk }) hoL hsl (fun h2 => SrtO.ints_sortable hS h2) fun out h1 h2 => ⟨_, rfl, ?_⟩) (PyProof.Rows.args_list_sort _)))
  obtain ⟨k1, k2, k3⟩ := SrtO.ints_out hS h1 h2
  obtain ⟨e', he'⟩ := PyProof.Rows.sortedHeap_at (vs := acc.toList) (out := out.toArray) hoL
  have hlen : ((out.map SrtO.iv).map V.int).length ≤ sizeLine := by
    rw [List.length_map, k2.length_eq, ← hl]
    exact h16
  have hn := I1.hok.fresh (Nat.le_refl h'.objs.size)
  refine wpAny_pure ⟨_, rfl, .ref h'.objs.size, upd H h'.objs.size (.lst ((out.map SrtO.iv).map V.int)), I1.laid (t' := tk) (fun b u e => ?_) (Nat.le_refl _)
    (show ObjOk X.prog X.w _ _ _ (.lst ((out.map SrtO.iv).map V.int)) from ⟨hlen, out, e', vals_of_ints k1, he'⟩), rfl, q _ _ _ k2 k3 hn (same_new hn) upd_same⟩
  have hb : b < h'.objs.size := Heap.lt_size e
  rw [PyProof.Rows.sortedHeap_old (Nat.ne_of_lt hb) (by rw [size_push']; exact Nat.lt_succ_of_lt hb)]
  exact Heap.get?_push_of_some _ e
theorem keysL {H : Hp} {kvs : List (List Key × V)} {ks : List (List Key × Addr × Value)} (pr : KT H kvs ks) : ∀ {ks0 : List (Int × Int)}, kvs.map (·.1) = ks0.map (fun k => [Sum.inl k.1, Sum.inl k.2]) →
    ∃ L0 : List (Addr × Int × Int), ks.map (fun x => x.2.1) = L0.map (·.1) ∧ PrL H L0 ∧ L0.map (·.2) = ks0 := by
  induction pr with
  | nil =>
    intro ks0 hk
    cases ks0 with
    | nil => exact ⟨[], rfl, fun e he => (nomatch he), rfl⟩
    | cons _ _ => cases hk
  | @cons p k ps ks1 h t ih =>
    intro ks0 hk
    obtain ⟨h1, h2, h3⟩ := h
    cases ks0 with
    | nil => cases hk
    | cons k0 ks0 =>
      rw [List.map_cons, List.map_cons] at hk
      injection hk with e1 e2
      obtain ⟨L, a1, a2, a3⟩ := ih e2
      refine ⟨(k.2.1, k0) :: L, by rw [List.map_cons, List.map_cons, a1], fun e he => ?_, by rw [List.map_cons, a3]⟩
      rcases List.mem_cons.mp he with rfl | he
      · have z : H k.2.1 = some (.tup (p.1.map kV)) := h2
        rw [e1] at z
        exact z
      · exact a2 e he
/-- sorted(d) of a dict whose keys are pairs of ints -/
def rSortDT : List V → Hp → VK → Prop := fun vs H Q => ∃ (a : Addr) (kvs : List (List Key × V)) (ks : List (Int × Int)), vs = [V.ref a] ∧ Rd H a (.dT kvs) ∧ kvs.map (·.1) = ks.map (fun k => [Sum.inl k.1, Sum.inl k.2]) ∧
  ∀ (L : List (Addr × Int × Int)) (p : Addr) H', (L.map (·.2)).Perm ks → (L.map (·.2)).Pairwise lexLe → PrL H' L → H p = none → Same H H' → H' p = some (.lst (refsP L)) → Q (.ref p) H'
theorem cr_sortDT {X : Cx} (hc : X.calm = true) : CallR X (.builtin "sorted") rSortDT := by
  intro pins s σ H xs us Q I r h
  obtain ⟨d, kvs, ks0, rfl, hd, hks0, q⟩ := h
  obtain ⟨u, rfl, rx⟩ := r.one
  cases rx
  obtain ⟨z, hs, ks, pr, o, es, ep, ho, hx, hdt, he, hn⟩ := (show ObjOk X.prog X.w H s.heap d (.dT kvs) from hd.ok I.hok)
  have l1 : es.size = ks.length := size_of_entries he
  have l2 : kvs.length = ks.length := Paired.length pr
  refine Calls.call_function_entry PyProof.Rows.kind_sorted PyProof.Rows.plain_sorted PyProof.Rows.entry_sorted (PyProof.Rows.args_sorted1 _) ?_
  unfold Builtin.«sorted»
  refine wpAny_bind (m := checkCount "sorted" 1 1 _) (wpAny_pure ?_)
  refine wpAny_bind (PySem.W.kdu_collect (A := X.A.in1) (kdl_raw hs hx hdt) (I.ok.hd hc) ho (by omega) fun h' tk acc kp it => ?_)
  have ea : acc.toList = ks.map fun x => Value.ref x.2.1 := by
    have hl : acc.toList.length = ks.length := by rw [Array.length_toList, it.1]; exact l1
    apply List.ext_getElem?
    intro j
    rw [List.getElem?_map]
    cases hj : acc.toList[j]? with
    | none =>
      have h1 := List.getElem?_eq_none_iff.mp hj
      rw [List.getElem?_eq_none (by omega)]
      all_goals rfl
    | some v =>
      obtain ⟨en, hen, hv⟩ := it.2 j v (by rw [← Array.getElem?_toList]; exact hj)
      have qe := entry_at he j
      rw [hen] at qe
      cases hb : ks[j]? with
      | none =>
        rw [hb] at qe
        exact nomatch (show some en = none from qe)
      | some b =>
        rw [hb] at qe
        have e2 : en = entryOfKey (tupleKind (mixKind X.prog X.w)) b := Option.some.inj qe
        rw [hv, e2]
        all_goals rfl
  -- the keys as pairs
  obtain ⟨L0, eL, pL, mL⟩ := keysL pr hks0
  have eb : acc.toList = (L0.map (·.1)).map Value.ref := by rw [ea, ← eL, List.map_map]; rfl
  have I1 : Inv X pins σ H { s with heap := h', toks := tk } := I.kept kp
  have rv : Vals (refsP L0) acc.toList := by
    rw [eb]
    have := vals_refs (L0.map (·.1))
    unfold refsP
    rw [List.map_map] at this
    exact this
  have hsl : acc.toList.length ≤ sizeLine := by rw [Array.length_toList, it.1, l1, ← l2]; exact z
  obtain ⟨e1, e2⟩ := refs_back rv fun x hx => by
    obtain ⟨e, _, rfl⟩ := List.mem_map.mp hx
    exact ⟨e.1, rfl⟩
  have hp0 : ∀ v ∈ acc.toList, Srt.IsPair h' v (kk H (backV v)).1 (kk H (backV v)).2 := fun v hv => by
    obtain ⟨t, rfl⟩ := e2 v hv
    have hm : V.ref t ∈ refsP L0 := by rw [e1]; exact List.mem_map.mpr ⟨_, hv, rfl⟩
    obtain ⟨e, he, q⟩ := List.mem_map.mp hm
    have q : e.1 = t := by injection q
    subst q
    have ht := pL e he
    obtain ⟨_, its2, r2, o, ho, hc, n, hd⟩ := I1.hok _ _ ht
    obtain ⟨u1, u2, rfl, ri, rj⟩ := vals2 r2
    obtain ⟨t1, rfl⟩ := ri
    obtain ⟨t2, rfl⟩ := rj
    show Srt.IsPair h' (.ref e.1) (kk H (.ref e.1)).1 (kk H (.ref e.1)).2
    rw [kk_of ht]
    exact ⟨e.1, o, t1, t2, n, rfl, ho, hc, hd⟩
  refine wpAny_bind (wpAny_newList ?_ hsl)
  have hoL : (h'.push (seqObj "list" acc.toList.toArray 0)).get? h'.objs.size = some (seqObj "list" acc.toList.toArray 0) := Heap.get?_push_size _ rfl
  show wpAny _ _ _ _ _ { s with heap := h'.push (seqObj "list" acc.toList.toArray 0), toks := tk }
  have hp : ∀ v ∈ acc.toList, Srt.IsPair (h'.push (seqObj "list" acc.toList.toArray 0)) v (kk H (backV v)).1 (kk H (backV v)).2 := fun v hv => by
    obtain ⟨a, o, t, u, n, h1, h2, h3, h4⟩ := hp0 v hv
    exact ⟨a, o, t, u, n, h1, Heap.get?_push_of_some _ h2, h3, h4⟩
  refine wpAny_bind (wpAny_holding (wpAny_call_entry PyProof.Rows.slot_list_sort ⟨_, hoL, rfl⟩ PyProof.Rows.entry_list_sort
    (SrtO.list_sort_ord (SrtO.swo_lex fun u => kk H (backV u)) (s := { s with heap := h'.push (seqObj "list" acc.toList.toArray 0), toks := tk }) hoL hsl (fun h2 => SrtO.pairs_sortableO (by omega) hp fun o e => ?_) fun out h1 h2 => ⟨_, rfl, ?_⟩) (PyProof.Rows.args_list_sort _)))
  · have e' : some o = some (seqObj "list" acc.toList.toArray 0) := e.symm.trans hoL
    cases e'
    intro c
    exact absurd (Value.type.inj c) (by decide)
  · have h3 : ∀ u ∈ out, ∃ a, u = Value.ref a := fun u hu => e2 u (h2.perm.mem_iff.mp hu)
    obtain ⟨ep', he'⟩ := PyProof.Rows.sortedHeap_at (vs := acc.toList) (out := out.toArray) hoL
    have hb : SrtO.Stb (ltP (kk H)) (out.map backV) (refsP L0) := by
      rw [e1]
      exact SrtO.Stb.map (ltP_swo (kk H)) backV h2
    have hlen : (out.map backV).length ≤ sizeLine := by
      rw [hb.len, rv.length]
      exact hsl
    have hn := I1.hok.fresh (Nat.le_refl h'.objs.size)
    obtain ⟨L, p1, p2, p3, p4⟩ := sorted_back pL hb.perm (SrtO.srtd_map h1)
    refine wpAny_pure ⟨_, rfl, .ref h'.objs.size, upd H h'.objs.size (.lst (out.map backV)), I1.laid (t' := tk) (fun b u e => ?_) (Nat.le_refl _)
      (show ObjOk X.prog X.w _ _ _ (.lst (out.map backV)) from ⟨hlen, out, ep', vals_back h3, he'⟩), rfl, q L _ _ (by rw [← mL]; exact p1.map _) p2 (fun e he => same_new hn _ _ (p4 e he)) hn (same_new hn) (by rw [p3]; exact upd_same)⟩
    have hb : b < h'.objs.size := Heap.lt_size e
    rw [PyProof.Rows.sortedHeap_old (Nat.ne_of_lt hb) (by rw [size_push']; exact Nat.lt_succ_of_lt hb)]
    exact Heap.get?_push_of_some _ e
/-! ### d.pop(k) where d's keys are tuples, k there -/
def tDPopT (td ty : TE) : TE := fun σ H Q => td σ H fun x H1 => ∃ a, x = .ref a ∧ IsD H1 a ∧ ty σ H1 fun y H2 => ∃ kvs k b v, H2 a = some (.dT kvs) ∧ y = .ref b ∧ H2 b = some (.tup (k.map kV)) ∧ valV kvs k = some v ∧ Q v (upd H2 a (.dT (dropK kvs k)))
theorem pe_dpopT {X : Cx} {o e : Expr} {apos cpos : Pos} {td ty : TE} (hu : X.A.units + 1 < cLine) (ho : PE X o td) (he : PE X e ty) (m : M1 X o "pop" apos e cpos) : PE X (.Call (.Attribute o "pop" apos) [e] [] cpos) (tDPopT td ty) := by
  refine ⟨fun pins s σ H Q I h => ?_⟩
  refine wpAny_Call_method m.base m.few m.line PySem.F.plainAttrs_dict PySem.F.slot_dict_pop PySem.F.type_dict_pop (thn (ho.run pins s σ H _ I h) fun u s1 ⟨x, H1, I1, rx, a, ex, d, q1⟩ => ?_)
  subst ex
  obtain rfl : u = Value.ref a := rx
  obtain ⟨t1, t2, _⟩ := isD_at I1 d
  refine ⟨t1, t2, ?_⟩
  rw [m.trees]
  refine Calls.callWith_builtin rfl (Calls.evalArgs_plain (Calls.spliced_cons (thn (he.run pins s1 σ H1 _ I1 q1) fun iv s2 ⟨y, H2, I2, ry, kvs, k, b, v, ea, ey, eb, l, q2⟩ => Calls.spliced_nil ?_)))
  subst ey
  cases (show iv = Value.ref b from ry)
  obtain ⟨z, hd, xs', rel, dd⟩ := dt_of I2.hok ea
  have hz : xs'.length ≤ sizeLine := by rw [← Paired.length rel]; exact z
  obtain ⟨w', hw, rw'⟩ := RelO.some_of (v := v) (o := (atKey xs' k).map (·.2)) (by rw [← l]; exact rel.val k)
  obtain ⟨p, hp, hp2⟩ := Option.map_eq_some_iff.mp hw
  refine call_pop_heap (knd := tupleKind (mixKind X.prog X.w)) (k := k) (more := []) (hsz := hz) (.inl rfl) (PySem.F.args_dict_pop_2 _ _) (tupleKind_room_in1 hu) (key_of I2.hok eb) hd dd hp fun h' dd' hs => ?_
  obtain ⟨o, es, ep, hq, h2, h3, h4, _, h5⟩ := dd'
  have I3 : Inv X pins σ (upd H2 a (.dT (dropK kvs k))) { s2 with heap := h', toks := s2.toks + (tupleKind (mixKind X.prog X.w)).draws k } :=
    d_write I2 (by rw [ea]; exact True.intro) hs ⟨o, hq⟩ ⟨Nat.le_trans (dropK_le kvs k) z, hd, _, (L2.DX.KT_drop k rel).keeps (fun c ys ec => (by rw [upd_ne (ne_of ec ea (fun z => nomatch z))]; exact ec)), o, es, ep, hq, h2, h3, h4, h5⟩
  rw [hp2]
  exact ⟨v, _, I3, rw', q2⟩
/-! ### C.m(self, ..), C a class of the module, m a def -/
structure BMeth (K : PySem.W.Frag) (C : Addr) (m : Str) (f : Addr) : Prop where
  rd : PySem.W.readsIn K C (.type "type") = true
  ga : PySem.W.specialIn K (.ref C) "__getattribute__" = some (some (.builtin "type.__getattribute__"))
  at_ : PySem.W.findCls K (.ref C) (.type "type") m = some (.val (.ref f))
  kp : PySem.W.keepIn K (.ref f) = true
def bmB (C m : Str) (p : Str × Option Str) (K : PySem.W.Frag) : Bool :=
  PySem.W.readsIn K (He.ga K C) (.type "type") && (decide (PySem.W.specialIn K (.ref (He.ga K C)) "__getattribute__" = some (some (.builtin "type.__getattribute__"))) &&
    ((match PySem.W.findCls K (.ref (He.ga K C)) (.type "type") m with
      | some (.val v) => decide (v = .ref (He.fAd K p))
      | _ => false) && PySem.W.keepIn K (.ref (He.fAd K p))))
theorem bmB_ok {C m : Str} {p : Str × Option Str} {K : PySem.W.Frag} (h : bmB C m p K = true) : BMeth K (He.ga K C) m (He.fAd K p) := by
  unfold bmB at h
  obtain ⟨h1, h⟩ := He.ba h
  obtain ⟨h2, h⟩ := He.ba h
  obtain ⟨h3, h4⟩ := He.ba h
  refine ⟨h1, of_decide_eq_true h2, ?_, h4⟩
  split at h3
  · rename_i v e
    rw [e, of_decide_eq_true h3]
  · cases h3
theorem pe_bmeth {X : Cx} {CX : CXT} {k : Nat} {f C : Addr} {fd : FuncData} {ps : List Str} {sp : Sp} {E : XK} {x m : Str} {p pos apos : Pos} {e : Expr} {es : List Expr} {t : TA} {pl : Sem Bool} (B : BMeth X.K C m f)
    (F : FnOk X.prog X.w X.K X.mg X.base CX k f fd ps sp) (hr : Room k X.A) (hg : Gl X x) (hm : X.mg x = some (.ref C)) (hb : L2.Binds X.K fd ps []) (hx : Passes CX X E) (ha : PA X (e :: es) t)
    (hdb : (x == ("__debug__" : Str)) = false := by decide) (hst : starEach (e :: es) X.env = (false, eval e X.env) :: starEach es X.env := by rfl) (hpl : (backTo pos (starEach es X.env)).any (·.1) = false := by rfl)
    (ht : eval (.Call (.Attribute (.Name x p) m apos) (e :: es) [] pos) X.env = (do
      let ov ← eval (.Name x p) X.env
      standAt apos.atName
      let (f, first) ← holding [ov] (getMethod ov m pl)
      callWith pos f first (backTo pos (starEach (e :: es) X.env)) (backToKw pos (keywordEach [] X.env))) := by rfl) :
    PE X (.Call (.Attribute (.Name x p) m apos) (e :: es) [] pos) (tCall sp [] E t) := by
  refine ⟨fun pins s σ H Q I h => ?_⟩
  refine PySem.W.methodCall_KW (pl := pl) (ld_glob I hg hm ?_ hdb) ht
  refine PySem.W.method_cls I.kIn B.ga (PySem.W.cls_value I.kIn B.rd B.at_ (handed_of (v := .ref f) rfl) ?_)
  have I1 := I.tok (s.toks + 1)
  refine PySem.W.callWith_K (first := []) (h₀ := X.base) I.ok.mod.kin B.kp (thn (ha.run pos pins _ σ H _ I1 h) fun us s2 ⟨vs, H2, I2, r, q2⟩ => ⟨I2.kIn, ?_⟩) hst hpl
  exact run_fn F hr hb .nil hx I2 r q2
end KR
namespace KR
open PySem PySem.Spec PyProof.Rows L2
/-! ### the head's facts with defs that say super().m() and inherited methods -/
def methB (C m : Str) (p : Str × Option Str) (K : PySem.W.Frag) : Bool :=
  decide (PySem.W.findIn K (.ref (He.ga K C)) m = some (some (.ref (He.fAd K p)))) && (PySem.W.isFn K (.ref (He.fAd K p)) && PySem.W.keepIn K (.ref (He.fAd K p)))
theorem methB_ok {C m : Str} {p : Str × Option Str} {K : PySem.W.Frag} (h : methB C m p K = true) : Meth K (He.ga K C) m (He.fAd K p) := by
  unfold methB at h
  obtain ⟨h1, h⟩ := He.ba h
  obtain ⟨h2, h3⟩ := He.ba h
  exact ⟨of_decide_eq_true h1, h2, h3⟩
def fnWS (K : PySem.W.Frag) (p : Str × Option Str) : He.FnW := match K.lookup (He.fAd K p) with
  | some ⟨_, _, .func fd, _⟩ => some (fd.name, fd.qualname, fd.params, fd.body, fd.scope, fd.globals, fd.closure.map (fun x => (x.1, 0)), fd.builtins)
  | _ => none
structure SupE where
  d : He.DefD
  C : Str
  D : Str
  m : Str
  E : Str
  file : Str
def SupE.val (e : SupE) : He.FnW := some (e.d.name, e.d.qual, e.d.params, .stmts e.d.body, e.d.scope, mainGlobals, [("__class__", 0)], builtinsNs)
def noDef : Value → Bool
  | .none => true
  | _ => false
theorem noDef_ok {v : Value} (h : noDef v = true) : v = .none := by
  unfold noDef at h
  split at h
  · rfl
  · cases h
def SupE.okF (K : PySem.W.Frag) (e : SupE) (fd : FuncData) : Bool :=
  noDef fd.defaults && ((match fd.code with
    | .ref cda => PySem.W.codeIn K fd.code e.d.qual && (match K.lookup cda with
      | some ⟨_, _, .fields vs, _⟩ => (match (vs[2]? : Option Value) with
        | some (Value.str z _) => decide (z = e.file)
        | _ => false)
      | _ => false)
    | _ => false) &&
  (match fd.closure with
    | [(_, cc)] => (match K.lookup cc with
      | some ⟨_, _, .cell (some (.ref d)), _⟩ => decide (d = He.ga K e.D)
      | _ => false)
    | _ => false))
def SupE.ok (K : PySem.W.Frag) (e : SupE) : Bool :=
  (match K.lookup (He.fAd K e.d.at_) with
    | some ⟨_, _, .func fd, _⟩ => e.okF K fd
    | _ => false) && ((PySem.W.clsIn K (He.ga K e.D)).isSome && (decide (PySem.W.mroIn K (He.ga K e.C) (.ref (He.ga K e.D)) = some true) && (decide (PySem.W.nsIn K mainGlobals "super" = some none) &&
    (decide (PySem.W.nsIn K cStatics "thirdparty.any" = some none) && (decide (PySem.W.ks_superIn K (He.ga K e.C) (He.ga K e.D) e.m = some (some (.ref (He.fAd K (e.E, some e.m))))) &&
      (decide (PySem.W.typeIn K (.ref (He.fAd K (e.E, some e.m))) = some (.type "function")) && (PySem.W.fnIn K (He.fAd K (e.E, some e.m)) && PySem.W.keepIn K (.ref (He.fAd K e.d.at_)))))))))
theorem SupE.sup {K : PySem.W.Frag} {e : SupE} (h1 : fnWS K e.d.at_ = e.val) (h2 : e.ok K = true) :
    ∃ fd, SupK K (He.ga K e.C) (He.ga K e.D) e.m (He.fAd K e.d.at_) (He.fAd K (e.E, some e.m)) e.d.name e.d.qual e.d.params e.d.body e.d.scope e.file fd := by
  unfold SupE.ok at h2
  obtain ⟨a1, h2⟩ := He.ba h2
  obtain ⟨a2, h2⟩ := He.ba h2
  obtain ⟨a3, h2⟩ := He.ba h2
  obtain ⟨a4, h2⟩ := He.ba h2
  obtain ⟨a5, h2⟩ := He.ba h2
  obtain ⟨a6, h2⟩ := He.ba h2
  obtain ⟨a7, h2⟩ := He.ba h2
  obtain ⟨a8, a9⟩ := He.ba h2
  unfold fnWS at h1
  split at a1
  · rename_i oc od fd osl lk
    rw [lk] at h1
    unfold SupE.okF at a1
    obtain ⟨b00, a10⟩ := He.ba a1
    obtain ⟨b1, b2⟩ := He.ba a10
    have b0 := noDef_ok b00
    clear a1 b00 a10
    obtain ⟨n1, n2, n3, n4, n5, n6, n7, n8, n9, n10, n11, n12, n13, n14, n15⟩ := fd
    have e2 : (some (n1, n2, n3, n4, n5, n6, n7.map (fun x => (x.1, 0)), n15) : He.FnW) = (some (e.d.name, e.d.qual, e.d.params, FuncBody.stmts e.d.body, e.d.scope, mainGlobals, [("__class__", 0)], builtinsNs) : He.FnW) := h1
    simp only [Option.some.injEq, Prod.mk.injEq] at e2
    obtain ⟨c1, c2, c3, c4, c5, c6, c7, c8⟩ := e2
    subst c1 c2 c3 c4 c5 c6 c8
    dsimp only at b0 b1 b2
    subst b0
    split at b1
    · rename_i cda
      obtain ⟨b3, b4⟩ := He.ba b1
      split at b4
      · rename_i f1 f2 vs f3 lkc
        split at b4
        · rename_i z tf hvs
          split at b2
          · rename_i nm cc
            split at b2
            · rename_i g1 g2 dd g3 lcc
              have ez := of_decide_eq_true b4
              have ed := of_decide_eq_true b2
              subst ed
              have en : nm = "__class__" := by
                simp only [List.map_cons, List.map_nil, List.cons.injEq, Prod.mk.injEq, and_true] at c7
                exact c7
              subst en
              exact ⟨_, ⟨oc, od, n9, n10, n11, n12, cda, n14, cc, osl, rfl, lk, b3, ⟨f1, f2, vs, f3, tf, lkc, by rw [hvs, ez]⟩, ⟨g1, g2, g3, lcc⟩⟩, Option.isSome_iff_exists.mp a2, of_decide_eq_true a3, of_decide_eq_true a4, of_decide_eq_true a5, of_decide_eq_true a6, of_decide_eq_true a7, a8, a9⟩
            · cases b2
          · cases b2
        · cases b4
      · cases b4
    · cases b1
  · cases a1
def frS (g : Addr → Option Obj) (n : Nat) : PySem.W.Frag := He.frG g (cStatics :: He.asD g n)
def obsS (n : Nat) (fa : List He.Fa) (fn : List He.DefD) (ex : PySem.W.Frag → Bool) (sl : List SupE) (g : Addr → Option Obj) : He.AlD :=
  ((He.obsD fa fn (frS g n)).1 && (ex (frS g n) && sl.all fun e => e.ok (frS g n)), (He.obsD fa fn (frS g n)).2 ++ sl.map fun e => fnWS (frS g n) e.d.at_)
def valS (fn : List He.DefD) (sl : List SupE) : He.AlD := (true, (He.valD fn).2 ++ sl.map SupE.val)
structure SaysS (fa : List He.Fa) (fn : List He.DefD) (ex : PySem.W.Frag → Bool) (sl : List SupE) (K : PySem.W.Frag) : Prop where
  d : He.SaysD fa fn K
  more : ex K = true
  sup : ∀ e ∈ sl, ∃ fd, SupK K (He.ga K e.C) (He.ga K e.D) e.m (He.fAd K e.d.at_) (He.fAd K (e.E, some e.m)) e.d.name e.d.qual e.d.params e.d.body e.d.scope e.file fd
theorem map_eq_mem {α β : Type} {f g : α → β} : ∀ {l : List α}, l.map f = l.map g → ∀ x ∈ l, f x = g x
  | [], _, _, h => nomatch h
  | y :: l, e, x, h => by
    rw [List.map_cons, List.map_cons] at e
    injection e with e1 e2
    rcases List.mem_cons.mp h with rfl | h
    · exact e1
    · exact map_eq_mem e2 x h
theorem saysS_of {n : Nat} {fa : List He.Fa} {fn : List He.DefD} {ex : PySem.W.Frag → Bool} {sl : List SupE} {g : Addr → Option Obj} (e : obsS n fa fn ex sl g = valS fn sl) : SaysS fa fn ex sl (frS g n) := by
  have e1 : ((He.obsD fa fn (frS g n)).1 && (ex (frS g n) && sl.all fun e => e.ok (frS g n))) = true := congrArg (fun z : He.AlD => z.1) e
  have e2 : (He.obsD fa fn (frS g n)).2 ++ (sl.map fun e => fnWS (frS g n) e.d.at_) = (He.valD fn).2 ++ sl.map SupE.val := congrArg (fun z : He.AlD => z.2) e
  obtain ⟨h1, h2⟩ := He.ba e1
  obtain ⟨h3, h4⟩ := He.ba h2
  have hl : (He.obsD fa fn (frS g n)).2.length = (He.valD fn).2.length := by
    show (fn.map _).length = (fn.map _).length
    rw [List.length_map, List.length_map]
  obtain ⟨k1, k2⟩ := List.append_inj e2 hl
  exact ⟨Prod.ext h1 k1, h3, fun x hx => SupE.sup (map_eq_mem k2 x hx) (List.all_eq_true.mp h4 x hx)⟩
def hookS (n : Nat) (fa : List He.Fa) (fn : List He.DefD) (ex : PySem.W.Frag → Bool) (sl : List SupE) : PySem.W.Hook where
  α := He.AlD
  obs := fun s => obsS n fa fn ex sl s.heap.get?
  val := fun _ => valS fn sl
  says := fun _ h => ∃ K : PySem.W.Frag, K.In h ∧ SaysS fa fn ex sl K
  of := fun _ _ e => ⟨_, He.frG_in, saysS_of e⟩
  keeps := fun _ _ _ ⟨K, hK, c⟩ k => ⟨K, PySem.W.Frag.In.keeps hK k, c⟩
theorem obsS_eq {n : Nat} {fa : List He.Fa} {fn : List He.DefD} {ex : PySem.W.Frag → Bool} {sl : List SupE} {g : Addr → Option Obj} {s : Shared} (h : ∀ a, g a = s.heap.get? a) : obsS n fa fn ex sl g = (hookS n fa fn ex sl).obs s := by
  obtain rfl : g = s.heap.get? := funext h
  rfl
theorem hfree_of {scope : Scope} (h : ∀ y ∈ scope.names, (y.2 = .cell ∨ y.2 = .free) → y.1 = "__class__") : ∀ x, scope.names.lookup x = some .cell ∨ scope.names.lookup x = some .free → x = "__class__" := fun x hx => by
  rcases hx with hx | hx
  · exact h _ (PySem.mem_of_lookup hx) (.inl rfl)
  · exact h _ (PySem.mem_of_lookup hx) (.inr rfl)
end KR
namespace L2
open PySem PySem.Spec PyProof.Rows
/-! ### {k: v for x in xs if ..}, the keys tuples -/
theorem d_dictSetT {X : Cx} {pins : List (Addr × Obj)} {σ : St} {G : Hp} {z : Shared} {Ee : Value → Shared → Prop} {D b : Addr} {es : List (List Key × V)} {k : List Key} {v : V} {r : Value} {Qu : Unit → Shared → Prop} (hu : X.A.units + 1 < cLine) (I : Inv X pins σ G z)
    (hD : G D = some (.dT es)) (hb : G b = some (.tup (k.map kV))) (hn : es.length < sizeLine) (rv : RelV v r) (go : ∀ z', Inv X pins σ (upd G D (.dT (putK es k v))) z' → Qu () z') : wpAny (model X.prog X.w) X.A (dictSet D (.ref b) r) Qu Ee z := by
  obtain ⟨z0, h0, ks, kr, kd⟩ := dt_of I.hok hD
  have n1 : ks.length ≤ sizeLine := by rw [← Paired.length kr]; exact z0
  have n2 := length_putK es k v
  refine wpAny_dictSet_heap (hsz := n1) (Nat.lt_of_succ_lt hu) (key_of I.hok hb) kd fun hp kd' same => go _ ?_
  obtain ⟨o, e1, e2, w1, w2, w3, w4, _, w5⟩ := kd'
  have stays : ∀ c ys, G c = some (.tup ys) → (upd G D (.dT (putK es k v))) c = some (.tup ys) := fun c ys ec => by
    rw [upd_ne (ne_of ec hD (fun y => nomatch y))]; exact ec
  exact d_write I (by rw [hD]; exact True.intro) same ⟨o, w1⟩ ⟨by omega, h0, _, (kr.put k hb rv).keeps stays, o, e1, e2, w1, w2, w3, w4, w5⟩
/-- what such a comprehension asks, J its items: one turn sets one key, or none -/
def tDcT (wi : TI) (g : TG) (tt : TT) (tk tv : TE) (vs : List Nat) : TE := fun σ G0 Qz => wi σ G0 fun J G1 => ∀ D, G1 D = none → ∃ W : Nat → Nat → Hp → Prop, (∃ m, W 0 m (upd G1 D (.dT []))) ∧ ∀ i m G, W i m G →
  (J.stop i G ∧ Qz (.ref D) G) ∨ (J.go i G ∧ ∃ Nx : Hp → Prop, (∀ G', Nx G' → ∃ m', m' < m ∧ W (i + 1) m' G') ∧ ∀ x G', J.yld i G x G' → g x (wipe σ vs) G' fun τ G2 => wipe τ vs = wipe σ vs ∧ tt τ G2 fun kept G3 =>
    if kept = true then tk τ G3 fun y G4 => tv τ G4 fun u G5 => ∃ es b k, y = .ref b ∧ G5 b = some (.tup (k.map kV)) ∧ G5 D = some (.dT es) ∧ es.length < sizeLine ∧ Nx (upd G5 D (.dT (putK es k u))) else Nx G3)
section
variable {X : Cx}
theorem dcT_core {pins : List (Addr × Obj)} {s : Shared} {σ : St} {G0 : Hp} {Qz : VK} {kx vx tg iter : Expr} {ifs : List Expr} {scope : Scope} {own : List (Str × Nat)} {pos pos' : Pos} {wi : TI} {g : TG} {tt : TT} {tk tv : TE} {use : Option (Value → Sem Unit)} {Qf : Value → Shared → Prop} (hu : X.A.units + 1 < cLine)
    (hc : X.calm = true) (hN : X.N.Nodup) (I : Inv X pins σ G0 s) (hi : PI X tg iter wi) (ok : BlkOk X.N X.env.scope scope own)
    (hg : ∀ (a : Shared) (F : Hp) (C : Addr) (cl : List (Str × Addr)) (fs : List Addr), PG (X.blk a F scope (compEnvC scope cl C X.env) fs) tg g) (ht : ∀ (a : Shared) (F : Hp) (C : Addr) (cl : List (Str × Addr)) (fs : List Addr), PTs (X.blk a F scope (compEnvC scope cl C X.env) fs) ifs tt)
    (hk : ∀ (a : Shared) (F : Hp) (C : Addr) (cl : List (Str × Addr)) (fs : List Addr), PE (X.blk a F scope (compEnvC scope cl C X.env) fs) kx tk) (he : ∀ (a : Shared) (F : Hp) (C : Addr) (cl : List (Str × Addr)) (fs : List Addr), PE (X.blk a F scope (compEnvC scope cl C X.env) fs) vx tv)
    (hs : ∀ x, foldedSetIterable iter X.env x = pure x) (h : tDcT wi g tt tk tv (own.map (·.2)) σ G0 Qz)
    (back : ∀ D C z m GX, Inv X pins σ GX z → Qz (.ref D) GX → z.heap.Ns C m → FpOk X pins GX C → compPost (model X.prog X.w) X.A X.xe use Qf (.ref D) C (.ok .next) z) :
    wpAny (model X.prog X.w) X.A (comprehension (.DictComp kx vx [⟨tg, iter, ifs, 0⟩] scope pos) scope X.env pos' newDict false (eval iter X.env) use) Qf X.xe s := by
  have freeOk : ∀ y ∈ scope.names, y.2 = .free → ∃ c, X.env.cells.lookup y.1 = some c := fun y hy e => by
    rcases ok.free y hy e with k | k
    · exact I.ok.has _ (.inl k)
    · exact I.ok.has _ (.inr k)
  refine wpAny_comprehension_free (use := use) rfl hs (closure_ok freeOk) ok.kind (fun y hy e => by rw [ok.uniq y hy, e])
    (thn (hi.run pins s σ G0 _ I h) fun xv zA hx => thn hx fun itv zB h2 => ?_)
  obtain ⟨it, fz, ty, J, GB, e, JB, T, ruB, oB, q⟩ := h2
  subst e
  refine wpAny_newObj_type (newEnv_comp ?_)
  generalize hD : zB.heap.objs.size = D
  have hDn : GB D = none := JB.hok.fresh (Nat.le_of_eq hD)
  obtain ⟨W, ⟨m0, wz⟩, oneTurn⟩ := q D hDn
  -- the new list
  generalize eC : ({ zB with heap := zB.heap.push { cls := .type "dict", data := .dict #[] } } : Shared) = zC
  have JC : Inv X pins σ (upd GB D (.dT [])) zC := by
    rw [← eC]
    refine JB.laid (t' := zB.toks) (fun b o e => Heap.get?_push_of_some _ e) (Nat.le_of_eq hD) ?_
    rw [← hD]
    exact dt_empty zB.heap JB.big
  have eCh : zC.heap = zB.heap.push { cls := .type "dict", data := .dict #[] } := by rw [← eC]
  have small : ∀ b ∈ fz, b < zB.heap.objs.size := fun b hb => by
    obtain ⟨o, e, _⟩ := T.obj _ _ ruB b hb
    exact Heap.lt_size e
  have oC : ∀ b ∈ fz, FpOk X pins (upd GB D (.dT [])) b ∧ b < zC.heap.objs.size := fun b hb => by
    have hlt := small b hb
    refine ⟨⟨?_, (oB b hb).2⟩, by rw [eCh, Heap.size_push]; exact Nat.lt_succ_of_lt hlt⟩
    rw [upd_ne (by rw [← hD]; exact Nat.ne_of_lt hlt)]
    exact (oB b hb).1
  have ruC : ty 0 zC.heap := T.keep _ _ _ ruB fun b _ o e => by rw [eCh]; exact Heap.get?_push_of_some _ e
  have JD := block_start JC ok hN oC
  have qg := hg zC (upd GB D (.dT [])) zC.heap.objs.size (cellsFrom (zC.heap.objs.size + 1) scope.names (cloFrom X.env.cells scope.names [])) fz
  have qt := ht zC (upd GB D (.dT [])) zC.heap.objs.size (cellsFrom (zC.heap.objs.size + 1) scope.names (cloFrom X.env.cells scope.names [])) fz
  have qk := hk zC (upd GB D (.dT [])) zC.heap.objs.size (cellsFrom (zC.heap.objs.size + 1) scope.names (cloFrom X.env.cells scope.names [])) fz
  have qv := he zC (upd GB D (.dT [])) zC.heap.objs.size (cellsFrom (zC.heap.objs.size + 1) scope.names (cloFrom X.env.cells scope.names [])) fz
  show codeAny _ _ (.compStart (.DictComp kx vx [⟨tg, iter, ifs, 0⟩] scope pos) 0 (.ref it) (.ref D) (compEnvC scope (cellsFrom (zC.heap.objs.size + 1) scope.names (cloFrom X.env.cells scope.names [])) zC.heap.objs.size X.env)) (compPost (model X.prog X.w) X.A X.xe use Qf (.ref D) zC.heap.objs.size) { zC with heap := pushCells (zC.heap.push { cls := .type "dict", data := .dict #[] }) scope.names }
  have fzn : ∀ b ∈ fz, (upd GB D (.dT [])) b = none := fun b hb => (oC b hb).1.1
  generalize ecn : compEnvC scope (cellsFrom (zC.heap.objs.size + 1) scope.names (cloFrom X.env.cells scope.names [])) zC.heap.objs.size X.env = cn at JD qg qt qk qv ⊢
  have cnL : cn.locals = zC.heap.objs.size := by subst ecn; rfl
  generalize eGC : upd GB D (.dT []) = GC at JC JD qg qt qk qv wz fzn oC
  generalize eD : ({ zC with heap := pushCells (zC.heap.push { cls := .type "dict", data := .dict #[] }) scope.names } : Shared) = zD at JD ⊢
  have ruD : ty 0 zD.heap := T.keep _ _ _ ruC fun b _ o e => by rw [← eD]; exact pushCells_keeps _ _ _ _ (Heap.get?_push_of_some _ e)
  have stands : ∀ {σ' : St} {GX : Hp} {s' : Shared}, Inv (X.blk zC GC scope cn fz) [] σ' GX s' → (∀ b ∈ fz, GX b = none) → ∀ b ∈ fz, FpOk (X.blk zC GC scope cn fz) [] GX b := fun {σ' GX s'} JX hn b hb =>
    ⟨hn b hb, (JX.ok.exf b hb).1, JX.ok.exfs b hb, .inl hb, fun x c e => (JX.ok.exf b hb).2 x c e, fun p hp => absurd (show p ∈ ([] : List (Addr × Obj)) ++ [] from hp) (by simp)⟩
  have round : codeAny (model X.prog X.w) X.A (.compLoop (.DictComp kx vx [⟨tg, iter, ifs, 0⟩] scope pos) 0 (.ref it) (.ref D) cn) (compPost (model X.prog X.w) X.A X.xe use Qf (.ref D) zC.heap.objs.size) zD := by
    refine compLoop_anyD (fun n s' => ∃ i GX, Inv (X.blk zC GC scope cn fz) [] (wipe σ (own.map (·.2))) GX s' ∧ ty i s'.heap ∧ (∀ b ∈ fz, GX b = none) ∧ W i n GX) ?_ m0 ⟨0, GC, JD, ruD, fzn, wz⟩
    rintro n zE ⟨i, GE, JE, ruE, frE, wE⟩
    rcases oneTurn i n GE wE with ⟨stop, qq⟩ | ⟨go, Nx, hNx, step⟩
    · have ended := T.done (X.blk zC GC scope cn fz) rfl rfl rfl hc i [] zE _ GE (fun _ _ => False) JE (stands JE frE) ruE stop
      refine thnF ended fun r zF ⟨hr, JF⟩ => ?_
      subst hr
      -- back in the def's context
      have JG : Inv X pins σ GE zF := JC.call' (ch := fz) JF.os JF.base JF.hok JF.bare fun b hb => ⟨(oC b hb).1.2.2.2.1, (oC b hb).1.2.1, (oC b hb).1.2.2.2.2.1, (oC b hb).1.2.2.2.2.2⟩
      have nC : GE zC.heap.objs.size = none := by
        have z : GE cn.locals = none := JF.free
        rw [cnL] at z
        exact z
      obtain ⟨m, hn, _⟩ := JF.loc
      have hn : zF.heap.Ns cn.locals m := hn
      rw [cnL] at hn
      exact back D zC.heap.objs.size zF m GE JG qq hn (JC.fpOk (Nat.le_refl _) nC)
    · have given := T.item (X.blk zC GC scope cn fz) rfl rfl rfl hc i [] zE _ GE (fun _ _ => False) JE (stands JE frE) ruE go
      refine thnF given fun r zF ⟨u, hr, h6⟩ => ?_
      subst hr
      refine thnF h6 fun _ zG ⟨x, GG, JG, r7, y7, ruG, frG⟩ => ?_
      have JGp := JG.pinned (stands JG frG) (T.obj _ _ ruG)
      refine thnF (qg.run _ zG _ GG x u _ JGp r7 (step x GG y7)) fun _ zH ⟨σ8, GH, JH, hw8, q8⟩ => ?_
      refine thnF (qt.run _ zH σ8 GH _ JH q8) fun b zI ⟨GI, JI, q9⟩ => ?_
      -- the oneTurn's end
      have closing : ∀ {s' : Shared} {GX : Hp}, Inv (X.blk zC GC scope cn fz) ([] ++ pinsAt fz zG.heap) σ8 GX s' → Nx GX → ∃ m, m < n ∧ ∃ i GX, Inv (X.blk zC GC scope cn fz) [] (wipe σ (own.map (·.2))) GX s' ∧ ty i s'.heap ∧ (∀ b ∈ fz, GX b = none) ∧ W i m GX := fun {s' GX} JX nx => by
        obtain ⟨m', hm, wX⟩ := hNx GX nx
        have pinned2 : ∀ b ∈ fz, ∀ o, zG.heap.get? b = some o → s'.heap.get? b = some o ∧ GX b = none := fun b hb o e =>
          let z := JX.pin (b, o) (List.mem_append_right _ (List.mem_append_right _ (mem_pinsAt hb e)))
          ⟨z.1, z.2.1⟩
        have lenE : (wipe σ (own.map (·.2))).length = σ8.length := by rw [← hw8, wipe_length]
        refine ⟨m', hm, i + 1, GX, (JX.unpinned (pins := [])).weak lenE (fun j v e => ?_), T.keep _ _ _ ruG fun b hb o e => (pinned2 b hb o e).1, fun b hb => ?_, wX⟩
        · rw [← hw8] at e
          exact (wipe_some e).1
        · obtain ⟨o, e, _⟩ := T.obj _ _ ruG b hb
          exact (pinned2 b hb o e).2
      cases b with
      | false =>
        simp only [Bool.false_eq_true, if_false] at q9 ⊢
        exact closing JI q9
      | true =>
        simp only [if_true] at q9 ⊢
        refine thnF (qk.run _ zI σ8 GI _ JI q9) fun z zJ ⟨yk, GJ, JJ, r10, q10⟩ => ?_
        refine thnF (qv.run _ zJ σ8 GJ _ JJ q10) fun z2 zK ⟨yv, GK, JK, r11, es, b, k, ek, eb, hD11, hz11, nx⟩ => ?_
        subst ek
        obtain rfl : z = Value.ref b := r10
        exact d_dictSetT (X := X.blk zC GC scope cn fz) hu JK hD11 eb hz11 r11 fun zL JL => closing JL nx
  exact codeAny_compStart_dict round (T.self X.A 0 _ _ _ ruD round)
theorem pe_dcT {kx vx tg iter : Expr} {ifs : List Expr} {sc : Scope} {own : List (Str × Nat)} {pos : Pos} {wi : TI} {g : TG} {tt : TT} {tk tv : TE} (hu : X.A.units + 1 < cLine) (hc : X.calm = true) (hN : X.N.Nodup) (hi : PI X tg iter wi) (ok : BlkOk X.N X.env.scope sc own)
    (hg : ∀ (a : Shared) (F : Hp) (C : Addr) (cl : List (Str × Addr)) (fs : List Addr), PG (X.blk a F sc (compEnvC sc cl C X.env) fs) tg g) (ht : ∀ (a : Shared) (F : Hp) (C : Addr) (cl : List (Str × Addr)) (fs : List Addr), PTs (X.blk a F sc (compEnvC sc cl C X.env) fs) ifs tt)
    (hk : ∀ (a : Shared) (F : Hp) (C : Addr) (cl : List (Str × Addr)) (fs : List Addr), PE (X.blk a F sc (compEnvC sc cl C X.env) fs) kx tk) (hv : ∀ (a : Shared) (F : Hp) (C : Addr) (cl : List (Str × Addr)) (fs : List Addr), PE (X.blk a F sc (compEnvC sc cl C X.env) fs) vx tv)
    (fo : ∀ x, foldedSetIterable iter X.env x = pure x := by intro _; rfl) : PE X (.DictComp kx vx [⟨tg, iter, ifs, 0⟩] sc pos) (tDcT wi g tt tk tv (own.map (·.2))) := by
  refine ⟨fun pins a0 σ G0 Qz I h => ?_⟩
  rw [arm_eval_DictComp]
  refine dcT_core hu hc hN I hi ok hg ht hk hv fo h fun D C z m GX JX q hn f => ⟨m, hn, fun after sb => ?_⟩
  obtain ⟨f0, f1, f2, f3, f4, f5⟩ := f
  exact ⟨.ref D, GX, JX.turned (t' := z.toks) (fun b o hb e => (sb.2 b hb).trans e) f0 f1 f3 f4 f5, rfl, q⟩
end
/-- over a list that stays -/
theorem dcT_list {K : PySem.W.Frag} {a : Addr} {xs : List V} {g : TG} {tt : TT} {tk tv : TE} {vs : List Nat} {σ : St} {G1 : Hp} {D : Addr} {Qd : Hp → Prop} (Pv : Nat → Hp → Prop) (h0 : Pv 0 (upd G1 D (.dT []))) (hl : ∀ i G, i ≤ xs.length → Pv i G → SqL K G a xs)
    (hs : ∀ i x G, xs[i]? = some x → Pv i G → g x (wipe σ vs) G fun τ G2 => wipe τ vs = wipe σ vs ∧ tt τ G2 fun kept G3 =>
      if kept = true then tk τ G3 fun y G4 => tv τ G4 fun u G5 => ∃ es b k, y = .ref b ∧ G5 b = some (.tup (k.map kV)) ∧ G5 D = some (.dT es) ∧ es.length < sizeLine ∧ Pv (i + 1) (upd G5 D (.dT (putK es k u))) else Pv (i + 1) G3) (hd : ∀ G, Pv xs.length G → Qd G) :
    ∃ W : Nat → Nat → Hp → Prop, (∃ m, W 0 m (upd G1 D (.dT []))) ∧ ∀ i m G, W i m G →
      ((Itl K a).stop i G ∧ Qd G) ∨ ((Itl K a).go i G ∧ ∃ Nx : Hp → Prop, (∀ G', Nx G' → ∃ m', m' < m ∧ W (i + 1) m' G') ∧ ∀ x G', (Itl K a).yld i G x G' → g x (wipe σ vs) G' fun τ G2 => wipe τ vs = wipe σ vs ∧ tt τ G2 fun kept G3 =>
        if kept = true then tk τ G3 fun y G4 => tv τ G4 fun u G5 => ∃ es b k, y = .ref b ∧ G5 b = some (.tup (k.map kV)) ∧ G5 D = some (.dT es) ∧ es.length < sizeLine ∧ Nx (upd G5 D (.dT (putK es k u))) else Nx G3) := by
  refine ⟨fun i m G => m = xs.length - i ∧ i ≤ xs.length ∧ Pv i G, ⟨xs.length, rfl, Nat.zero_le _, h0⟩, ?_⟩
  rintro i m G ⟨rfl, hi, pv⟩
  have sq := hl i G hi pv
  rcases Nat.lt_or_ge i xs.length with lt | ge
  · refine .inr ⟨⟨xs, xs[i], sq, by simp [lt]⟩, Pv (i + 1), fun G' p' => ⟨xs.length - (i + 1), by omega, rfl, lt, p'⟩, fun x G' y => ?_⟩
    obtain ⟨eG, y⟩ := y
    subst eG
    exact hs i x _ (y xs sq) pv
  · have ei : i = xs.length := Nat.le_antisymm hi ge
    subst ei
    exact .inl ⟨⟨xs, sq, Nat.le_refl _⟩, hd G pv⟩
end L2
namespace L2
open PySem PySem.Spec PyProof.Rows
/-! ### dict(xs) of a list of pairs, the keys tuples, each once -/
theorem pairsT_of {X : Cx} {pins : List (Addr × Obj)} {σ : St} {H : Hp} {z : Shared} (I : Inv X pins σ H z) : ∀ {ps : List Addr} {es : List (List Key × Addr × V)}, Paired (fun p e => SqT X.K H p [.ref e.2.1, e.2.2] ∧ H e.2.1 = some (.tup (e.1.map kV))) ps es →
    ∃ ks : List (List Key × Addr × Value), KT H (es.map fun e => (e.1, e.2.2)) ks ∧ ks.length = ps.length ∧ ks.map (·.1) = es.map (·.1) ∧ ∀ (j : Nat) (q : List Key × Addr × Value), ks[j]? = some q → ∃ b, ps[j]? = some b ∧ IsTup z.heap b #[.ref q.2.1, q.2.2]
  | _, _, .nil => ⟨[], .nil, rfl, rfl, fun j q e => by simp at e⟩
  | _, _, .cons (a := p) (b := e) ⟨h, hk⟩ t => by
    obtain ⟨ks, r, n, k1, at_⟩ := pairsT_of I t
    obtain ⟨its, rv, ht, _⟩ := I.tuple h
    obtain ⟨u, y, ei, ru, ry⟩ := vals2 rv
    subst ei
    cases ru
    refine ⟨(e.1, e.2.1, y) :: ks, .cons ⟨rfl, hk, ry⟩ r, by rw [List.length_cons, List.length_cons, n], by rw [List.map_cons, List.map_cons, k1], fun j q hq => ?_⟩
    cases j with
    | zero => cases hq; exact ⟨p, rfl, ht⟩
    | succ j =>
      obtain ⟨b, e1, e2⟩ := at_ j q (by simpa using hq)
      exact ⟨b, by simpa using e1, e2⟩
theorem atKey_out {ks : List (List Key × Addr × Value)} {k : List Key} (h : k ∉ ks.map (·.1)) : atKey ks k = none := by
  unfold atKey
  rw [Option.map_eq_none_iff, List.find?_eq_none]
  intro x hx z
  exact h (List.mem_map.mpr ⟨x, hx, by simpa using z⟩)
theorem stored_all : ∀ (ks xs : List (List Key × Addr × Value)), ((xs ++ ks).map (·.1)).Nodup → storedAllH xs ks = xs ++ ks
  | [], xs, _ => by unfold storedAllH; simp
  | k :: ks, xs, h => by
    have hk : k.1 ∉ xs.map (·.1) := fun z => by
      rw [List.map_append, List.nodup_append] at h
      exact h.2.2 _ z _ (by rw [List.map_cons]; exact List.mem_cons_self) rfl
    have e : storedAllH xs (k :: ks) = storedAllH (storedH xs k.1 k.2.1 k.2.2) ks := rfl
    rw [e, storedH_new (atKey_out hk)]
    have h2 := stored_all ks (xs ++ [(k.1, k.2.1, k.2.2)]) (by rw [List.append_assoc]; exact h)
    rw [h2, List.append_assoc]
    rfl
theorem call_dictPT {X : Cx} (hu : X.A.units + 65 < cLine) (hcalm : X.calm = true) : CallR X (.type "dict") (fun xs H Q => ∃ (a : Addr) (ps : List Addr) (es : List (List Key × Addr × V)), xs = [.ref a] ∧ SqL X.K H a (ps.map V.ref) ∧
    Paired (fun p e => SqT X.K H p [.ref e.2.1, e.2.2] ∧ H e.2.1 = some (.tup (e.1.map kV))) ps es ∧ (es.map (·.1)).Nodup ∧ ∀ p G, H p = none → Same H G → G p = some (.dT (es.map fun e => (e.1, e.2.2))) → Q (.ref p) G) := by
  intro pins z σ H xs us Q I r q
  obtain ⟨a, ps, es, ex, hq, hp, nd, q⟩ := q
  subst ex
  obtain ⟨u, eu, rx⟩ := vals1 r
  subst eu
  cases rx
  obtain ⟨its, rv, pl, hz⟩ := I.list hq
  have ei := refs_at rv
  subst ei
  rw [List.length_map] at hz
  obtain ⟨ks, rel, hl, hks, hpr⟩ := pairsT_of I hp
  obtain ⟨o, n, ho, hc, hd, hdat⟩ := pl
  have hst := stored_all ks [] (by rw [List.nil_append, hks]; exact nd)
  rw [List.nil_append] at hst
  have kis : ∀ x ∈ ks, H x.2.1 = some (.tup (x.1.map kV)) := by
    have all : ∀ {l : List (List Key × V)} {m : List (List Key × Addr × Value)}, KT H l m → ∀ x ∈ m, H x.2.1 = some (.tup (x.1.map kV)) := by
      intro l m w
      induction w with
      | nil => intro x hx; exact nomatch hx
      | @cons p q ps qs h t ih =>
        intro x hx
        rcases List.mem_cons.mp hx with e | hx
        · subst e; rw [← h.1]; exact h.2.1
        · exact ih x hx
    exact all rel
  have P := PairArg.list (prog := X.prog) (w := X.w) a (ps.map Value.ref).toArray (fun j => ps.getD j 0) (ks.map fun k => (Value.ref k.2.1, k.2.2))
  refine call_dict_pairsH (knd := tupleKind (mixKind X.prog X.w)) (ps := ks) P (I.ok.hd hcalm) (show X.A.units + 2 < cLine by omega) ⟨⟨o, n, ho, hc, hd, hdat⟩, by simp [hl], fun j k v hj => ?_⟩ ⟨by simp, fun i key v hi => ?_⟩ (fun h' keep x hx => ?_) (by rw [List.length_map, hl]; exact hz) fun h' tk hd' keep => ?_
  · rw [List.getElem?_map] at hj
    cases e : ks[j]? with
    | none => rw [e] at hj; cases hj
    | some x =>
      rw [e] at hj
      have hj := Option.some.inj hj
      obtain ⟨b, e1, e2⟩ := hpr j x e
      have e3 : ps.getD j 0 = b := by rw [List.getD_eq_getElem?_getD, e1]; rfl
      cases hj
      dsimp only
      rw [e3]
      exact ⟨by simp [e1], .inl e2⟩
  · have hi : (ks.map fun k => (Value.ref k.2.1, k.2.2))[i]? = some (key, v) := hi
    rw [List.getElem?_map] at hi
    cases e : ks[i]? with
    | none => rw [e] at hi; cases hi
    | some x =>
      rw [e] at hi
      cases hi
      exact ⟨x.1, x.2.1, rfl, rfl⟩
  · obtain ⟨o, items, n, h1, h2⟩ := key_of I.hok (kis x hx)
    exact ⟨o, items, n, keep _ _ (Nat.ne_of_lt (Heap.lt_size h1)) (by simp) h1, h2⟩
  · rw [hst] at hd'
    have hm : (z.heap.objs.size == sysModules) = false := beq_eq_false_iff_ne.mpr (Nat.ne_of_gt I.big)
    have hn : H z.heap.objs.size = none := I.hok.fresh (Nat.le_refl _)
    have hlen : (es.map fun e => (e.1, e.2.2)).length ≤ sizeLine := by
      rw [Paired.length rel, hl]
      exact hz
    have kk : ∀ b o, z.heap.get? b = some o → h'.get? b = some o := fun b o e => keep b o (by simp) e
    have sm : Same H (upd H z.heap.objs.size (.dT (es.map fun e => (e.1, e.2.2)))) := fun b u e => by rw [upd_ne (ne_of_none e hn)]; exact e
    obtain ⟨o2, es2, ep2, w1, w2, w3, w4, _, w5⟩ := hd'
    have rel2 : KT (upd H z.heap.objs.size (.dT (es.map fun e => (e.1, e.2.2)))) (es.map fun e => (e.1, e.2.2)) ks := rel.keeps fun b ys e => sm _ _ e
    exact ⟨.ref z.heap.objs.size, _, I.laid (t' := tk) kk (Nat.le_refl _) (show ObjOk X.prog X.w _ _ _ (.dT (es.map fun e => (e.1, e.2.2))) from ⟨hlen, hm, ks, rel2, o2, es2, ep2, w1, w2, w3, w4, w5⟩), rfl, q _ _ hn sm upd_same⟩
end L2
namespace KR
open PySem PySem.Spec PyProof.Rows L2
def rDictPT (K : PySem.W.Frag) : List V → Hp → VK → Prop := fun xs H Q => ∃ (a : Addr) (ps : List Addr) (es : List (List L2.Key × Addr × V)), xs = [.ref a] ∧ SqL K H a (ps.map V.ref) ∧
    Paired (fun p e => SqT K H p [.ref e.2.1, e.2.2] ∧ H e.2.1 = some (.tup (e.1.map kV))) ps es ∧ (es.map (·.1)).Nodup ∧ ∀ p G, H p = none → Same H G → G p = some (.dT (es.map fun e => (e.1, e.2.2))) → Q (.ref p) G
theorem call_dictPTK {X : Cx} {K : PySem.W.Frag} (hu : X.A.units + 65 < cLine) (hc : X.calm = true) (hK : X.K = K := by rfl) : CallR X (.type "dict") (rDictPT K) := hK ▸ call_dictPT hu hc
end KR
namespace KR
open PySem PySem.Spec PyProof.Rows L2
def topS (i : Nat) : Stmt := PySem.Challenge.pw_keeprows_k28_events_of_each_row.main.body.getD i (.Pass ⟨0, 0, 0, 0⟩)
abbrev s_is_integer : Stmt := topS 14
abbrev P_is_integer : List Str := ["value"]
abbrev N_is_integer : List Str := ["value"]
def dd_is_integer : He.DefD := ⟨("is_integer", none), "is_integer", "is_integer", defArgs s_is_integer, defBody s_is_integer, defScope s_is_integer, [], []⟩
theorem sc_is_integer : FnScope N_is_integer P_is_integer (defScope s_is_integer) := ⟨rfl, rfl, rfl, by decide +kernel, rfl, by decide +kernel, by decide +kernel⟩
abbrev F_is_integer (K : PySem.W.Frag) (fd : FuncData) : Prop := FunD K "is_integer" "is_integer" (defArgs s_is_integer) (defBody s_is_integer) (defScope s_is_integer) [] [] (He.fAd K ("is_integer", none)) fd
abbrev s_is_between : Stmt := topS 15
abbrev P_is_between : List Str := ["value", "low", "high"]
abbrev N_is_between : List Str := ["value", "low", "high"]
def dd_is_between : He.DefD := ⟨("is_between", none), "is_between", "is_between", defArgs s_is_between, defBody s_is_between, defScope s_is_between, [], []⟩
theorem sc_is_between : FnScope N_is_between P_is_between (defScope s_is_between) := ⟨rfl, rfl, rfl, by decide +kernel, rfl, by decide +kernel, by decide +kernel⟩
abbrev F_is_between (K : PySem.W.Frag) (fd : FuncData) : Prop := FunD K "is_between" "is_between" (defArgs s_is_between) (defBody s_is_between) (defScope s_is_between) [] [] (He.fAd K ("is_between", none)) fd
abbrev s_check_part : Stmt := topS 16
abbrev P_check_part : List Str := ["part", "value", "low", "high"]
abbrev N_check_part : List Str := ["part", "value", "low", "high"]
def dd_check_part : He.DefD := ⟨("check_part", none), "check_part", "check_part", defArgs s_check_part, defBody s_check_part, defScope s_check_part, [], []⟩
theorem sc_check_part : FnScope N_check_part P_check_part (defScope s_check_part) := ⟨rfl, rfl, rfl, by decide +kernel, rfl, by decide +kernel, by decide +kernel⟩
abbrev F_check_part (K : PySem.W.Frag) (fd : FuncData) : Prop := FunD K "check_part" "check_part" (defArgs s_check_part) (defBody s_check_part) (defScope s_check_part) [] [] (He.fAd K ("check_part", none)) fd
abbrev s_Settings___init__ : Stmt := inClass (topS 17) 0
abbrev P_Settings___init__ : List Str := ["self", "lengths", "size", "fanout", "records", "every", "keep"]
abbrev N_Settings___init__ : List Str := ["self", "lengths", "size", "fanout", "records", "every", "keep", "length"]
def dd_Settings___init__ : He.DefD := ⟨("Settings", some "__init__"), "__init__", "Settings.__init__", defArgs s_Settings___init__, defBody s_Settings___init__, defScope s_Settings___init__, [], []⟩
theorem sc_Settings___init__ : FnScope N_Settings___init__ P_Settings___init__ (defScope s_Settings___init__) := ⟨rfl, rfl, rfl, by decide +kernel, rfl, by decide +kernel, by decide +kernel⟩
abbrev F_Settings___init__ (K : PySem.W.Frag) (fd : FuncData) : Prop := FunD K "__init__" "Settings.__init__" (defArgs s_Settings___init__) (defBody s_Settings___init__) (defScope s_Settings___init__) [] [] (He.fAd K ("Settings", some "__init__")) fd
abbrev s_Settings___eq__ : Stmt := inClass (topS 17) 1
abbrev P_Settings___eq__ : List Str := ["self", "other"]
abbrev N_Settings___eq__ : List Str := ["self", "other"]
def dd_Settings___eq__ : He.DefD := ⟨("Settings", some "__eq__"), "__eq__", "Settings.__eq__", defArgs s_Settings___eq__, defBody s_Settings___eq__, defScope s_Settings___eq__, [], []⟩
theorem sc_Settings___eq__ : FnScope N_Settings___eq__ P_Settings___eq__ (defScope s_Settings___eq__) := ⟨rfl, rfl, rfl, by decide +kernel, rfl, by decide +kernel, by decide +kernel⟩
abbrev F_Settings___eq__ (K : PySem.W.Frag) (fd : FuncData) : Prop := FunD K "__eq__" "Settings.__eq__" (defArgs s_Settings___eq__) (defBody s_Settings___eq__) (defScope s_Settings___eq__) [] [] (He.fAd K ("Settings", some "__eq__")) fd
abbrev s_Settings_parts : Stmt := inClass (topS 17) 2
abbrev P_Settings_parts : List Str := ["self"]
abbrev N_Settings_parts : List Str := ["self"]
def dd_Settings_parts : He.DefD := ⟨("Settings", some "parts"), "parts", "Settings.parts", defArgs s_Settings_parts, defBody s_Settings_parts, defScope s_Settings_parts, [], []⟩
theorem sc_Settings_parts : FnScope N_Settings_parts P_Settings_parts (defScope s_Settings_parts) := ⟨rfl, rfl, rfl, by decide +kernel, rfl, by decide +kernel, by decide +kernel⟩
abbrev F_Settings_parts (K : PySem.W.Frag) (fd : FuncData) : Prop := FunD K "parts" "Settings.parts" (defArgs s_Settings_parts) (defBody s_Settings_parts) (defScope s_Settings_parts) [] [] (He.fAd K ("Settings", some "parts")) fd
abbrev s_check_settings : Stmt := topS 18
abbrev P_check_settings : List Str := ["value"]
abbrev N_check_settings : List Str := ["value"]
def dd_check_settings : He.DefD := ⟨("check_settings", none), "check_settings", "check_settings", defArgs s_check_settings, defBody s_check_settings, defScope s_check_settings, [], []⟩
theorem sc_check_settings : FnScope N_check_settings P_check_settings (defScope s_check_settings) := ⟨rfl, rfl, rfl, by decide +kernel, rfl, by decide +kernel, by decide +kernel⟩
abbrev F_check_settings (K : PySem.W.Frag) (fd : FuncData) : Prop := FunD K "check_settings" "check_settings" (defArgs s_check_settings) (defBody s_check_settings) (defScope s_check_settings) [] [] (He.fAd K ("check_settings", none)) fd
abbrev s_check_moment : Stmt := topS 19
abbrev P_check_moment : List Str := ["value"]
abbrev N_check_moment : List Str := ["value"]
def dd_check_moment : He.DefD := ⟨("check_moment", none), "check_moment", "check_moment", defArgs s_check_moment, defBody s_check_moment, defScope s_check_moment, [], []⟩
theorem sc_check_moment : FnScope N_check_moment P_check_moment (defScope s_check_moment) := ⟨rfl, rfl, rfl, by decide +kernel, rfl, by decide +kernel, by decide +kernel⟩
abbrev F_check_moment (K : PySem.W.Frag) (fd : FuncData) : Prop := FunD K "check_moment" "check_moment" (defArgs s_check_moment) (defBody s_check_moment) (defScope s_check_moment) [] [] (He.fAd K ("check_moment", none)) fd
abbrev s_Packing___init__ : Stmt := inClass (topS 21) 0
abbrev P_Packing___init__ : List Str := ["self", "settings"]
abbrev N_Packing___init__ : List Str := ["self", "settings", "seen"]
def dd_Packing___init__ : He.DefD := ⟨("Packing", some "__init__"), "__init__", "Packing.__init__", defArgs s_Packing___init__, defBody s_Packing___init__, defScope s_Packing___init__, [], []⟩
theorem sc_Packing___init__ : FnScope N_Packing___init__ P_Packing___init__ (defScope s_Packing___init__) := ⟨rfl, rfl, rfl, by decide +kernel, rfl, by decide +kernel, by decide +kernel⟩
abbrev F_Packing___init__ (K : PySem.W.Frag) (fd : FuncData) : Prop := FunD K "__init__" "Packing.__init__" (defArgs s_Packing___init__) (defBody s_Packing___init__) (defScope s_Packing___init__) [] [] (He.fAd K ("Packing", some "__init__")) fd
abbrev s_Packing_length : Stmt := inClass (topS 21) 1
abbrev P_Packing_length : List Str := ["self", "row"]
abbrev N_Packing_length : List Str := ["self", "row"]
def dd_Packing_length : He.DefD := ⟨("Packing", some "length"), "length", "Packing.length", defArgs s_Packing_length, defBody s_Packing_length, defScope s_Packing_length, [], []⟩
theorem sc_Packing_length : FnScope N_Packing_length P_Packing_length (defScope s_Packing_length) := ⟨rfl, rfl, rfl, by decide +kernel, rfl, by decide +kernel, by decide +kernel⟩
abbrev F_Packing_length (K : PySem.W.Frag) (fd : FuncData) : Prop := FunD K "length" "Packing.length" (defArgs s_Packing_length) (defBody s_Packing_length) (defScope s_Packing_length) [] [] (He.fAd K ("Packing", some "length")) fd
abbrev s_Packing_rows_from : Stmt := inClass (topS 21) 2
abbrev P_Packing_rows_from : List Str := ["self", "row"]
abbrev N_Packing_rows_from : List Str := ["self", "row", "found", "units"]
def dd_Packing_rows_from : He.DefD := ⟨("Packing", some "rows_from"), "rows_from", "Packing.rows_from", defArgs s_Packing_rows_from, defBody s_Packing_rows_from, defScope s_Packing_rows_from, [], []⟩
theorem sc_Packing_rows_from : FnScope N_Packing_rows_from P_Packing_rows_from (defScope s_Packing_rows_from) := ⟨rfl, rfl, rfl, by decide +kernel, rfl, by decide +kernel, by decide +kernel⟩
abbrev F_Packing_rows_from (K : PySem.W.Frag) (fd : FuncData) : Prop := FunD K "rows_from" "Packing.rows_from" (defArgs s_Packing_rows_from) (defBody s_Packing_rows_from) (defScope s_Packing_rows_from) [] [] (He.fAd K ("Packing", some "rows_from")) fd
abbrev s_Packing_start : Stmt := inClass (topS 21) 3
abbrev P_Packing_start : List Str := ["self", "page"]
abbrev N_Packing_start : List Str := ["self", "page", "times", "place"]
def dd_Packing_start : He.DefD := ⟨("Packing", some "start"), "start", "Packing.start", defArgs s_Packing_start, defBody s_Packing_start, defScope s_Packing_start, [], []⟩
theorem sc_Packing_start : FnScope N_Packing_start P_Packing_start (defScope s_Packing_start) := ⟨rfl, rfl, rfl, by decide +kernel, rfl, by decide +kernel, by decide +kernel⟩
abbrev F_Packing_start (K : PySem.W.Frag) (fd : FuncData) : Prop := FunD K "start" "Packing.start" (defArgs s_Packing_start) (defBody s_Packing_start) (defScope s_Packing_start) [] [] (He.fAd K ("Packing", some "start")) fd
abbrev s_Packing_holder : Stmt := inClass (topS 21) 4
abbrev P_Packing_holder : List Str := ["self", "row"]
abbrev N_Packing_holder : List Str := ["self", "row", "times", "near", "page", "place"]
def dd_Packing_holder : He.DefD := ⟨("Packing", some "holder"), "holder", "Packing.holder", defArgs s_Packing_holder, defBody s_Packing_holder, defScope s_Packing_holder, [], []⟩
theorem sc_Packing_holder : FnScope N_Packing_holder P_Packing_holder (defScope s_Packing_holder) := ⟨rfl, rfl, rfl, by decide +kernel, rfl, by decide +kernel, by decide +kernel⟩
abbrev F_Packing_holder (K : PySem.W.Frag) (fd : FuncData) : Prop := FunD K "holder" "Packing.holder" (defArgs s_Packing_holder) (defBody s_Packing_holder) (defScope s_Packing_holder) [] [] (He.fAd K ("Packing", some "holder")) fd
abbrev s_Packing_begun : Stmt := inClass (topS 21) 12
abbrev P_Packing_begun : List Str := ["self", "moment"]
abbrev N_Packing_begun : List Str := ["self", "moment"]
def dd_Packing_begun : He.DefD := ⟨("Packing", some "begun"), "begun", "Packing.begun", defArgs s_Packing_begun, defBody s_Packing_begun, defScope s_Packing_begun, [], []⟩
theorem sc_Packing_begun : FnScope N_Packing_begun P_Packing_begun (defScope s_Packing_begun) := ⟨rfl, rfl, rfl, by decide +kernel, rfl, by decide +kernel, by decide +kernel⟩
abbrev F_Packing_begun (K : PySem.W.Frag) (fd : FuncData) : Prop := FunD K "begun" "Packing.begun" (defArgs s_Packing_begun) (defBody s_Packing_begun) (defScope s_Packing_begun) [] [] (He.fAd K ("Packing", some "begun")) fd
abbrev s_root_level : Stmt := topS 23
abbrev P_root_level : List Str := ["oldest", "newest", "fanout"]
abbrev N_root_level : List Str := ["oldest", "newest", "fanout", "level"]
def dd_root_level : He.DefD := ⟨("root_level", none), "root_level", "root_level", defArgs s_root_level, defBody s_root_level, defScope s_root_level, [], []⟩
theorem sc_root_level : FnScope N_root_level P_root_level (defScope s_root_level) := ⟨rfl, rfl, rfl, by decide +kernel, rfl, by decide +kernel, by decide +kernel⟩
abbrev F_root_level (K : PySem.W.Frag) (fd : FuncData) : Prop := FunD K "root_level" "root_level" (defArgs s_root_level) (defBody s_root_level) (defScope s_root_level) [] [] (He.fAd K ("root_level", none)) fd
abbrev s_Core___init__ : Stmt := inClass (topS 25) 0
abbrev P_Core___init__ : List Str := ["self", "settings", "packing"]
abbrev N_Core___init__ : List Str := ["self", "settings", "packing"]
def dd_Core___init__ : He.DefD := ⟨("Core", some "__init__"), "__init__", "Core.__init__", defArgs s_Core___init__, defBody s_Core___init__, defScope s_Core___init__, [], []⟩
theorem sc_Core___init__ : FnScope N_Core___init__ P_Core___init__ (defScope s_Core___init__) := ⟨rfl, rfl, rfl, by decide +kernel, rfl, by decide +kernel, by decide +kernel⟩
abbrev F_Core___init__ (K : PySem.W.Frag) (fd : FuncData) : Prop := FunD K "__init__" "Core.__init__" (defArgs s_Core___init__) (defBody s_Core___init__) (defScope s_Core___init__) [] [] (He.fAd K ("Core", some "__init__")) fd
abbrev s_Core_note : Stmt := inClass (topS 25) 1
abbrev P_Core_note : List Str := ["self", "kind", "page", "role"]
abbrev N_Core_note : List Str := ["self", "kind", "page", "role"]
def dd_Core_note : He.DefD := ⟨("Core", some "note"), "note", "Core.note", defArgs s_Core_note, defBody s_Core_note, defScope s_Core_note, [], []⟩
theorem sc_Core_note : FnScope N_Core_note P_Core_note (defScope s_Core_note) := ⟨rfl, rfl, rfl, by decide +kernel, rfl, by decide +kernel, by decide +kernel⟩
abbrev F_Core_note (K : PySem.W.Frag) (fd : FuncData) : Prop := FunD K "note" "Core.note" (defArgs s_Core_note) (defBody s_Core_note) (defScope s_Core_note) [] [] (He.fAd K ("Core", some "note")) fd
abbrev s_Core_make : Stmt := inClass (topS 25) 2
abbrev P_Core_make : List Str := ["self", "number"]
abbrev N_Core_make : List Str := ["self", "number"]
def dd_Core_make : He.DefD := ⟨("Core", some "make"), "make", "Core.make", defArgs s_Core_make, defBody s_Core_make, defScope s_Core_make, [], []⟩
theorem sc_Core_make : FnScope N_Core_make P_Core_make (defScope s_Core_make) := ⟨rfl, rfl, rfl, by decide +kernel, rfl, by decide +kernel, by decide +kernel⟩
abbrev F_Core_make (K : PySem.W.Frag) (fd : FuncData) : Prop := FunD K "make" "Core.make" (defArgs s_Core_make) (defBody s_Core_make) (defScope s_Core_make) [] [] (He.fAd K ("Core", some "make")) fd
abbrev s_Core_take : Stmt := inClass (topS 25) 3
abbrev P_Core_take : List Str := ["self", "role"]
abbrev N_Core_take : List Str := ["self", "role", "page"]
def dd_Core_take : He.DefD := ⟨("Core", some "take"), "take", "Core.take", defArgs s_Core_take, defBody s_Core_take, defScope s_Core_take, [], []⟩
theorem sc_Core_take : FnScope N_Core_take P_Core_take (defScope s_Core_take) := ⟨rfl, rfl, rfl, by decide +kernel, rfl, by decide +kernel, by decide +kernel⟩
abbrev F_Core_take (K : PySem.W.Frag) (fd : FuncData) : Prop := FunD K "take" "Core.take" (defArgs s_Core_take) (defBody s_Core_take) (defScope s_Core_take) [] [] (He.fAd K ("Core", some "take")) fd
abbrev s_Core_give : Stmt := inClass (topS 25) 4
abbrev P_Core_give : List Str := ["self", "page", "role"]
abbrev N_Core_give : List Str := ["self", "page", "role"]
def dd_Core_give : He.DefD := ⟨("Core", some "give"), "give", "Core.give", defArgs s_Core_give, defBody s_Core_give, defScope s_Core_give, [], []⟩
theorem sc_Core_give : FnScope N_Core_give P_Core_give (defScope s_Core_give) := ⟨rfl, rfl, rfl, by decide +kernel, rfl, by decide +kernel, by decide +kernel⟩
abbrev F_Core_give (K : PySem.W.Frag) (fd : FuncData) : Prop := FunD K "give" "Core.give" (defArgs s_Core_give) (defBody s_Core_give) (defScope s_Core_give) [] [] (He.fAd K ("Core", some "give")) fd
abbrev s_Core_newest : Stmt := inClass (topS 25) 5
abbrev P_Core_newest : List Str := ["self"]
abbrev N_Core_newest : List Str := ["self"]
def dd_Core_newest : He.DefD := ⟨("Core", some "newest"), "newest", "Core.newest", defArgs s_Core_newest, defBody s_Core_newest, defScope s_Core_newest, [], []⟩
theorem sc_Core_newest : FnScope N_Core_newest P_Core_newest (defScope s_Core_newest) := ⟨rfl, rfl, rfl, by decide +kernel, rfl, by decide +kernel, by decide +kernel⟩
abbrev F_Core_newest (K : PySem.W.Frag) (fd : FuncData) : Prop := FunD K "newest" "Core.newest" (defArgs s_Core_newest) (defBody s_Core_newest) (defScope s_Core_newest) [] [] (He.fAd K ("Core", some "newest")) fd
abbrev s_Core_change : Stmt := inClass (topS 25) 6
abbrev P_Core_change : List Str := ["self", "level", "number"]
abbrev N_Core_change : List Str := ["self", "level", "number", "page"]
def dd_Core_change : He.DefD := ⟨("Core", some "change"), "change", "Core.change", defArgs s_Core_change, defBody s_Core_change, defScope s_Core_change, [], []⟩
theorem sc_Core_change : FnScope N_Core_change P_Core_change (defScope s_Core_change) := ⟨rfl, rfl, rfl, by decide +kernel, rfl, by decide +kernel, by decide +kernel⟩
abbrev F_Core_change (K : PySem.W.Frag) (fd : FuncData) : Prop := FunD K "change" "Core.change" (defArgs s_Core_change) (defBody s_Core_change) (defScope s_Core_change) [] [] (He.fAd K ("Core", some "change")) fd
abbrev s_Core_begin_page : Stmt := inClass (topS 25) 7
abbrev P_Core_begin_page : List Str := ["self"]
abbrev N_Core_begin_page : List Str := ["self", "number", "level", "width", "begun", "at", "wanted", "one"]
def dd_Core_begin_page : He.DefD := ⟨("Core", some "begin_page"), "begin_page", "Core.begin_page", defArgs s_Core_begin_page, defBody s_Core_begin_page, defScope s_Core_begin_page, [], []⟩
theorem sc_Core_begin_page : FnScope N_Core_begin_page P_Core_begin_page (defScope s_Core_begin_page) := ⟨rfl, rfl, rfl, by decide +kernel, rfl, by decide +kernel, by decide +kernel⟩
abbrev F_Core_begin_page (K : PySem.W.Frag) (fd : FuncData) : Prop := FunD K "begin_page" "Core.begin_page" (defArgs s_Core_begin_page) (defBody s_Core_begin_page) (defScope s_Core_begin_page) [] [] (He.fAd K ("Core", some "begin_page")) fd
abbrev s_Core_end_page : Stmt := inClass (topS 25) 8
abbrev P_Core_end_page : List Str := ["self"]
abbrev N_Core_end_page : List Str := ["self", "number", "level", "place", "ended", "width", "at", "one"]
def dd_Core_end_page : He.DefD := ⟨("Core", some "end_page"), "end_page", "Core.end_page", defArgs s_Core_end_page, defBody s_Core_end_page, defScope s_Core_end_page, [], []⟩
theorem sc_Core_end_page : FnScope N_Core_end_page P_Core_end_page (defScope s_Core_end_page) := ⟨rfl, rfl, rfl, by decide +kernel, rfl, by decide +kernel, by decide +kernel⟩
abbrev F_Core_end_page (K : PySem.W.Frag) (fd : FuncData) : Prop := FunD K "end_page" "Core.end_page" (defArgs s_Core_end_page) (defBody s_Core_end_page) (defScope s_Core_end_page) [] [] (He.fAd K ("Core", some "end_page")) fd
abbrev s_Core_checkpoint : Stmt := inClass (topS 25) 9
abbrev P_Core_checkpoint : List Str := ["self"]
abbrev N_Core_checkpoint : List Str := ["self", "page"]
def dd_Core_checkpoint : He.DefD := ⟨("Core", some "checkpoint"), "checkpoint", "Core.checkpoint", defArgs s_Core_checkpoint, defBody s_Core_checkpoint, defScope s_Core_checkpoint, [], []⟩
theorem sc_Core_checkpoint : FnScope N_Core_checkpoint P_Core_checkpoint (defScope s_Core_checkpoint) := ⟨rfl, rfl, rfl, by decide +kernel, rfl, by decide +kernel, by decide +kernel⟩
abbrev F_Core_checkpoint (K : PySem.W.Frag) (fd : FuncData) : Prop := FunD K "checkpoint" "Core.checkpoint" (defArgs s_Core_checkpoint) (defBody s_Core_checkpoint) (defScope s_Core_checkpoint) [] [] (He.fAd K ("Core", some "checkpoint")) fd
abbrev s_Core_put_row : Stmt := inClass (topS 25) 13
abbrev P_Core_put_row : List Str := ["self"]
abbrev N_Core_put_row : List Str := ["self", "row", "place"]
def dd_Core_put_row : He.DefD := ⟨("Core", some "put_row"), "put_row", "Core.put_row", defArgs s_Core_put_row, defBody s_Core_put_row, defScope s_Core_put_row, [], []⟩
theorem sc_Core_put_row : FnScope N_Core_put_row P_Core_put_row (defScope s_Core_put_row) := ⟨rfl, rfl, rfl, by decide +kernel, rfl, by decide +kernel, by decide +kernel⟩
abbrev F_Core_put_row (K : PySem.W.Frag) (fd : FuncData) : Prop := FunD K "put_row" "Core.put_row" (defArgs s_Core_put_row) (defBody s_Core_put_row) (defScope s_Core_put_row) [] [] (He.fAd K ("Core", some "put_row")) fd
abbrev s_Book_moment : Stmt := inClass (topS 26) 0
abbrev P_Book_moment : List Str := ["self"]
abbrev N_Book_moment : List Str := ["self"]
def dd_Book_moment : He.DefD := ⟨("Book", some "moment"), "moment", "Book.moment", defArgs s_Book_moment, defBody s_Book_moment, defScope s_Book_moment, [], []⟩
theorem sc_Book_moment : FnScope N_Book_moment P_Book_moment (defScope s_Book_moment) := ⟨rfl, rfl, rfl, by decide +kernel, rfl, by decide +kernel, by decide +kernel⟩
abbrev F_Book_moment (K : PySem.W.Frag) (fd : FuncData) : Prop := FunD K "moment" "Book.moment" (defArgs s_Book_moment) (defBody s_Book_moment) (defScope s_Book_moment) [] [] (He.fAd K ("Book", some "moment")) fd
abbrev s_Book_roles : Stmt := inClass (topS 26) 9
abbrev P_Book_roles : List Str := ["self"]
abbrev N_Book_roles : List Str := ["self", "found", "at", "page", "place"]
def dd_Book_roles : He.DefD := ⟨("Book", some "roles"), "roles", "Book.roles", defArgs s_Book_roles, defBody s_Book_roles, defScope s_Book_roles, [], []⟩
theorem sc_Book_roles : FnScope N_Book_roles P_Book_roles (defScope s_Book_roles) := ⟨rfl, rfl, rfl, by decide +kernel, rfl, by decide +kernel, by decide +kernel⟩
abbrev F_Book_roles (K : PySem.W.Frag) (fd : FuncData) : Prop := FunD K "roles" "Book.roles" (defArgs s_Book_roles) (defBody s_Book_roles) (defScope s_Book_roles) [] [] (He.fAd K ("Book", some "roles")) fd
abbrev s_Book_role : Stmt := inClass (topS 26) 10
abbrev P_Book_role : List Str := ["self", "page"]
abbrev N_Book_role : List Str := ["self", "page"]
def dd_Book_role : He.DefD := ⟨("Book", some "role"), "role", "Book.role", defArgs s_Book_role, defBody s_Book_role, defScope s_Book_role, [], []⟩
theorem sc_Book_role : FnScope N_Book_role P_Book_role (defScope s_Book_role) := ⟨rfl, rfl, rfl, by decide +kernel, rfl, by decide +kernel, by decide +kernel⟩
abbrev F_Book_role (K : PySem.W.Frag) (fd : FuncData) : Prop := FunD K "role" "Book.role" (defArgs s_Book_role) (defBody s_Book_role) (defScope s_Book_role) [] [] (He.fAd K ("Book", some "role")) fd
abbrev s_Store___init__ : Stmt := inClass (topS 27) 0
abbrev P_Store___init__ : List Str := ["self", "settings"]
abbrev N_Store___init__ : List Str := ["self", "settings"]
def dd_Store___init__ : He.DefD := ⟨("Store", some "__init__"), "__init__", "Store.__init__", defArgs s_Store___init__, defBody s_Store___init__, defScope s_Store___init__, [], []⟩
theorem sc_Store___init__ : FnScope N_Store___init__ P_Store___init__ (defScope s_Store___init__) := ⟨rfl, rfl, rfl, by decide +kernel, rfl, by decide +kernel, by decide +kernel⟩
abbrev F_Store___init__ (K : PySem.W.Frag) (fd : FuncData) : Prop := FunD K "__init__" "Store.__init__" (defArgs s_Store___init__) (defBody s_Store___init__) (defScope s_Store___init__) [] [] (He.fAd K ("Store", some "__init__")) fd
abbrev s_Store___eq__ : Stmt := inClass (topS 27) 1
abbrev P_Store___eq__ : List Str := ["self", "other"]
abbrev N_Store___eq__ : List Str := ["self", "other"]
def dd_Store___eq__ : He.DefD := ⟨("Store", some "__eq__"), "__eq__", "Store.__eq__", defArgs s_Store___eq__, defBody s_Store___eq__, defScope s_Store___eq__, [], []⟩
theorem sc_Store___eq__ : FnScope N_Store___eq__ P_Store___eq__ (defScope s_Store___eq__) := ⟨rfl, rfl, rfl, by decide +kernel, rfl, by decide +kernel, by decide +kernel⟩
abbrev F_Store___eq__ (K : PySem.W.Frag) (fd : FuncData) : Prop := FunD K "__eq__" "Store.__eq__" (defArgs s_Store___eq__) (defBody s_Store___eq__) (defScope s_Store___eq__) [] [] (He.fAd K ("Store", some "__eq__")) fd
abbrev s_Store_note : Stmt := inClass (topS 27) 14
abbrev P_Store_note : List Str := ["self", "kind", "page", "role"]
abbrev N_Store_note : List Str := ["self", "kind", "page", "role"]
def dd_Store_note : He.DefD := ⟨("Store", some "note"), "note", "Store.note", defArgs s_Store_note, defBody s_Store_note, defScope s_Store_note, [], []⟩
theorem sc_Store_note : FnScope N_Store_note P_Store_note (defScope s_Store_note) := ⟨rfl, rfl, rfl, by decide +kernel, rfl, by decide +kernel, by decide +kernel⟩
abbrev F_Store_note (K : PySem.W.Frag) (fd : FuncData) : Prop := FunD K "note" "Store.note" (defArgs s_Store_note) (defBody s_Store_note) (defScope s_Store_note) [] [] (He.fAd K ("Store", some "note")) fd
abbrev s_Store_step : Stmt := inClass (topS 27) 15
abbrev P_Store_step : List Str := ["self"]
abbrev N_Store_step : List Str := ["self"]
def dd_Store_step : He.DefD := ⟨("Store", some "step"), "step", "Store.step", defArgs s_Store_step, defBody s_Store_step, defScope s_Store_step, [], []⟩
theorem sc_Store_step : FnScope N_Store_step P_Store_step (defScope s_Store_step) := ⟨rfl, rfl, rfl, by decide +kernel, rfl, by decide +kernel, by decide +kernel⟩
abbrev F_Store_step (K : PySem.W.Frag) (fd : FuncData) : Prop := FunD K "step" "Store.step" (defArgs s_Store_step) (defBody s_Store_step) (defScope s_Store_step) [] [] (He.fAd K ("Store", some "step")) fd
abbrev s_law_digits : Stmt := topS 29
abbrev P_law_digits : List Str := ["cell", "many"]
abbrev N_law_digits : List Str := ["cell", "many", "digits", "rest", "number", "k"]
def dd_law_digits : He.DefD := ⟨("_law_digits", none), "_law_digits", "_law_digits", defArgs s_law_digits, defBody s_law_digits, defScope s_law_digits, [], []⟩
theorem sc_law_digits : FnScope N_law_digits P_law_digits (defScope s_law_digits) := ⟨rfl, rfl, rfl, by decide +kernel, rfl, by decide +kernel, by decide +kernel⟩
abbrev F_law_digits (K : PySem.W.Frag) (fd : FuncData) : Prop := FunD K "_law_digits" "_law_digits" (defArgs s_law_digits) (defBody s_law_digits) (defScope s_law_digits) [] [] (He.fAd K ("_law_digits", none)) fd
abbrev s_law_parts : Stmt := topS 30
abbrev P_law_parts : List Str := ["digits"]
abbrev N_law_parts : List Str := ["digits", "size", "lengths", "parts", "k"]
def dd_law_parts : He.DefD := ⟨("_law_parts", none), "_law_parts", "_law_parts", defArgs s_law_parts, defBody s_law_parts, defScope s_law_parts, [], []⟩
theorem sc_law_parts : FnScope N_law_parts P_law_parts (defScope s_law_parts) := ⟨rfl, rfl, rfl, by decide +kernel, rfl, by decide +kernel, by decide +kernel⟩
abbrev F_law_parts (K : PySem.W.Frag) (fd : FuncData) : Prop := FunD K "_law_parts" "_law_parts" (defArgs s_law_parts) (defBody s_law_parts) (defScope s_law_parts) [] [] (He.fAd K ("_law_parts", none)) fd
abbrev s_law_settings : Stmt := topS 31
abbrev P_law_settings : List Str := ["parts"]
abbrev N_law_settings : List Str := ["parts", "fan", "many", "pace", "kept", "word"]
def dd_law_settings : He.DefD := ⟨("_law_settings", none), "_law_settings", "_law_settings", defArgs s_law_settings, defBody s_law_settings, defScope s_law_settings, [], []⟩
theorem sc_law_settings : FnScope N_law_settings P_law_settings (defScope s_law_settings) := ⟨rfl, rfl, rfl, by decide +kernel, rfl, by decide +kernel, by decide +kernel⟩
abbrev F_law_settings (K : PySem.W.Frag) (fd : FuncData) : Prop := FunD K "_law_settings" "_law_settings" (defArgs s_law_settings) (defBody s_law_settings) (defScope s_law_settings) [] [] (He.fAd K ("_law_settings", none)) fd
abbrev s_law_world : Stmt := topS 32
abbrev P_law_world : List Str := ["parts"]
abbrev N_law_world : List Str := ["parts"]
def dd_law_world : He.DefD := ⟨("_law_world", none), "_law_world", "_law_world", defArgs s_law_world, defBody s_law_world, defScope s_law_world, [], []⟩
theorem sc_law_world : FnScope N_law_world P_law_world (defScope s_law_world) := ⟨rfl, rfl, rfl, by decide +kernel, rfl, by decide +kernel, by decide +kernel⟩
abbrev F_law_world (K : PySem.W.Frag) (fd : FuncData) : Prop := FunD K "_law_world" "_law_world" (defArgs s_law_world) (defBody s_law_world) (defScope s_law_world) [] [] (He.fAd K ("_law_world", none)) fd
abbrev s_law_take : Stmt := topS 33
abbrev P_law_take : List Str := ["world", "role", "events"]
abbrev N_law_take : List Str := ["world", "role", "events", "page"]
def dd_law_take : He.DefD := ⟨("_law_take", none), "_law_take", "_law_take", defArgs s_law_take, defBody s_law_take, defScope s_law_take, [], []⟩
theorem sc_law_take : FnScope N_law_take P_law_take (defScope s_law_take) := ⟨rfl, rfl, rfl, by decide +kernel, rfl, by decide +kernel, by decide +kernel⟩
abbrev F_law_take (K : PySem.W.Frag) (fd : FuncData) : Prop := FunD K "_law_take" "_law_take" (defArgs s_law_take) (defBody s_law_take) (defScope s_law_take) [] [] (He.fAd K ("_law_take", none)) fd
abbrev s_law_give : Stmt := topS 34
abbrev P_law_give : List Str := ["world", "page", "role", "events"]
abbrev N_law_give : List Str := ["world", "page", "role", "events", "one"]
def dd_law_give : He.DefD := ⟨("_law_give", none), "_law_give", "_law_give", defArgs s_law_give, defBody s_law_give, defScope s_law_give, [], []⟩
theorem sc_law_give : FnScope N_law_give P_law_give (defScope s_law_give) := ⟨rfl, rfl, rfl, by decide +kernel, rfl, by decide +kernel, by decide +kernel⟩
abbrev F_law_give (K : PySem.W.Frag) (fd : FuncData) : Prop := FunD K "_law_give" "_law_give" (defArgs s_law_give) (defBody s_law_give) (defScope s_law_give) [] [] (He.fAd K ("_law_give", none)) fd
abbrev s_law_mark : Stmt := topS 35
abbrev P_law_mark : List Str := ["world", "page"]
abbrev N_law_mark : List Str := ["world", "page"]
def dd_law_mark : He.DefD := ⟨("_law_mark", none), "_law_mark", "_law_mark", defArgs s_law_mark, defBody s_law_mark, defScope s_law_mark, [], []⟩
theorem sc_law_mark : FnScope N_law_mark P_law_mark (defScope s_law_mark) := ⟨rfl, rfl, rfl, by decide +kernel, rfl, by decide +kernel, by decide +kernel⟩
abbrev F_law_mark (K : PySem.W.Frag) (fd : FuncData) : Prop := FunD K "_law_mark" "_law_mark" (defArgs s_law_mark) (defBody s_law_mark) (defScope s_law_mark) [] [] (He.fAd K ("_law_mark", none)) fd
abbrev s_law_tree : Stmt := topS 36
abbrev P_law_tree : List Str := ["pages", "fan"]
abbrev N_law_tree : List Str := ["pages", "fan", "found", "row", "level", "above", "number"]
def dd_law_tree : He.DefD := ⟨("_law_tree", none), "_law_tree", "_law_tree", defArgs s_law_tree, defBody s_law_tree, defScope s_law_tree, [], []⟩
theorem sc_law_tree : FnScope N_law_tree P_law_tree (defScope s_law_tree) := ⟨rfl, rfl, rfl, by decide +kernel, rfl, by decide +kernel, by decide +kernel⟩
abbrev F_law_tree (K : PySem.W.Frag) (fd : FuncData) : Prop := FunD K "_law_tree" "_law_tree" (defArgs s_law_tree) (defBody s_law_tree) (defScope s_law_tree) [] [] (He.fAd K ("_law_tree", none)) fd
abbrev s_law_tell : Stmt := topS 37
abbrev P_law_tell : List Str := ["world"]
abbrev N_law_tell : List Str := ["world", "node", "fan", "found", "page", "above"]
def dd_law_tell : He.DefD := ⟨("_law_tell", none), "_law_tell", "_law_tell", defArgs s_law_tell, defBody s_law_tell, defScope s_law_tell, [], []⟩
theorem sc_law_tell : FnScope N_law_tell P_law_tell (defScope s_law_tell) := ⟨rfl, rfl, rfl, by decide +kernel, rfl, by decide +kernel, by decide +kernel⟩
abbrev F_law_tell (K : PySem.W.Frag) (fd : FuncData) : Prop := FunD K "_law_tell" "_law_tell" (defArgs s_law_tell) (defBody s_law_tell) (defScope s_law_tell) [] [] (He.fAd K ("_law_tell", none)) fd
abbrev s_law_turn_tree : Stmt := topS 38
abbrev P_law_turn_tree : List Str := ["world", "before", "events"]
abbrev N_law_turn_tree : List Str := ["world", "before", "events", "wanted", "node", "after"]
def dd_law_turn_tree : He.DefD := ⟨("_law_turn_tree", none), "_law_turn_tree", "_law_turn_tree", defArgs s_law_turn_tree, defBody s_law_turn_tree, defScope s_law_turn_tree, [], []⟩
theorem sc_law_turn_tree : FnScope N_law_turn_tree P_law_turn_tree (defScope s_law_turn_tree) := ⟨rfl, rfl, rfl, by decide +kernel, rfl, by decide +kernel, by decide +kernel⟩
abbrev F_law_turn_tree (K : PySem.W.Frag) (fd : FuncData) : Prop := FunD K "_law_turn_tree" "_law_turn_tree" (defArgs s_law_turn_tree) (defBody s_law_turn_tree) (defScope s_law_turn_tree) [] [] (He.fAd K ("_law_turn_tree", none)) fd
abbrev s_law_row : Stmt := topS 39
abbrev P_law_row : List Str := ["world"]
abbrev N_law_row : List Str := ["world", "parts", "row", "events", "place", "length", "before", "oldest", "page"]
def dd_law_row : He.DefD := ⟨("_law_row", none), "_law_row", "_law_row", defArgs s_law_row, defBody s_law_row, defScope s_law_row, [], []⟩
theorem sc_law_row : FnScope N_law_row P_law_row (defScope s_law_row) := ⟨rfl, rfl, rfl, by decide +kernel, rfl, by decide +kernel, by decide +kernel⟩
abbrev F_law_row (K : PySem.W.Frag) (fd : FuncData) : Prop := FunD K "_law_row" "_law_row" (defArgs s_law_row) (defBody s_law_row) (defScope s_law_row) [] [] (He.fAd K ("_law_row", none)) fd
abbrev s_law_rows : Stmt := topS 40
abbrev P_law_rows : List Str := ["digits"]
abbrev N_law_rows : List Str := ["digits"]
def dd_law_rows : He.DefD := ⟨("_law_rows", none), "_law_rows", "_law_rows", defArgs s_law_rows, defBody s_law_rows, defScope s_law_rows, [], []⟩
theorem sc_law_rows : FnScope N_law_rows P_law_rows (defScope s_law_rows) := ⟨rfl, rfl, rfl, by decide +kernel, rfl, by decide +kernel, by decide +kernel⟩
abbrev F_law_rows (K : PySem.W.Frag) (fd : FuncData) : Prop := FunD K "_law_rows" "_law_rows" (defArgs s_law_rows) (defBody s_law_rows) (defScope s_law_rows) [] [] (He.fAd K ("_law_rows", none)) fd
abbrev s_law : Stmt := topS 41
abbrev P_law : List Str := ["script"]
abbrev N_law : List Str := ["script", "cell", "digits", "parts", "store", "world", "row"]
def dd_law : He.DefD := ⟨("law", none), "law", "law", defArgs s_law, defBody s_law, defScope s_law, [], []⟩
theorem sc_law : FnScope N_law P_law (defScope s_law) := ⟨rfl, rfl, rfl, by decide +kernel, rfl, by decide +kernel, by decide +kernel⟩
abbrev F_law (K : PySem.W.Frag) (fd : FuncData) : Prop := FunD K "law" "law" (defArgs s_law) (defBody s_law) (defScope s_law) [] [] (He.fAd K ("law", none)) fd
abbrev s_InvalidSettings___init__ : Stmt := inClass (topS 3) 0
abbrev P_InvalidSettings___init__ : List Str := ["self", "part"]
abbrev N_InvalidSettings___init__ : List Str := ["self", "part"]
def dd_InvalidSettings___init__ : He.DefD := ⟨("InvalidSettings", some "__init__"), "__init__", "InvalidSettings.__init__", defArgs s_InvalidSettings___init__, defBody s_InvalidSettings___init__, defScope s_InvalidSettings___init__, [], []⟩
theorem sc_InvalidSettings___init__ : FnScope N_InvalidSettings___init__ P_InvalidSettings___init__ (defScope s_InvalidSettings___init__) := ⟨rfl, rfl, rfl, by decide +kernel, rfl, by decide +kernel, by decide +kernel⟩
abbrev F_InvalidSettings___init__ (K : PySem.W.Frag) (fd : FuncData) : Prop := FunD K "__init__" "InvalidSettings.__init__" (defArgs s_InvalidSettings___init__) (defBody s_InvalidSettings___init__) (defScope s_InvalidSettings___init__) [] [] (He.fAd K ("InvalidSettings", some "__init__")) fd
abbrev s_InvalidPage___init__ : Stmt := inClass (topS 4) 0
abbrev P_InvalidPage___init__ : List Str := ["self", "page"]
abbrev N_InvalidPage___init__ : List Str := ["self", "page"]
def dd_InvalidPage___init__ : He.DefD := ⟨("InvalidPage", some "__init__"), "__init__", "InvalidPage.__init__", defArgs s_InvalidPage___init__, defBody s_InvalidPage___init__, defScope s_InvalidPage___init__, [], []⟩
theorem sc_InvalidPage___init__ : FnScope N_InvalidPage___init__ P_InvalidPage___init__ (defScope s_InvalidPage___init__) := ⟨rfl, rfl, rfl, by decide +kernel, rfl, by decide +kernel, by decide +kernel⟩
abbrev F_InvalidPage___init__ (K : PySem.W.Frag) (fd : FuncData) : Prop := FunD K "__init__" "InvalidPage.__init__" (defArgs s_InvalidPage___init__) (defBody s_InvalidPage___init__) (defScope s_InvalidPage___init__) [] [] (He.fAd K ("InvalidPage", some "__init__")) fd
abbrev s_InvalidNumber___init__ : Stmt := inClass (topS 5) 0
abbrev P_InvalidNumber___init__ : List Str := ["self", "number"]
abbrev N_InvalidNumber___init__ : List Str := ["self", "number"]
def dd_InvalidNumber___init__ : He.DefD := ⟨("InvalidNumber", some "__init__"), "__init__", "InvalidNumber.__init__", defArgs s_InvalidNumber___init__, defBody s_InvalidNumber___init__, defScope s_InvalidNumber___init__, [], []⟩
theorem sc_InvalidNumber___init__ : FnScope N_InvalidNumber___init__ P_InvalidNumber___init__ (defScope s_InvalidNumber___init__) := ⟨rfl, rfl, rfl, by decide +kernel, rfl, by decide +kernel, by decide +kernel⟩
abbrev F_InvalidNumber___init__ (K : PySem.W.Frag) (fd : FuncData) : Prop := FunD K "__init__" "InvalidNumber.__init__" (defArgs s_InvalidNumber___init__) (defBody s_InvalidNumber___init__) (defScope s_InvalidNumber___init__) [] [] (He.fAd K ("InvalidNumber", some "__init__")) fd
def P : Program := PySem.Challenge.pw_keeprows_k28_events_of_each_row
abbrev s_Store_moment : Stmt := inClass (topS 27) 2
abbrev P_Store_moment : List Str := ["self"]
def su_Store_moment : SupE := ⟨⟨("Store", some "moment"), "moment", "Store.moment", defArgs s_Store_moment, defBody s_Store_moment, defScope s_Store_moment, [], []⟩, "Store", "Store", "moment", "Book", "/claim/cut.py"⟩
abbrev SupT_Store_moment (K : PySem.W.Frag) (fd : FuncData) : Prop := SupK K (He.ga K "Store") (He.ga K "Store") "moment" (He.fAd K ("Store", some "moment")) (He.fAd K ("Book", some "moment")) "moment" "Store.moment" (defArgs s_Store_moment) (defBody s_Store_moment) (defScope s_Store_moment) "/claim/cut.py" fd
abbrev s_Store_role : Stmt := inClass (topS 27) 11
abbrev P_Store_role : List Str := ["self", "page"]
def su_Store_role : SupE := ⟨⟨("Store", some "role"), "role", "Store.role", defArgs s_Store_role, defBody s_Store_role, defScope s_Store_role, [], []⟩, "Store", "Store", "role", "Book", "/claim/cut.py"⟩
abbrev SupT_Store_role (K : PySem.W.Frag) (fd : FuncData) : Prop := SupK K (He.ga K "Store") (He.ga K "Store") "role" (He.fAd K ("Store", some "role")) (He.fAd K ("Book", some "role")) "role" "Store.role" (defArgs s_Store_role) (defBody s_Store_role) (defScope s_Store_role) "/claim/cut.py" fd
def supl : List SupE := [su_Store_moment, su_Store_role]
theorem lk_Settings_1_0 {v0 : V} : List.lookup ("lengths" : Str) [(("lengths" : Str), v0)] = some v0 := by kernel_rfl
theorem lk_Settings_2_0 {v0 v1 : V} : List.lookup ("lengths" : Str) [(("lengths" : Str), v0), (("size" : Str), v1)] = some v0 := by kernel_rfl
theorem lk_Settings_2_1 {v0 v1 : V} : List.lookup ("size" : Str) [(("lengths" : Str), v0), (("size" : Str), v1)] = some v1 := by kernel_rfl
theorem lk_Settings_3_0 {v0 v1 v2 : V} : List.lookup ("lengths" : Str) [(("lengths" : Str), v0), (("size" : Str), v1), (("fanout" : Str), v2)] = some v0 := by kernel_rfl
theorem lk_Settings_3_1 {v0 v1 v2 : V} : List.lookup ("size" : Str) [(("lengths" : Str), v0), (("size" : Str), v1), (("fanout" : Str), v2)] = some v1 := by kernel_rfl
theorem lk_Settings_3_2 {v0 v1 v2 : V} : List.lookup ("fanout" : Str) [(("lengths" : Str), v0), (("size" : Str), v1), (("fanout" : Str), v2)] = some v2 := by kernel_rfl
theorem lk_Settings_4_0 {v0 v1 v2 v3 : V} : List.lookup ("lengths" : Str) [(("lengths" : Str), v0), (("size" : Str), v1), (("fanout" : Str), v2), (("records" : Str), v3)] = some v0 := by kernel_rfl
theorem lk_Settings_4_1 {v0 v1 v2 v3 : V} : List.lookup ("size" : Str) [(("lengths" : Str), v0), (("size" : Str), v1), (("fanout" : Str), v2), (("records" : Str), v3)] = some v1 := by kernel_rfl
theorem lk_Settings_4_2 {v0 v1 v2 v3 : V} : List.lookup ("fanout" : Str) [(("lengths" : Str), v0), (("size" : Str), v1), (("fanout" : Str), v2), (("records" : Str), v3)] = some v2 := by kernel_rfl
theorem lk_Settings_4_3 {v0 v1 v2 v3 : V} : List.lookup ("records" : Str) [(("lengths" : Str), v0), (("size" : Str), v1), (("fanout" : Str), v2), (("records" : Str), v3)] = some v3 := by kernel_rfl
theorem lk_Settings_5_0 {v0 v1 v2 v3 v4 : V} : List.lookup ("lengths" : Str) [(("lengths" : Str), v0), (("size" : Str), v1), (("fanout" : Str), v2), (("records" : Str), v3), (("every" : Str), v4)] = some v0 := by kernel_rfl
theorem lk_Settings_5_1 {v0 v1 v2 v3 v4 : V} : List.lookup ("size" : Str) [(("lengths" : Str), v0), (("size" : Str), v1), (("fanout" : Str), v2), (("records" : Str), v3), (("every" : Str), v4)] = some v1 := by kernel_rfl
theorem lk_Settings_5_2 {v0 v1 v2 v3 v4 : V} : List.lookup ("fanout" : Str) [(("lengths" : Str), v0), (("size" : Str), v1), (("fanout" : Str), v2), (("records" : Str), v3), (("every" : Str), v4)] = some v2 := by kernel_rfl
theorem lk_Settings_5_3 {v0 v1 v2 v3 v4 : V} : List.lookup ("records" : Str) [(("lengths" : Str), v0), (("size" : Str), v1), (("fanout" : Str), v2), (("records" : Str), v3), (("every" : Str), v4)] = some v3 := by kernel_rfl
theorem lk_Settings_5_4 {v0 v1 v2 v3 v4 : V} : List.lookup ("every" : Str) [(("lengths" : Str), v0), (("size" : Str), v1), (("fanout" : Str), v2), (("records" : Str), v3), (("every" : Str), v4)] = some v4 := by kernel_rfl
theorem lk_Settings_6_0 {v0 v1 v2 v3 v4 v5 : V} : List.lookup ("lengths" : Str) [(("lengths" : Str), v0), (("size" : Str), v1), (("fanout" : Str), v2), (("records" : Str), v3), (("every" : Str), v4), (("keep" : Str), v5)] = some v0 := by kernel_rfl
theorem lk_Settings_6_1 {v0 v1 v2 v3 v4 v5 : V} : List.lookup ("size" : Str) [(("lengths" : Str), v0), (("size" : Str), v1), (("fanout" : Str), v2), (("records" : Str), v3), (("every" : Str), v4), (("keep" : Str), v5)] = some v1 := by kernel_rfl
theorem lk_Settings_6_2 {v0 v1 v2 v3 v4 v5 : V} : List.lookup ("fanout" : Str) [(("lengths" : Str), v0), (("size" : Str), v1), (("fanout" : Str), v2), (("records" : Str), v3), (("every" : Str), v4), (("keep" : Str), v5)] = some v2 := by kernel_rfl
theorem lk_Settings_6_3 {v0 v1 v2 v3 v4 v5 : V} : List.lookup ("records" : Str) [(("lengths" : Str), v0), (("size" : Str), v1), (("fanout" : Str), v2), (("records" : Str), v3), (("every" : Str), v4), (("keep" : Str), v5)] = some v3 := by kernel_rfl
theorem lk_Settings_6_4 {v0 v1 v2 v3 v4 v5 : V} : List.lookup ("every" : Str) [(("lengths" : Str), v0), (("size" : Str), v1), (("fanout" : Str), v2), (("records" : Str), v3), (("every" : Str), v4), (("keep" : Str), v5)] = some v4 := by kernel_rfl
theorem lk_Settings_6_5 {v0 v1 v2 v3 v4 v5 : V} : List.lookup ("keep" : Str) [(("lengths" : Str), v0), (("size" : Str), v1), (("fanout" : Str), v2), (("records" : Str), v3), (("every" : Str), v4), (("keep" : Str), v5)] = some v5 := by kernel_rfl
theorem lk_Packing_1_0 {v0 : V} : List.lookup ("row_lengths" : Str) [(("row_lengths" : Str), v0)] = some v0 := by kernel_rfl
theorem lk_Packing_2_0 {v0 v1 : V} : List.lookup ("row_lengths" : Str) [(("row_lengths" : Str), v0), (("room" : Str), v1)] = some v0 := by kernel_rfl
theorem lk_Packing_2_1 {v0 v1 : V} : List.lookup ("room" : Str) [(("row_lengths" : Str), v0), (("room" : Str), v1)] = some v1 := by kernel_rfl
theorem lk_Packing_3_0 {v0 v1 v2 : V} : List.lookup ("row_lengths" : Str) [(("row_lengths" : Str), v0), (("room" : Str), v1), (("starts" : Str), v2)] = some v0 := by kernel_rfl
theorem lk_Packing_3_1 {v0 v1 v2 : V} : List.lookup ("room" : Str) [(("row_lengths" : Str), v0), (("room" : Str), v1), (("starts" : Str), v2)] = some v1 := by kernel_rfl
theorem lk_Packing_3_2 {v0 v1 v2 : V} : List.lookup ("starts" : Str) [(("row_lengths" : Str), v0), (("room" : Str), v1), (("starts" : Str), v2)] = some v2 := by kernel_rfl
theorem lk_Packing_4_0 {v0 v1 v2 v3 : V} : List.lookup ("row_lengths" : Str) [(("row_lengths" : Str), v0), (("room" : Str), v1), (("starts" : Str), v2), (("first" : Str), v3)] = some v0 := by kernel_rfl
theorem lk_Packing_4_1 {v0 v1 v2 v3 : V} : List.lookup ("room" : Str) [(("row_lengths" : Str), v0), (("room" : Str), v1), (("starts" : Str), v2), (("first" : Str), v3)] = some v1 := by kernel_rfl
theorem lk_Packing_4_2 {v0 v1 v2 v3 : V} : List.lookup ("starts" : Str) [(("row_lengths" : Str), v0), (("room" : Str), v1), (("starts" : Str), v2), (("first" : Str), v3)] = some v2 := by kernel_rfl
theorem lk_Packing_4_3 {v0 v1 v2 v3 : V} : List.lookup ("first" : Str) [(("row_lengths" : Str), v0), (("room" : Str), v1), (("starts" : Str), v2), (("first" : Str), v3)] = some v3 := by kernel_rfl
theorem lk_Packing_5_0 {v0 v1 v2 v3 v4 : V} : List.lookup ("row_lengths" : Str) [(("row_lengths" : Str), v0), (("room" : Str), v1), (("starts" : Str), v2), (("first" : Str), v3), (("pages" : Str), v4)] = some v0 := by kernel_rfl
theorem lk_Packing_5_1 {v0 v1 v2 v3 v4 : V} : List.lookup ("room" : Str) [(("row_lengths" : Str), v0), (("room" : Str), v1), (("starts" : Str), v2), (("first" : Str), v3), (("pages" : Str), v4)] = some v1 := by kernel_rfl
theorem lk_Packing_5_2 {v0 v1 v2 v3 v4 : V} : List.lookup ("starts" : Str) [(("row_lengths" : Str), v0), (("room" : Str), v1), (("starts" : Str), v2), (("first" : Str), v3), (("pages" : Str), v4)] = some v2 := by kernel_rfl
theorem lk_Packing_5_3 {v0 v1 v2 v3 v4 : V} : List.lookup ("first" : Str) [(("row_lengths" : Str), v0), (("room" : Str), v1), (("starts" : Str), v2), (("first" : Str), v3), (("pages" : Str), v4)] = some v3 := by kernel_rfl
theorem lk_Packing_5_4 {v0 v1 v2 v3 v4 : V} : List.lookup ("pages" : Str) [(("row_lengths" : Str), v0), (("room" : Str), v1), (("starts" : Str), v2), (("first" : Str), v3), (("pages" : Str), v4)] = some v4 := by kernel_rfl
theorem lk_Packing_6_0 {v0 v1 v2 v3 v4 v5 : V} : List.lookup ("row_lengths" : Str) [(("row_lengths" : Str), v0), (("room" : Str), v1), (("starts" : Str), v2), (("first" : Str), v3), (("pages" : Str), v4), (("rows" : Str), v5)] = some v0 := by kernel_rfl
theorem lk_Packing_6_1 {v0 v1 v2 v3 v4 v5 : V} : List.lookup ("room" : Str) [(("row_lengths" : Str), v0), (("room" : Str), v1), (("starts" : Str), v2), (("first" : Str), v3), (("pages" : Str), v4), (("rows" : Str), v5)] = some v1 := by kernel_rfl
theorem lk_Packing_6_2 {v0 v1 v2 v3 v4 v5 : V} : List.lookup ("starts" : Str) [(("row_lengths" : Str), v0), (("room" : Str), v1), (("starts" : Str), v2), (("first" : Str), v3), (("pages" : Str), v4), (("rows" : Str), v5)] = some v2 := by kernel_rfl
theorem lk_Packing_6_3 {v0 v1 v2 v3 v4 v5 : V} : List.lookup ("first" : Str) [(("row_lengths" : Str), v0), (("room" : Str), v1), (("starts" : Str), v2), (("first" : Str), v3), (("pages" : Str), v4), (("rows" : Str), v5)] = some v3 := by kernel_rfl
theorem lk_Packing_6_4 {v0 v1 v2 v3 v4 v5 : V} : List.lookup ("pages" : Str) [(("row_lengths" : Str), v0), (("room" : Str), v1), (("starts" : Str), v2), (("first" : Str), v3), (("pages" : Str), v4), (("rows" : Str), v5)] = some v4 := by kernel_rfl
theorem lk_Packing_6_5 {v0 v1 v2 v3 v4 v5 : V} : List.lookup ("rows" : Str) [(("row_lengths" : Str), v0), (("room" : Str), v1), (("starts" : Str), v2), (("first" : Str), v3), (("pages" : Str), v4), (("rows" : Str), v5)] = some v5 := by kernel_rfl
theorem lk_Store_13_0 {v0 v1 v2 v3 v4 v5 v6 v7 v8 v9 v10 v11 v12 : V} : List.lookup ("settings" : Str) [(("settings" : Str), v0), (("packing" : Str), v1), (("done" : Str), v2), (("oldest" : Str), v3), (("heap" : Str), v4), (("node_places" : Str), v5), (("top_level" : Str), v6), (("log" : Str), v7), (("waiting" : Str), v8), (("changed" : Str), v9), (("free_row" : Str), v10), (("taken_count" : Str), v11), (("events" : Str), v12)] = some v0 := by kernel_rfl
theorem lk_Store_13_1 {v0 v1 v2 v3 v4 v5 v6 v7 v8 v9 v10 v11 v12 : V} : List.lookup ("packing" : Str) [(("settings" : Str), v0), (("packing" : Str), v1), (("done" : Str), v2), (("oldest" : Str), v3), (("heap" : Str), v4), (("node_places" : Str), v5), (("top_level" : Str), v6), (("log" : Str), v7), (("waiting" : Str), v8), (("changed" : Str), v9), (("free_row" : Str), v10), (("taken_count" : Str), v11), (("events" : Str), v12)] = some v1 := by kernel_rfl
theorem lk_Store_13_2 {v0 v1 v2 v3 v4 v5 v6 v7 v8 v9 v10 v11 v12 : V} : List.lookup ("done" : Str) [(("settings" : Str), v0), (("packing" : Str), v1), (("done" : Str), v2), (("oldest" : Str), v3), (("heap" : Str), v4), (("node_places" : Str), v5), (("top_level" : Str), v6), (("log" : Str), v7), (("waiting" : Str), v8), (("changed" : Str), v9), (("free_row" : Str), v10), (("taken_count" : Str), v11), (("events" : Str), v12)] = some v2 := by kernel_rfl
theorem lk_Store_13_3 {v0 v1 v2 v3 v4 v5 v6 v7 v8 v9 v10 v11 v12 : V} : List.lookup ("oldest" : Str) [(("settings" : Str), v0), (("packing" : Str), v1), (("done" : Str), v2), (("oldest" : Str), v3), (("heap" : Str), v4), (("node_places" : Str), v5), (("top_level" : Str), v6), (("log" : Str), v7), (("waiting" : Str), v8), (("changed" : Str), v9), (("free_row" : Str), v10), (("taken_count" : Str), v11), (("events" : Str), v12)] = some v3 := by kernel_rfl
theorem lk_Store_13_4 {v0 v1 v2 v3 v4 v5 v6 v7 v8 v9 v10 v11 v12 : V} : List.lookup ("heap" : Str) [(("settings" : Str), v0), (("packing" : Str), v1), (("done" : Str), v2), (("oldest" : Str), v3), (("heap" : Str), v4), (("node_places" : Str), v5), (("top_level" : Str), v6), (("log" : Str), v7), (("waiting" : Str), v8), (("changed" : Str), v9), (("free_row" : Str), v10), (("taken_count" : Str), v11), (("events" : Str), v12)] = some v4 := by kernel_rfl
theorem lk_Store_13_5 {v0 v1 v2 v3 v4 v5 v6 v7 v8 v9 v10 v11 v12 : V} : List.lookup ("node_places" : Str) [(("settings" : Str), v0), (("packing" : Str), v1), (("done" : Str), v2), (("oldest" : Str), v3), (("heap" : Str), v4), (("node_places" : Str), v5), (("top_level" : Str), v6), (("log" : Str), v7), (("waiting" : Str), v8), (("changed" : Str), v9), (("free_row" : Str), v10), (("taken_count" : Str), v11), (("events" : Str), v12)] = some v5 := by kernel_rfl
theorem lk_Store_13_6 {v0 v1 v2 v3 v4 v5 v6 v7 v8 v9 v10 v11 v12 : V} : List.lookup ("top_level" : Str) [(("settings" : Str), v0), (("packing" : Str), v1), (("done" : Str), v2), (("oldest" : Str), v3), (("heap" : Str), v4), (("node_places" : Str), v5), (("top_level" : Str), v6), (("log" : Str), v7), (("waiting" : Str), v8), (("changed" : Str), v9), (("free_row" : Str), v10), (("taken_count" : Str), v11), (("events" : Str), v12)] = some v6 := by kernel_rfl
theorem lk_Store_13_7 {v0 v1 v2 v3 v4 v5 v6 v7 v8 v9 v10 v11 v12 : V} : List.lookup ("log" : Str) [(("settings" : Str), v0), (("packing" : Str), v1), (("done" : Str), v2), (("oldest" : Str), v3), (("heap" : Str), v4), (("node_places" : Str), v5), (("top_level" : Str), v6), (("log" : Str), v7), (("waiting" : Str), v8), (("changed" : Str), v9), (("free_row" : Str), v10), (("taken_count" : Str), v11), (("events" : Str), v12)] = some v7 := by kernel_rfl
theorem lk_Store_13_8 {v0 v1 v2 v3 v4 v5 v6 v7 v8 v9 v10 v11 v12 : V} : List.lookup ("waiting" : Str) [(("settings" : Str), v0), (("packing" : Str), v1), (("done" : Str), v2), (("oldest" : Str), v3), (("heap" : Str), v4), (("node_places" : Str), v5), (("top_level" : Str), v6), (("log" : Str), v7), (("waiting" : Str), v8), (("changed" : Str), v9), (("free_row" : Str), v10), (("taken_count" : Str), v11), (("events" : Str), v12)] = some v8 := by kernel_rfl
theorem lk_Store_13_9 {v0 v1 v2 v3 v4 v5 v6 v7 v8 v9 v10 v11 v12 : V} : List.lookup ("changed" : Str) [(("settings" : Str), v0), (("packing" : Str), v1), (("done" : Str), v2), (("oldest" : Str), v3), (("heap" : Str), v4), (("node_places" : Str), v5), (("top_level" : Str), v6), (("log" : Str), v7), (("waiting" : Str), v8), (("changed" : Str), v9), (("free_row" : Str), v10), (("taken_count" : Str), v11), (("events" : Str), v12)] = some v9 := by kernel_rfl
theorem lk_Store_13_10 {v0 v1 v2 v3 v4 v5 v6 v7 v8 v9 v10 v11 v12 : V} : List.lookup ("free_row" : Str) [(("settings" : Str), v0), (("packing" : Str), v1), (("done" : Str), v2), (("oldest" : Str), v3), (("heap" : Str), v4), (("node_places" : Str), v5), (("top_level" : Str), v6), (("log" : Str), v7), (("waiting" : Str), v8), (("changed" : Str), v9), (("free_row" : Str), v10), (("taken_count" : Str), v11), (("events" : Str), v12)] = some v10 := by kernel_rfl
theorem lk_Store_13_11 {v0 v1 v2 v3 v4 v5 v6 v7 v8 v9 v10 v11 v12 : V} : List.lookup ("taken_count" : Str) [(("settings" : Str), v0), (("packing" : Str), v1), (("done" : Str), v2), (("oldest" : Str), v3), (("heap" : Str), v4), (("node_places" : Str), v5), (("top_level" : Str), v6), (("log" : Str), v7), (("waiting" : Str), v8), (("changed" : Str), v9), (("free_row" : Str), v10), (("taken_count" : Str), v11), (("events" : Str), v12)] = some v11 := by kernel_rfl
theorem lk_Store_13_12 {v0 v1 v2 v3 v4 v5 v6 v7 v8 v9 v10 v11 v12 : V} : List.lookup ("events" : Str) [(("settings" : Str), v0), (("packing" : Str), v1), (("done" : Str), v2), (("oldest" : Str), v3), (("heap" : Str), v4), (("node_places" : Str), v5), (("top_level" : Str), v6), (("log" : Str), v7), (("waiting" : Str), v8), (("changed" : Str), v9), (("free_row" : Str), v10), (("taken_count" : Str), v11), (("events" : Str), v12)] = some v12 := by kernel_rfl
theorem pf_Settings_0 {v0 : V} : putF ("lengths" : Str) v0 ([] : List (Str × V)) = ([(("lengths" : Str), v0)] : List (Str × V)) := by kernel_rfl
theorem pf_Settings_1 {v0 v1 : V} : putF ("size" : Str) v1 ([(("lengths" : Str), v0)] : List (Str × V)) = ([(("lengths" : Str), v0), (("size" : Str), v1)] : List (Str × V)) := by kernel_rfl
theorem pf_Settings_2 {v0 v1 v2 : V} : putF ("fanout" : Str) v2 ([(("lengths" : Str), v0), (("size" : Str), v1)] : List (Str × V)) = ([(("lengths" : Str), v0), (("size" : Str), v1), (("fanout" : Str), v2)] : List (Str × V)) := by kernel_rfl
theorem pf_Settings_3 {v0 v1 v2 v3 : V} : putF ("records" : Str) v3 ([(("lengths" : Str), v0), (("size" : Str), v1), (("fanout" : Str), v2)] : List (Str × V)) = ([(("lengths" : Str), v0), (("size" : Str), v1), (("fanout" : Str), v2), (("records" : Str), v3)] : List (Str × V)) := by kernel_rfl
theorem pf_Settings_4 {v0 v1 v2 v3 v4 : V} : putF ("every" : Str) v4 ([(("lengths" : Str), v0), (("size" : Str), v1), (("fanout" : Str), v2), (("records" : Str), v3)] : List (Str × V)) = ([(("lengths" : Str), v0), (("size" : Str), v1), (("fanout" : Str), v2), (("records" : Str), v3), (("every" : Str), v4)] : List (Str × V)) := by kernel_rfl
theorem pf_Settings_5 {v0 v1 v2 v3 v4 v5 : V} : putF ("keep" : Str) v5 ([(("lengths" : Str), v0), (("size" : Str), v1), (("fanout" : Str), v2), (("records" : Str), v3), (("every" : Str), v4)] : List (Str × V)) = ([(("lengths" : Str), v0), (("size" : Str), v1), (("fanout" : Str), v2), (("records" : Str), v3), (("every" : Str), v4), (("keep" : Str), v5)] : List (Str × V)) := by kernel_rfl
theorem pf_Packing_0 {v0 : V} : putF ("row_lengths" : Str) v0 ([] : List (Str × V)) = ([(("row_lengths" : Str), v0)] : List (Str × V)) := by kernel_rfl
theorem pf_Packing_1 {v0 v1 : V} : putF ("room" : Str) v1 ([(("row_lengths" : Str), v0)] : List (Str × V)) = ([(("row_lengths" : Str), v0), (("room" : Str), v1)] : List (Str × V)) := by kernel_rfl
theorem pf_Packing_2 {v0 v1 v2 : V} : putF ("starts" : Str) v2 ([(("row_lengths" : Str), v0), (("room" : Str), v1)] : List (Str × V)) = ([(("row_lengths" : Str), v0), (("room" : Str), v1), (("starts" : Str), v2)] : List (Str × V)) := by kernel_rfl
theorem pf_Packing_3 {v0 v1 v2 v3 : V} : putF ("first" : Str) v3 ([(("row_lengths" : Str), v0), (("room" : Str), v1), (("starts" : Str), v2)] : List (Str × V)) = ([(("row_lengths" : Str), v0), (("room" : Str), v1), (("starts" : Str), v2), (("first" : Str), v3)] : List (Str × V)) := by kernel_rfl
theorem pf_Packing_4 {v0 v1 v2 v3 v4 : V} : putF ("pages" : Str) v4 ([(("row_lengths" : Str), v0), (("room" : Str), v1), (("starts" : Str), v2), (("first" : Str), v3)] : List (Str × V)) = ([(("row_lengths" : Str), v0), (("room" : Str), v1), (("starts" : Str), v2), (("first" : Str), v3), (("pages" : Str), v4)] : List (Str × V)) := by kernel_rfl
theorem pf_Packing_5 {v0 v1 v2 v3 v4 v5 : V} : putF ("rows" : Str) v5 ([(("row_lengths" : Str), v0), (("room" : Str), v1), (("starts" : Str), v2), (("first" : Str), v3), (("pages" : Str), v4)] : List (Str × V)) = ([(("row_lengths" : Str), v0), (("room" : Str), v1), (("starts" : Str), v2), (("first" : Str), v3), (("pages" : Str), v4), (("rows" : Str), v5)] : List (Str × V)) := by kernel_rfl
theorem pf_Store_0 {v0 : V} : putF ("settings" : Str) v0 ([] : List (Str × V)) = ([(("settings" : Str), v0)] : List (Str × V)) := by kernel_rfl
theorem pf_Store_1 {v0 v1 : V} : putF ("packing" : Str) v1 ([(("settings" : Str), v0)] : List (Str × V)) = ([(("settings" : Str), v0), (("packing" : Str), v1)] : List (Str × V)) := by kernel_rfl
theorem pf_Store_2 {v0 v1 v2 : V} : putF ("done" : Str) v2 ([(("settings" : Str), v0), (("packing" : Str), v1)] : List (Str × V)) = ([(("settings" : Str), v0), (("packing" : Str), v1), (("done" : Str), v2)] : List (Str × V)) := by kernel_rfl
theorem pf_Store_3 {v0 v1 v2 v3 : V} : putF ("oldest" : Str) v3 ([(("settings" : Str), v0), (("packing" : Str), v1), (("done" : Str), v2)] : List (Str × V)) = ([(("settings" : Str), v0), (("packing" : Str), v1), (("done" : Str), v2), (("oldest" : Str), v3)] : List (Str × V)) := by kernel_rfl
theorem pf_Store_4 {v0 v1 v2 v3 v4 : V} : putF ("heap" : Str) v4 ([(("settings" : Str), v0), (("packing" : Str), v1), (("done" : Str), v2), (("oldest" : Str), v3)] : List (Str × V)) = ([(("settings" : Str), v0), (("packing" : Str), v1), (("done" : Str), v2), (("oldest" : Str), v3), (("heap" : Str), v4)] : List (Str × V)) := by kernel_rfl
theorem pf_Store_5 {v0 v1 v2 v3 v4 v5 : V} : putF ("node_places" : Str) v5 ([(("settings" : Str), v0), (("packing" : Str), v1), (("done" : Str), v2), (("oldest" : Str), v3), (("heap" : Str), v4)] : List (Str × V)) = ([(("settings" : Str), v0), (("packing" : Str), v1), (("done" : Str), v2), (("oldest" : Str), v3), (("heap" : Str), v4), (("node_places" : Str), v5)] : List (Str × V)) := by kernel_rfl
theorem pf_Store_6 {v0 v1 v2 v3 v4 v5 v6 : V} : putF ("top_level" : Str) v6 ([(("settings" : Str), v0), (("packing" : Str), v1), (("done" : Str), v2), (("oldest" : Str), v3), (("heap" : Str), v4), (("node_places" : Str), v5)] : List (Str × V)) = ([(("settings" : Str), v0), (("packing" : Str), v1), (("done" : Str), v2), (("oldest" : Str), v3), (("heap" : Str), v4), (("node_places" : Str), v5), (("top_level" : Str), v6)] : List (Str × V)) := by kernel_rfl
theorem pf_Store_7 {v0 v1 v2 v3 v4 v5 v6 v7 : V} : putF ("log" : Str) v7 ([(("settings" : Str), v0), (("packing" : Str), v1), (("done" : Str), v2), (("oldest" : Str), v3), (("heap" : Str), v4), (("node_places" : Str), v5), (("top_level" : Str), v6)] : List (Str × V)) = ([(("settings" : Str), v0), (("packing" : Str), v1), (("done" : Str), v2), (("oldest" : Str), v3), (("heap" : Str), v4), (("node_places" : Str), v5), (("top_level" : Str), v6), (("log" : Str), v7)] : List (Str × V)) := by kernel_rfl
theorem pf_Store_8 {v0 v1 v2 v3 v4 v5 v6 v7 v8 : V} : putF ("waiting" : Str) v8 ([(("settings" : Str), v0), (("packing" : Str), v1), (("done" : Str), v2), (("oldest" : Str), v3), (("heap" : Str), v4), (("node_places" : Str), v5), (("top_level" : Str), v6), (("log" : Str), v7)] : List (Str × V)) = ([(("settings" : Str), v0), (("packing" : Str), v1), (("done" : Str), v2), (("oldest" : Str), v3), (("heap" : Str), v4), (("node_places" : Str), v5), (("top_level" : Str), v6), (("log" : Str), v7), (("waiting" : Str), v8)] : List (Str × V)) := by kernel_rfl
theorem pf_Store_9 {v0 v1 v2 v3 v4 v5 v6 v7 v8 v9 : V} : putF ("changed" : Str) v9 ([(("settings" : Str), v0), (("packing" : Str), v1), (("done" : Str), v2), (("oldest" : Str), v3), (("heap" : Str), v4), (("node_places" : Str), v5), (("top_level" : Str), v6), (("log" : Str), v7), (("waiting" : Str), v8)] : List (Str × V)) = ([(("settings" : Str), v0), (("packing" : Str), v1), (("done" : Str), v2), (("oldest" : Str), v3), (("heap" : Str), v4), (("node_places" : Str), v5), (("top_level" : Str), v6), (("log" : Str), v7), (("waiting" : Str), v8), (("changed" : Str), v9)] : List (Str × V)) := by kernel_rfl
theorem pf_Store_10 {v0 v1 v2 v3 v4 v5 v6 v7 v8 v9 v10 : V} : putF ("free_row" : Str) v10 ([(("settings" : Str), v0), (("packing" : Str), v1), (("done" : Str), v2), (("oldest" : Str), v3), (("heap" : Str), v4), (("node_places" : Str), v5), (("top_level" : Str), v6), (("log" : Str), v7), (("waiting" : Str), v8), (("changed" : Str), v9)] : List (Str × V)) = ([(("settings" : Str), v0), (("packing" : Str), v1), (("done" : Str), v2), (("oldest" : Str), v3), (("heap" : Str), v4), (("node_places" : Str), v5), (("top_level" : Str), v6), (("log" : Str), v7), (("waiting" : Str), v8), (("changed" : Str), v9), (("free_row" : Str), v10)] : List (Str × V)) := by kernel_rfl
theorem pf_Store_11 {v0 v1 v2 v3 v4 v5 v6 v7 v8 v9 v10 v11 : V} : putF ("taken_count" : Str) v11 ([(("settings" : Str), v0), (("packing" : Str), v1), (("done" : Str), v2), (("oldest" : Str), v3), (("heap" : Str), v4), (("node_places" : Str), v5), (("top_level" : Str), v6), (("log" : Str), v7), (("waiting" : Str), v8), (("changed" : Str), v9), (("free_row" : Str), v10)] : List (Str × V)) = ([(("settings" : Str), v0), (("packing" : Str), v1), (("done" : Str), v2), (("oldest" : Str), v3), (("heap" : Str), v4), (("node_places" : Str), v5), (("top_level" : Str), v6), (("log" : Str), v7), (("waiting" : Str), v8), (("changed" : Str), v9), (("free_row" : Str), v10), (("taken_count" : Str), v11)] : List (Str × V)) := by kernel_rfl
theorem pf_Store_12 {v0 v1 v2 v3 v4 v5 v6 v7 v8 v9 v10 v11 v12 : V} : putF ("events" : Str) v12 ([(("settings" : Str), v0), (("packing" : Str), v1), (("done" : Str), v2), (("oldest" : Str), v3), (("heap" : Str), v4), (("node_places" : Str), v5), (("top_level" : Str), v6), (("log" : Str), v7), (("waiting" : Str), v8), (("changed" : Str), v9), (("free_row" : Str), v10), (("taken_count" : Str), v11)] : List (Str × V)) = ([(("settings" : Str), v0), (("packing" : Str), v1), (("done" : Str), v2), (("oldest" : Str), v3), (("heap" : Str), v4), (("node_places" : Str), v5), (("top_level" : Str), v6), (("log" : Str), v7), (("waiting" : Str), v8), (("changed" : Str), v9), (("free_row" : Str), v10), (("taken_count" : Str), v11), (("events" : Str), v12)] : List (Str × V)) := by kernel_rfl
theorem pu_Store_0 {v0 v1 v2 v3 v4 v5 v6 v7 v8 v9 v10 v11 v12 u : V} : putF ("settings" : Str) u ([(("settings" : Str), v0), (("packing" : Str), v1), (("done" : Str), v2), (("oldest" : Str), v3), (("heap" : Str), v4), (("node_places" : Str), v5), (("top_level" : Str), v6), (("log" : Str), v7), (("waiting" : Str), v8), (("changed" : Str), v9), (("free_row" : Str), v10), (("taken_count" : Str), v11), (("events" : Str), v12)] : List (Str × V)) = ([(("settings" : Str), u), (("packing" : Str), v1), (("done" : Str), v2), (("oldest" : Str), v3), (("heap" : Str), v4), (("node_places" : Str), v5), (("top_level" : Str), v6), (("log" : Str), v7), (("waiting" : Str), v8), (("changed" : Str), v9), (("free_row" : Str), v10), (("taken_count" : Str), v11), (("events" : Str), v12)] : List (Str × V)) := by kernel_rfl
theorem pu_Store_1 {v0 v1 v2 v3 v4 v5 v6 v7 v8 v9 v10 v11 v12 u : V} : putF ("packing" : Str) u ([(("settings" : Str), v0), (("packing" : Str), v1), (("done" : Str), v2), (("oldest" : Str), v3), (("heap" : Str), v4), (("node_places" : Str), v5), (("top_level" : Str), v6), (("log" : Str), v7), (("waiting" : Str), v8), (("changed" : Str), v9), (("free_row" : Str), v10), (("taken_count" : Str), v11), (("events" : Str), v12)] : List (Str × V)) = ([(("settings" : Str), v0), (("packing" : Str), u), (("done" : Str), v2), (("oldest" : Str), v3), (("heap" : Str), v4), (("node_places" : Str), v5), (("top_level" : Str), v6), (("log" : Str), v7), (("waiting" : Str), v8), (("changed" : Str), v9), (("free_row" : Str), v10), (("taken_count" : Str), v11), (("events" : Str), v12)] : List (Str × V)) := by kernel_rfl
theorem pu_Store_2 {v0 v1 v2 v3 v4 v5 v6 v7 v8 v9 v10 v11 v12 u : V} : putF ("done" : Str) u ([(("settings" : Str), v0), (("packing" : Str), v1), (("done" : Str), v2), (("oldest" : Str), v3), (("heap" : Str), v4), (("node_places" : Str), v5), (("top_level" : Str), v6), (("log" : Str), v7), (("waiting" : Str), v8), (("changed" : Str), v9), (("free_row" : Str), v10), (("taken_count" : Str), v11), (("events" : Str), v12)] : List (Str × V)) = ([(("settings" : Str), v0), (("packing" : Str), v1), (("done" : Str), u), (("oldest" : Str), v3), (("heap" : Str), v4), (("node_places" : Str), v5), (("top_level" : Str), v6), (("log" : Str), v7), (("waiting" : Str), v8), (("changed" : Str), v9), (("free_row" : Str), v10), (("taken_count" : Str), v11), (("events" : Str), v12)] : List (Str × V)) := by kernel_rfl
theorem pu_Store_3 {v0 v1 v2 v3 v4 v5 v6 v7 v8 v9 v10 v11 v12 u : V} : putF ("oldest" : Str) u ([(("settings" : Str), v0), (("packing" : Str), v1), (("done" : Str), v2), (("oldest" : Str), v3), (("heap" : Str), v4), (("node_places" : Str), v5), (("top_level" : Str), v6), (("log" : Str), v7), (("waiting" : Str), v8), (("changed" : Str), v9), (("free_row" : Str), v10), (("taken_count" : Str), v11), (("events" : Str), v12)] : List (Str × V)) = ([(("settings" : Str), v0), (("packing" : Str), v1), (("done" : Str), v2), (("oldest" : Str), u), (("heap" : Str), v4), (("node_places" : Str), v5), (("top_level" : Str), v6), (("log" : Str), v7), (("waiting" : Str), v8), (("changed" : Str), v9), (("free_row" : Str), v10), (("taken_count" : Str), v11), (("events" : Str), v12)] : List (Str × V)) := by kernel_rfl
theorem pu_Store_4 {v0 v1 v2 v3 v4 v5 v6 v7 v8 v9 v10 v11 v12 u : V} : putF ("heap" : Str) u ([(("settings" : Str), v0), (("packing" : Str), v1), (("done" : Str), v2), (("oldest" : Str), v3), (("heap" : Str), v4), (("node_places" : Str), v5), (("top_level" : Str), v6), (("log" : Str), v7), (("waiting" : Str), v8), (("changed" : Str), v9), (("free_row" : Str), v10), (("taken_count" : Str), v11), (("events" : Str), v12)] : List (Str × V)) = ([(("settings" : Str), v0), (("packing" : Str), v1), (("done" : Str), v2), (("oldest" : Str), v3), (("heap" : Str), u), (("node_places" : Str), v5), (("top_level" : Str), v6), (("log" : Str), v7), (("waiting" : Str), v8), (("changed" : Str), v9), (("free_row" : Str), v10), (("taken_count" : Str), v11), (("events" : Str), v12)] : List (Str × V)) := by kernel_rfl
theorem pu_Store_5 {v0 v1 v2 v3 v4 v5 v6 v7 v8 v9 v10 v11 v12 u : V} : putF ("node_places" : Str) u ([(("settings" : Str), v0), (("packing" : Str), v1), (("done" : Str), v2), (("oldest" : Str), v3), (("heap" : Str), v4), (("node_places" : Str), v5), (("top_level" : Str), v6), (("log" : Str), v7), (("waiting" : Str), v8), (("changed" : Str), v9), (("free_row" : Str), v10), (("taken_count" : Str), v11), (("events" : Str), v12)] : List (Str × V)) = ([(("settings" : Str), v0), (("packing" : Str), v1), (("done" : Str), v2), (("oldest" : Str), v3), (("heap" : Str), v4), (("node_places" : Str), u), (("top_level" : Str), v6), (("log" : Str), v7), (("waiting" : Str), v8), (("changed" : Str), v9), (("free_row" : Str), v10), (("taken_count" : Str), v11), (("events" : Str), v12)] : List (Str × V)) := by kernel_rfl
theorem pu_Store_6 {v0 v1 v2 v3 v4 v5 v6 v7 v8 v9 v10 v11 v12 u : V} : putF ("top_level" : Str) u ([(("settings" : Str), v0), (("packing" : Str), v1), (("done" : Str), v2), (("oldest" : Str), v3), (("heap" : Str), v4), (("node_places" : Str), v5), (("top_level" : Str), v6), (("log" : Str), v7), (("waiting" : Str), v8), (("changed" : Str), v9), (("free_row" : Str), v10), (("taken_count" : Str), v11), (("events" : Str), v12)] : List (Str × V)) = ([(("settings" : Str), v0), (("packing" : Str), v1), (("done" : Str), v2), (("oldest" : Str), v3), (("heap" : Str), v4), (("node_places" : Str), v5), (("top_level" : Str), u), (("log" : Str), v7), (("waiting" : Str), v8), (("changed" : Str), v9), (("free_row" : Str), v10), (("taken_count" : Str), v11), (("events" : Str), v12)] : List (Str × V)) := by kernel_rfl
theorem pu_Store_7 {v0 v1 v2 v3 v4 v5 v6 v7 v8 v9 v10 v11 v12 u : V} : putF ("log" : Str) u ([(("settings" : Str), v0), (("packing" : Str), v1), (("done" : Str), v2), (("oldest" : Str), v3), (("heap" : Str), v4), (("node_places" : Str), v5), (("top_level" : Str), v6), (("log" : Str), v7), (("waiting" : Str), v8), (("changed" : Str), v9), (("free_row" : Str), v10), (("taken_count" : Str), v11), (("events" : Str), v12)] : List (Str × V)) = ([(("settings" : Str), v0), (("packing" : Str), v1), (("done" : Str), v2), (("oldest" : Str), v3), (("heap" : Str), v4), (("node_places" : Str), v5), (("top_level" : Str), v6), (("log" : Str), u), (("waiting" : Str), v8), (("changed" : Str), v9), (("free_row" : Str), v10), (("taken_count" : Str), v11), (("events" : Str), v12)] : List (Str × V)) := by kernel_rfl
theorem pu_Store_8 {v0 v1 v2 v3 v4 v5 v6 v7 v8 v9 v10 v11 v12 u : V} : putF ("waiting" : Str) u ([(("settings" : Str), v0), (("packing" : Str), v1), (("done" : Str), v2), (("oldest" : Str), v3), (("heap" : Str), v4), (("node_places" : Str), v5), (("top_level" : Str), v6), (("log" : Str), v7), (("waiting" : Str), v8), (("changed" : Str), v9), (("free_row" : Str), v10), (("taken_count" : Str), v11), (("events" : Str), v12)] : List (Str × V)) = ([(("settings" : Str), v0), (("packing" : Str), v1), (("done" : Str), v2), (("oldest" : Str), v3), (("heap" : Str), v4), (("node_places" : Str), v5), (("top_level" : Str), v6), (("log" : Str), v7), (("waiting" : Str), u), (("changed" : Str), v9), (("free_row" : Str), v10), (("taken_count" : Str), v11), (("events" : Str), v12)] : List (Str × V)) := by kernel_rfl
theorem pu_Store_9 {v0 v1 v2 v3 v4 v5 v6 v7 v8 v9 v10 v11 v12 u : V} : putF ("changed" : Str) u ([(("settings" : Str), v0), (("packing" : Str), v1), (("done" : Str), v2), (("oldest" : Str), v3), (("heap" : Str), v4), (("node_places" : Str), v5), (("top_level" : Str), v6), (("log" : Str), v7), (("waiting" : Str), v8), (("changed" : Str), v9), (("free_row" : Str), v10), (("taken_count" : Str), v11), (("events" : Str), v12)] : List (Str × V)) = ([(("settings" : Str), v0), (("packing" : Str), v1), (("done" : Str), v2), (("oldest" : Str), v3), (("heap" : Str), v4), (("node_places" : Str), v5), (("top_level" : Str), v6), (("log" : Str), v7), (("waiting" : Str), v8), (("changed" : Str), u), (("free_row" : Str), v10), (("taken_count" : Str), v11), (("events" : Str), v12)] : List (Str × V)) := by kernel_rfl
theorem pu_Store_10 {v0 v1 v2 v3 v4 v5 v6 v7 v8 v9 v10 v11 v12 u : V} : putF ("free_row" : Str) u ([(("settings" : Str), v0), (("packing" : Str), v1), (("done" : Str), v2), (("oldest" : Str), v3), (("heap" : Str), v4), (("node_places" : Str), v5), (("top_level" : Str), v6), (("log" : Str), v7), (("waiting" : Str), v8), (("changed" : Str), v9), (("free_row" : Str), v10), (("taken_count" : Str), v11), (("events" : Str), v12)] : List (Str × V)) = ([(("settings" : Str), v0), (("packing" : Str), v1), (("done" : Str), v2), (("oldest" : Str), v3), (("heap" : Str), v4), (("node_places" : Str), v5), (("top_level" : Str), v6), (("log" : Str), v7), (("waiting" : Str), v8), (("changed" : Str), v9), (("free_row" : Str), u), (("taken_count" : Str), v11), (("events" : Str), v12)] : List (Str × V)) := by kernel_rfl
theorem pu_Store_11 {v0 v1 v2 v3 v4 v5 v6 v7 v8 v9 v10 v11 v12 u : V} : putF ("taken_count" : Str) u ([(("settings" : Str), v0), (("packing" : Str), v1), (("done" : Str), v2), (("oldest" : Str), v3), (("heap" : Str), v4), (("node_places" : Str), v5), (("top_level" : Str), v6), (("log" : Str), v7), (("waiting" : Str), v8), (("changed" : Str), v9), (("free_row" : Str), v10), (("taken_count" : Str), v11), (("events" : Str), v12)] : List (Str × V)) = ([(("settings" : Str), v0), (("packing" : Str), v1), (("done" : Str), v2), (("oldest" : Str), v3), (("heap" : Str), v4), (("node_places" : Str), v5), (("top_level" : Str), v6), (("log" : Str), v7), (("waiting" : Str), v8), (("changed" : Str), v9), (("free_row" : Str), v10), (("taken_count" : Str), u), (("events" : Str), v12)] : List (Str × V)) := by kernel_rfl
theorem pu_Store_12 {v0 v1 v2 v3 v4 v5 v6 v7 v8 v9 v10 v11 v12 u : V} : putF ("events" : Str) u ([(("settings" : Str), v0), (("packing" : Str), v1), (("done" : Str), v2), (("oldest" : Str), v3), (("heap" : Str), v4), (("node_places" : Str), v5), (("top_level" : Str), v6), (("log" : Str), v7), (("waiting" : Str), v8), (("changed" : Str), v9), (("free_row" : Str), v10), (("taken_count" : Str), v11), (("events" : Str), v12)] : List (Str × V)) = ([(("settings" : Str), v0), (("packing" : Str), v1), (("done" : Str), v2), (("oldest" : Str), v3), (("heap" : Str), v4), (("node_places" : Str), v5), (("top_level" : Str), v6), (("log" : Str), v7), (("waiting" : Str), v8), (("changed" : Str), v9), (("free_row" : Str), v10), (("taken_count" : Str), v11), (("events" : Str), u)] : List (Str × V)) := by kernel_rfl
def exl : List (PySem.W.Frag → Bool) := [methB "Store" "begin_page" ("Core", some "begin_page"), methB "Store" "change" ("Core", some "change"), methB "Store" "checkpoint" ("Core", some "checkpoint"), methB "Store" "end_page" ("Core", some "end_page"), methB "Store" "give" ("Core", some "give"), methB "Store" "make" ("Core", some "make"), methB "Store" "newest" ("Core", some "newest"), methB "Store" "put_row" ("Core", some "put_row"), methB "Store" "roles" ("Book", some "roles"), methB "Store" "take" ("Core", some "take"), bmB "Book" "__init__" ("Core", some "__init__"), eqCB "Settings", isCB "Settings", kitB2 "Settings" "int" false, kitB2 "Settings" "bool" false, kitB2 "Settings" "list" false, kitB1 "int" "Settings" false, kitB1 "bool" "Settings" false, kitB1 "str" "Settings" false, kitB1 "list" "Settings" false, kitB1 "tuple" "Settings" false, kitB1 "dict" "Settings" false, kitB1 "NoneType" "Settings" false, kitB3 "Settings" "Settings" true, kitB3 "Packing" "Settings" false, kitB3 "Store" "Settings" false, isCB "Packing", kitB2 "Packing" "int" false, kitB2 "Packing" "bool" false, kitB2 "Packing" "list" false, eqCB "Store", isCB "Store", kitB2 "Store" "int" false, kitB2 "Store" "bool" false, kitB2 "Store" "list" false, kitB1 "int" "Store" false, kitB1 "bool" "Store" false, kitB1 "str" "Store" false, kitB1 "list" "Store" false, kitB1 "tuple" "Store" false, kitB1 "dict" "Store" false, kitB1 "NoneType" "Store" false, kitB3 "Settings" "Store" false, kitB3 "Packing" "Store" false, kitB3 "Store" "Store" true]
def exB (K : PySem.W.Frag) : Bool := exl.all fun f => f K
structure Txt (K : PySem.W.Frag)  (mg : Str → Option Value) (D : Nat → FuncData) : Prop where
  d_is_integer : F_is_integer K (D 0)
  d_is_between : F_is_between K (D 1)
  d_check_part : F_check_part K (D 2)
  d_Settings___init__ : F_Settings___init__ K (D 3)
  d_Settings___eq__ : F_Settings___eq__ K (D 4)
  d_Settings_parts : F_Settings_parts K (D 5)
  d_check_settings : F_check_settings K (D 6)
  d_check_moment : F_check_moment K (D 7)
  d_Packing___init__ : F_Packing___init__ K (D 8)
  d_Packing_length : F_Packing_length K (D 9)
  d_Packing_rows_from : F_Packing_rows_from K (D 10)
  d_Packing_start : F_Packing_start K (D 11)
  d_Packing_holder : F_Packing_holder K (D 12)
  d_Packing_begun : F_Packing_begun K (D 13)
  d_root_level : F_root_level K (D 14)
  d_Core___init__ : F_Core___init__ K (D 15)
  d_Core_note : F_Core_note K (D 16)
  d_Core_make : F_Core_make K (D 17)
  d_Core_take : F_Core_take K (D 18)
  d_Core_give : F_Core_give K (D 19)
  d_Core_newest : F_Core_newest K (D 20)
  d_Core_change : F_Core_change K (D 21)
  d_Core_begin_page : F_Core_begin_page K (D 22)
  d_Core_end_page : F_Core_end_page K (D 23)
  d_Core_checkpoint : F_Core_checkpoint K (D 24)
  d_Core_put_row : F_Core_put_row K (D 25)
  d_Book_moment : F_Book_moment K (D 26)
  d_Book_roles : F_Book_roles K (D 27)
  d_Book_role : F_Book_role K (D 28)
  d_Store___init__ : F_Store___init__ K (D 29)
  d_Store___eq__ : F_Store___eq__ K (D 30)
  d_Store_note : F_Store_note K (D 31)
  d_Store_step : F_Store_step K (D 32)
  d_law_digits : F_law_digits K (D 33)
  d_law_parts : F_law_parts K (D 34)
  d_law_settings : F_law_settings K (D 35)
  d_law_world : F_law_world K (D 36)
  d_law_take : F_law_take K (D 37)
  d_law_give : F_law_give K (D 38)
  d_law_mark : F_law_mark K (D 39)
  d_law_tree : F_law_tree K (D 40)
  d_law_tell : F_law_tell K (D 41)
  d_law_turn_tree : F_law_turn_tree K (D 42)
  d_law_row : F_law_row K (D 43)
  d_law_rows : F_law_rows K (D 44)
  d_law : F_law K (D 45)
  d_InvalidSettings___init__ : F_InvalidSettings___init__ K (D 46)
  d_InvalidPage___init__ : F_InvalidPage___init__ K (D 47)
  d_InvalidNumber___init__ : F_InvalidNumber___init__ K (D 48)
  g_is_integer : mg "is_integer" = some (.ref (He.fAd K ("is_integer", none)))
  g_is_between : mg "is_between" = some (.ref (He.fAd K ("is_between", none)))
  g_check_part : mg "check_part" = some (.ref (He.fAd K ("check_part", none)))
  g_check_settings : mg "check_settings" = some (.ref (He.fAd K ("check_settings", none)))
  g_check_moment : mg "check_moment" = some (.ref (He.fAd K ("check_moment", none)))
  g_root_level : mg "root_level" = some (.ref (He.fAd K ("root_level", none)))
  g_law_digits : mg "_law_digits" = some (.ref (He.fAd K ("_law_digits", none)))
  g_law_parts : mg "_law_parts" = some (.ref (He.fAd K ("_law_parts", none)))
  g_law_settings : mg "_law_settings" = some (.ref (He.fAd K ("_law_settings", none)))
  g_law_world : mg "_law_world" = some (.ref (He.fAd K ("_law_world", none)))
  g_law_take : mg "_law_take" = some (.ref (He.fAd K ("_law_take", none)))
  g_law_give : mg "_law_give" = some (.ref (He.fAd K ("_law_give", none)))
  g_law_mark : mg "_law_mark" = some (.ref (He.fAd K ("_law_mark", none)))
  g_law_tree : mg "_law_tree" = some (.ref (He.fAd K ("_law_tree", none)))
  g_law_tell : mg "_law_tell" = some (.ref (He.fAd K ("_law_tell", none)))
  g_law_turn_tree : mg "_law_turn_tree" = some (.ref (He.fAd K ("_law_turn_tree", none)))
  g_law_row : mg "_law_row" = some (.ref (He.fAd K ("_law_row", none)))
  g_law_rows : mg "_law_rows" = some (.ref (He.fAd K ("_law_rows", none)))
  g_law : mg "law" = some (.ref (He.fAd K ("law", none)))
  g_Settings : mg "Settings" = some (.ref (He.ga K "Settings"))
  g_Packing : mg "Packing" = some (.ref (He.ga K "Packing"))
  g_Core : mg "Core" = some (.ref (He.ga K "Core"))
  g_Book : mg "Book" = some (.ref (He.ga K "Book"))
  g_Store : mg "Store" = some (.ref (He.ga K "Store"))
  g_StoreError : mg "StoreError" = some (.ref (He.ga K "StoreError"))
  g_InvalidSettings : mg "InvalidSettings" = some (.ref (He.ga K "InvalidSettings"))
  g_InvalidPage : mg "InvalidPage" = some (.ref (He.ga K "InvalidPage"))
  g_InvalidNumber : mg "InvalidNumber" = some (.ref (He.ga K "InvalidNumber"))
  c_Settings : Cls K (He.ga K "Settings")
  mk_Settings : Mk K (He.ga K "Settings") (He.fAd K ("Settings", some "__init__"))
  a_Settings_lengths : NoAttr K (He.ga K "Settings") "lengths"
  a_Settings_size : NoAttr K (He.ga K "Settings") "size"
  a_Settings_fanout : NoAttr K (He.ga K "Settings") "fanout"
  a_Settings_records : NoAttr K (He.ga K "Settings") "records"
  a_Settings_every : NoAttr K (He.ga K "Settings") "every"
  a_Settings_keep : NoAttr K (He.ga K "Settings") "keep"
  m_Settings___eq__ : Meth K (He.ga K "Settings") "__eq__" (He.fAd K ("Settings", some "__eq__"))
  m_Settings_parts : Meth K (He.ga K "Settings") "parts" (He.fAd K ("Settings", some "parts"))
  c_Packing : Cls K (He.ga K "Packing")
  mk_Packing : Mk K (He.ga K "Packing") (He.fAd K ("Packing", some "__init__"))
  a_Packing_row_lengths : NoAttr K (He.ga K "Packing") "row_lengths"
  a_Packing_room : NoAttr K (He.ga K "Packing") "room"
  a_Packing_starts : NoAttr K (He.ga K "Packing") "starts"
  a_Packing_first : NoAttr K (He.ga K "Packing") "first"
  a_Packing_pages : NoAttr K (He.ga K "Packing") "pages"
  a_Packing_rows : NoAttr K (He.ga K "Packing") "rows"
  m_Packing_length : Meth K (He.ga K "Packing") "length" (He.fAd K ("Packing", some "length"))
  m_Packing_rows_from : Meth K (He.ga K "Packing") "rows_from" (He.fAd K ("Packing", some "rows_from"))
  m_Packing_start : Meth K (He.ga K "Packing") "start" (He.fAd K ("Packing", some "start"))
  m_Packing_holder : Meth K (He.ga K "Packing") "holder" (He.fAd K ("Packing", some "holder"))
  m_Packing_begun : Meth K (He.ga K "Packing") "begun" (He.fAd K ("Packing", some "begun"))
  c_Store : Cls K (He.ga K "Store")
  mk_Store : Mk K (He.ga K "Store") (He.fAd K ("Store", some "__init__"))
  a_Store_settings : NoAttr K (He.ga K "Store") "settings"
  a_Store_packing : NoAttr K (He.ga K "Store") "packing"
  a_Store_done : NoAttr K (He.ga K "Store") "done"
  a_Store_oldest : NoAttr K (He.ga K "Store") "oldest"
  a_Store_heap : NoAttr K (He.ga K "Store") "heap"
  a_Store_node_places : NoAttr K (He.ga K "Store") "node_places"
  a_Store_top_level : NoAttr K (He.ga K "Store") "top_level"
  a_Store_log : NoAttr K (He.ga K "Store") "log"
  a_Store_waiting : NoAttr K (He.ga K "Store") "waiting"
  a_Store_changed : NoAttr K (He.ga K "Store") "changed"
  a_Store_free_row : NoAttr K (He.ga K "Store") "free_row"
  a_Store_taken_count : NoAttr K (He.ga K "Store") "taken_count"
  a_Store_events : NoAttr K (He.ga K "Store") "events"
  m_Store___eq__ : Meth K (He.ga K "Store") "__eq__" (He.fAd K ("Store", some "__eq__"))
  m_Store_note : Meth K (He.ga K "Store") "note" (He.fAd K ("Store", some "note"))
  m_Store_step : Meth K (He.ga K "Store") "step" (He.fAd K ("Store", some "step"))
  m_Store_moment : Meth K (He.ga K "Store") "moment" (He.fAd K ("Store", some "moment"))
  m_Store_role : Meth K (He.ga K "Store") "role" (He.fAd K ("Store", some "role"))
  n_int : mg "int" = none
  n_len : mg "len" = none
  n_range : mg "range" = none
  n_isinstance : mg "isinstance" = none
  n_list : mg "list" = none
  n_tuple : mg "tuple" = none
  n_bool : mg "bool" = none
  n_dict : mg "dict" = none
  n_set : mg "set" = none
  n_max : mg "max" = none
  n_min : mg "min" = none
  n_sorted : mg "sorted" = none
  n_enumerate : mg "enumerate" = none
  n_divmod : mg "divmod" = none
  i_MOST_ROW : ∃ t, mg "MOST_ROW" = some (.int (1000000000000000000000000000000) t)
  i_MOST_LENGTHS : ∃ t, mg "MOST_LENGTHS" = some (.int (6) t)
  i_MOST_SIZE : ∃ t, mg "MOST_SIZE" = some (.int (64) t)
  i_MOST_FANOUT : ∃ t, mg "MOST_FANOUT" = some (.int (8) t)
  i_MOST_RECORDS : ∃ t, mg "MOST_RECORDS" = some (.int (16) t)
  i_MOST_EVERY : ∃ t, mg "MOST_EVERY" = some (.int (40) t)
  i_MOST_KEEP : ∃ t, mg "MOST_KEEP" = some (.int (100) t)
  m_Store_begin_page : Meth K (He.ga K "Store") "begin_page" (He.fAd K ("Core", some "begin_page"))
  m_Store_change : Meth K (He.ga K "Store") "change" (He.fAd K ("Core", some "change"))
  m_Store_checkpoint : Meth K (He.ga K "Store") "checkpoint" (He.fAd K ("Core", some "checkpoint"))
  m_Store_end_page : Meth K (He.ga K "Store") "end_page" (He.fAd K ("Core", some "end_page"))
  m_Store_give : Meth K (He.ga K "Store") "give" (He.fAd K ("Core", some "give"))
  m_Store_make : Meth K (He.ga K "Store") "make" (He.fAd K ("Core", some "make"))
  m_Store_newest : Meth K (He.ga K "Store") "newest" (He.fAd K ("Core", some "newest"))
  m_Store_put_row : Meth K (He.ga K "Store") "put_row" (He.fAd K ("Core", some "put_row"))
  m_Store_roles : Meth K (He.ga K "Store") "roles" (He.fAd K ("Book", some "roles"))
  m_Store_take : Meth K (He.ga K "Store") "take" (He.fAd K ("Core", some "take"))
  bm_Book___init__ : BMeth K (He.ga K "Book") "__init__" (He.fAd K ("Core", some "__init__"))
  eq_Settings : EqC K (He.ga K "Settings")
  ic_Settings : IsC K (He.ga K "Settings")
  kc_Settings_int : PySem.W.kitOne K (.ref (He.ga K "Settings")) (.type "int") = some false
  kc_Settings_bool : PySem.W.kitOne K (.ref (He.ga K "Settings")) (.type "bool") = some false
  kc_Settings_list : PySem.W.kitOne K (.ref (He.ga K "Settings")) (.type "list") = some false
  kb_int_Settings : PySem.W.kitOne K (.type "int") (.ref (He.ga K "Settings")) = some false
  kb_bool_Settings : PySem.W.kitOne K (.type "bool") (.ref (He.ga K "Settings")) = some false
  kb_str_Settings : PySem.W.kitOne K (.type "str") (.ref (He.ga K "Settings")) = some false
  kb_list_Settings : PySem.W.kitOne K (.type "list") (.ref (He.ga K "Settings")) = some false
  kb_tuple_Settings : PySem.W.kitOne K (.type "tuple") (.ref (He.ga K "Settings")) = some false
  kb_dict_Settings : PySem.W.kitOne K (.type "dict") (.ref (He.ga K "Settings")) = some false
  kb_NoneType_Settings : PySem.W.kitOne K (.type "NoneType") (.ref (He.ga K "Settings")) = some false
  kk_Settings_Settings : PySem.W.kitOne K (.ref (He.ga K "Settings")) (.ref (He.ga K "Settings")) = some true
  kk_Packing_Settings : PySem.W.kitOne K (.ref (He.ga K "Packing")) (.ref (He.ga K "Settings")) = some false
  kk_Store_Settings : PySem.W.kitOne K (.ref (He.ga K "Store")) (.ref (He.ga K "Settings")) = some false
  ic_Packing : IsC K (He.ga K "Packing")
  kc_Packing_int : PySem.W.kitOne K (.ref (He.ga K "Packing")) (.type "int") = some false
  kc_Packing_bool : PySem.W.kitOne K (.ref (He.ga K "Packing")) (.type "bool") = some false
  kc_Packing_list : PySem.W.kitOne K (.ref (He.ga K "Packing")) (.type "list") = some false
  eq_Store : EqC K (He.ga K "Store")
  ic_Store : IsC K (He.ga K "Store")
  kc_Store_int : PySem.W.kitOne K (.ref (He.ga K "Store")) (.type "int") = some false
  kc_Store_bool : PySem.W.kitOne K (.ref (He.ga K "Store")) (.type "bool") = some false
  kc_Store_list : PySem.W.kitOne K (.ref (He.ga K "Store")) (.type "list") = some false
  kb_int_Store : PySem.W.kitOne K (.type "int") (.ref (He.ga K "Store")) = some false
  kb_bool_Store : PySem.W.kitOne K (.type "bool") (.ref (He.ga K "Store")) = some false
  kb_str_Store : PySem.W.kitOne K (.type "str") (.ref (He.ga K "Store")) = some false
  kb_list_Store : PySem.W.kitOne K (.type "list") (.ref (He.ga K "Store")) = some false
  kb_tuple_Store : PySem.W.kitOne K (.type "tuple") (.ref (He.ga K "Store")) = some false
  kb_dict_Store : PySem.W.kitOne K (.type "dict") (.ref (He.ga K "Store")) = some false
  kb_NoneType_Store : PySem.W.kitOne K (.type "NoneType") (.ref (He.ga K "Store")) = some false
  kk_Settings_Store : PySem.W.kitOne K (.ref (He.ga K "Settings")) (.ref (He.ga K "Store")) = some false
  kk_Packing_Store : PySem.W.kitOne K (.ref (He.ga K "Packing")) (.ref (He.ga K "Store")) = some false
  kk_Store_Store : PySem.W.kitOne K (.ref (He.ga K "Store")) (.ref (He.ga K "Store")) = some true
  su_Store_moment : ∃ fd, SupT_Store_moment K fd
  su_Store_role : ∃ fd, SupT_Store_role K fd
def fnl : List He.DefD := [dd_is_integer, dd_is_between, dd_check_part, dd_Settings___init__, dd_Settings___eq__, dd_Settings_parts, dd_check_settings, dd_check_moment, dd_Packing___init__, dd_Packing_length, dd_Packing_rows_from, dd_Packing_start, dd_Packing_holder, dd_Packing_begun, dd_root_level, dd_Core___init__, dd_Core_note, dd_Core_make, dd_Core_take, dd_Core_give, dd_Core_newest, dd_Core_change, dd_Core_begin_page, dd_Core_end_page, dd_Core_checkpoint, dd_Core_put_row, dd_Book_moment, dd_Book_roles, dd_Book_role, dd_Store___init__, dd_Store___eq__, dd_Store_note, dd_Store_step, dd_law_digits, dd_law_parts, dd_law_settings, dd_law_world, dd_law_take, dd_law_give, dd_law_mark, dd_law_tree, dd_law_tell, dd_law_turn_tree, dd_law_row, dd_law_rows, dd_law, dd_InvalidSettings___init__, dd_InvalidPage___init__, dd_InvalidNumber___init__]
def fal : List He.Fa := [.glo "is_integer", .glo "is_between", .glo "check_part", .glo "check_settings", .glo "check_moment", .glo "root_level", .glo "_law_digits", .glo "_law_parts", .glo "_law_settings", .glo "_law_world", .glo "_law_take", .glo "_law_give", .glo "_law_mark", .glo "_law_tree", .glo "_law_tell", .glo "_law_turn_tree", .glo "_law_row", .glo "_law_rows", .glo "law", .glo "Settings", .glo "Packing", .glo "Core", .glo "Book", .glo "Store", .glo "StoreError", .glo "InvalidSettings", .glo "InvalidPage", .glo "InvalidNumber", .cls "Settings", .mkr "Settings", .noat "Settings" "lengths", .noat "Settings" "size", .noat "Settings" "fanout", .noat "Settings" "records", .noat "Settings" "every", .noat "Settings" "keep", .meth "Settings" "__eq__", .meth "Settings" "parts", .cls "Packing", .mkr "Packing", .noat "Packing" "row_lengths", .noat "Packing" "room", .noat "Packing" "starts", .noat "Packing" "first", .noat "Packing" "pages", .noat "Packing" "rows", .meth "Packing" "length", .meth "Packing" "rows_from", .meth "Packing" "start", .meth "Packing" "holder", .meth "Packing" "begun", .cls "Store", .mkr "Store", .noat "Store" "settings", .noat "Store" "packing", .noat "Store" "done", .noat "Store" "oldest", .noat "Store" "heap", .noat "Store" "node_places", .noat "Store" "top_level", .noat "Store" "log", .noat "Store" "waiting", .noat "Store" "changed", .noat "Store" "free_row", .noat "Store" "taken_count", .noat "Store" "events", .meth "Store" "__eq__", .meth "Store" "note", .meth "Store" "step", .meth "Store" "moment", .meth "Store" "role", .free "int", .free "len", .free "range", .free "isinstance", .free "list", .free "tuple", .free "bool", .free "dict", .free "set", .free "max", .free "min", .free "sorted", .free "enumerate", .free "divmod", .int "MOST_ROW" (1000000000000000000000000000000), .int "MOST_LENGTHS" (6), .int "MOST_SIZE" (64), .int "MOST_FANOUT" (8), .int "MOST_RECORDS" (16), .int "MOST_EVERY" (40), .int "MOST_KEEP" (100)]
def D_is_integer : Nat := 0
def D_is_between : Nat := 1
def D_check_part : Nat := 2
def D_Settings___init__ : Nat := 3
def D_Settings___eq__ : Nat := 4
def D_Settings_parts : Nat := 5
def D_check_settings : Nat := 6
def D_check_moment : Nat := 7
def D_Packing___init__ : Nat := 8
def D_Packing_length : Nat := 9
def D_Packing_rows_from : Nat := 10
def D_Packing_start : Nat := 11
def D_Packing_holder : Nat := 12
def D_Packing_begun : Nat := 13
def D_root_level : Nat := 14
def D_Core___init__ : Nat := 15
def D_Core_note : Nat := 16
def D_Core_make : Nat := 17
def D_Core_take : Nat := 18
def D_Core_give : Nat := 19
def D_Core_newest : Nat := 20
def D_Core_change : Nat := 21
def D_Core_begin_page : Nat := 22
def D_Core_end_page : Nat := 23
def D_Core_checkpoint : Nat := 24
def D_Core_put_row : Nat := 25
def D_Book_moment : Nat := 26
def D_Book_roles : Nat := 27
def D_Book_role : Nat := 28
def D_Store___init__ : Nat := 29
def D_Store___eq__ : Nat := 30
def D_Store_note : Nat := 31
def D_Store_step : Nat := 32
def D_law_digits : Nat := 33
def D_law_parts : Nat := 34
def D_law_settings : Nat := 35
def D_law_world : Nat := 36
def D_law_take : Nat := 37
def D_law_give : Nat := 38
def D_law_mark : Nat := 39
def D_law_tree : Nat := 40
def D_law_tell : Nat := 41
def D_law_turn_tree : Nat := 42
def D_law_row : Nat := 43
def D_law_rows : Nat := 44
def D_law : Nat := 45
def D_InvalidSettings___init__ : Nat := 46
def D_InvalidPage___init__ : Nat := 47
def D_InvalidNumber___init__ : Nat := 48
theorem txt_of {K : PySem.W.Frag} {h : Heap} {mg : Str → Option Value} (X : K.In h) (G : h.Ns mainGlobals mg) (c : He.SaysD fal fnl K) (cx : exB K = true) (cs : ∀ e ∈ supl, ∃ fd, SupK K (He.ga K e.C) (He.ga K e.D) e.m (He.fAd K e.d.at_) (He.fAd K (e.E, some e.m)) e.d.name e.d.qual e.d.params e.d.body e.d.scope e.file fd) : ∃ D, Txt K mg D := by
  have hx : ∀ f ∈ exl, f K = true := List.all_eq_true.mp cx
  have hd : ∀ i : Nat, ∃ fd : FuncData, ∀ d : He.DefD, fnl[i]? = some d → FunD K d.name d.qual d.params d.body d.scope (d.dvs K) (d.kws K) (He.fAd K d.at_) fd := fun i => by
    cases e : fnl[i]? with
    | none => exact ⟨PySem.W.fnOf "" "" (defArgs (topS 0)) [] (defScope (topS 0)) .none .none .none .none none .none .none, fun d h => nomatch h⟩
    | some d =>
      obtain ⟨fd, h⟩ := c.def_ i e
      exact ⟨fd, fun d2 h2 => by cases h2; exact h⟩
  have key := Classical.axiomOfChoice hd
  obtain ⟨D, hD⟩ := key
  refine ⟨D, ?_⟩
  constructor
  · exact hD 0 dd_is_integer rfl
  · exact hD 1 dd_is_between rfl
  · exact hD 2 dd_check_part rfl
  · exact hD 3 dd_Settings___init__ rfl
  · exact hD 4 dd_Settings___eq__ rfl
  · exact hD 5 dd_Settings_parts rfl
  · exact hD 6 dd_check_settings rfl
  · exact hD 7 dd_check_moment rfl
  · exact hD 8 dd_Packing___init__ rfl
  · exact hD 9 dd_Packing_length rfl
  · exact hD 10 dd_Packing_rows_from rfl
  · exact hD 11 dd_Packing_start rfl
  · exact hD 12 dd_Packing_holder rfl
  · exact hD 13 dd_Packing_begun rfl
  · exact hD 14 dd_root_level rfl
  · exact hD 15 dd_Core___init__ rfl
  · exact hD 16 dd_Core_note rfl
  · exact hD 17 dd_Core_make rfl
  · exact hD 18 dd_Core_take rfl
  · exact hD 19 dd_Core_give rfl
  · exact hD 20 dd_Core_newest rfl
  · exact hD 21 dd_Core_change rfl
  · exact hD 22 dd_Core_begin_page rfl
  · exact hD 23 dd_Core_end_page rfl
  · exact hD 24 dd_Core_checkpoint rfl
  · exact hD 25 dd_Core_put_row rfl
  · exact hD 26 dd_Book_moment rfl
  · exact hD 27 dd_Book_roles rfl
  · exact hD 28 dd_Book_role rfl
  · exact hD 29 dd_Store___init__ rfl
  · exact hD 30 dd_Store___eq__ rfl
  · exact hD 31 dd_Store_note rfl
  · exact hD 32 dd_Store_step rfl
  · exact hD 33 dd_law_digits rfl
  · exact hD 34 dd_law_parts rfl
  · exact hD 35 dd_law_settings rfl
  · exact hD 36 dd_law_world rfl
  · exact hD 37 dd_law_take rfl
  · exact hD 38 dd_law_give rfl
  · exact hD 39 dd_law_mark rfl
  · exact hD 40 dd_law_tree rfl
  · exact hD 41 dd_law_tell rfl
  · exact hD 42 dd_law_turn_tree rfl
  · exact hD 43 dd_law_row rfl
  · exact hD 44 dd_law_rows rfl
  · exact hD 45 dd_law rfl
  · exact hD 46 dd_InvalidSettings___init__ rfl
  · exact hD 47 dd_InvalidPage___init__ rfl
  · exact hD 48 dd_InvalidNumber___init__ rfl
  · exact He.glo_ok X G (c.fact 0 (f := .glo "is_integer") rfl)
  · exact He.glo_ok X G (c.fact 1 (f := .glo "is_between") rfl)
  · exact He.glo_ok X G (c.fact 2 (f := .glo "check_part") rfl)
  · exact He.glo_ok X G (c.fact 3 (f := .glo "check_settings") rfl)
  · exact He.glo_ok X G (c.fact 4 (f := .glo "check_moment") rfl)
  · exact He.glo_ok X G (c.fact 5 (f := .glo "root_level") rfl)
  · exact He.glo_ok X G (c.fact 6 (f := .glo "_law_digits") rfl)
  · exact He.glo_ok X G (c.fact 7 (f := .glo "_law_parts") rfl)
  · exact He.glo_ok X G (c.fact 8 (f := .glo "_law_settings") rfl)
  · exact He.glo_ok X G (c.fact 9 (f := .glo "_law_world") rfl)
  · exact He.glo_ok X G (c.fact 10 (f := .glo "_law_take") rfl)
  · exact He.glo_ok X G (c.fact 11 (f := .glo "_law_give") rfl)
  · exact He.glo_ok X G (c.fact 12 (f := .glo "_law_mark") rfl)
  · exact He.glo_ok X G (c.fact 13 (f := .glo "_law_tree") rfl)
  · exact He.glo_ok X G (c.fact 14 (f := .glo "_law_tell") rfl)
  · exact He.glo_ok X G (c.fact 15 (f := .glo "_law_turn_tree") rfl)
  · exact He.glo_ok X G (c.fact 16 (f := .glo "_law_row") rfl)
  · exact He.glo_ok X G (c.fact 17 (f := .glo "_law_rows") rfl)
  · exact He.glo_ok X G (c.fact 18 (f := .glo "law") rfl)
  · exact He.glo_ok X G (c.fact 19 (f := .glo "Settings") rfl)
  · exact He.glo_ok X G (c.fact 20 (f := .glo "Packing") rfl)
  · exact He.glo_ok X G (c.fact 21 (f := .glo "Core") rfl)
  · exact He.glo_ok X G (c.fact 22 (f := .glo "Book") rfl)
  · exact He.glo_ok X G (c.fact 23 (f := .glo "Store") rfl)
  · exact He.glo_ok X G (c.fact 24 (f := .glo "StoreError") rfl)
  · exact He.glo_ok X G (c.fact 25 (f := .glo "InvalidSettings") rfl)
  · exact He.glo_ok X G (c.fact 26 (f := .glo "InvalidPage") rfl)
  · exact He.glo_ok X G (c.fact 27 (f := .glo "InvalidNumber") rfl)
  · exact He.cls_ok (c.fact 28 (f := .cls "Settings") rfl)
  · exact He.mkr_ok (c.fact 29 (f := .mkr "Settings") rfl)
  · exact He.noat_ok (c.fact 30 (f := .noat "Settings" "lengths") rfl)
  · exact He.noat_ok (c.fact 31 (f := .noat "Settings" "size") rfl)
  · exact He.noat_ok (c.fact 32 (f := .noat "Settings" "fanout") rfl)
  · exact He.noat_ok (c.fact 33 (f := .noat "Settings" "records") rfl)
  · exact He.noat_ok (c.fact 34 (f := .noat "Settings" "every") rfl)
  · exact He.noat_ok (c.fact 35 (f := .noat "Settings" "keep") rfl)
  · exact He.meth_ok (c.fact 36 (f := .meth "Settings" "__eq__") rfl)
  · exact He.meth_ok (c.fact 37 (f := .meth "Settings" "parts") rfl)
  · exact He.cls_ok (c.fact 38 (f := .cls "Packing") rfl)
  · exact He.mkr_ok (c.fact 39 (f := .mkr "Packing") rfl)
  · exact He.noat_ok (c.fact 40 (f := .noat "Packing" "row_lengths") rfl)
  · exact He.noat_ok (c.fact 41 (f := .noat "Packing" "room") rfl)
  · exact He.noat_ok (c.fact 42 (f := .noat "Packing" "starts") rfl)
  · exact He.noat_ok (c.fact 43 (f := .noat "Packing" "first") rfl)
  · exact He.noat_ok (c.fact 44 (f := .noat "Packing" "pages") rfl)
  · exact He.noat_ok (c.fact 45 (f := .noat "Packing" "rows") rfl)
  · exact He.meth_ok (c.fact 46 (f := .meth "Packing" "length") rfl)
  · exact He.meth_ok (c.fact 47 (f := .meth "Packing" "rows_from") rfl)
  · exact He.meth_ok (c.fact 48 (f := .meth "Packing" "start") rfl)
  · exact He.meth_ok (c.fact 49 (f := .meth "Packing" "holder") rfl)
  · exact He.meth_ok (c.fact 50 (f := .meth "Packing" "begun") rfl)
  · exact He.cls_ok (c.fact 51 (f := .cls "Store") rfl)
  · exact He.mkr_ok (c.fact 52 (f := .mkr "Store") rfl)
  · exact He.noat_ok (c.fact 53 (f := .noat "Store" "settings") rfl)
  · exact He.noat_ok (c.fact 54 (f := .noat "Store" "packing") rfl)
  · exact He.noat_ok (c.fact 55 (f := .noat "Store" "done") rfl)
  · exact He.noat_ok (c.fact 56 (f := .noat "Store" "oldest") rfl)
  · exact He.noat_ok (c.fact 57 (f := .noat "Store" "heap") rfl)
  · exact He.noat_ok (c.fact 58 (f := .noat "Store" "node_places") rfl)
  · exact He.noat_ok (c.fact 59 (f := .noat "Store" "top_level") rfl)
  · exact He.noat_ok (c.fact 60 (f := .noat "Store" "log") rfl)
  · exact He.noat_ok (c.fact 61 (f := .noat "Store" "waiting") rfl)
  · exact He.noat_ok (c.fact 62 (f := .noat "Store" "changed") rfl)
  · exact He.noat_ok (c.fact 63 (f := .noat "Store" "free_row") rfl)
  · exact He.noat_ok (c.fact 64 (f := .noat "Store" "taken_count") rfl)
  · exact He.noat_ok (c.fact 65 (f := .noat "Store" "events") rfl)
  · exact He.meth_ok (c.fact 66 (f := .meth "Store" "__eq__") rfl)
  · exact He.meth_ok (c.fact 67 (f := .meth "Store" "note") rfl)
  · exact He.meth_ok (c.fact 68 (f := .meth "Store" "step") rfl)
  · exact He.meth_ok (c.fact 69 (f := .meth "Store" "moment") rfl)
  · exact He.meth_ok (c.fact 70 (f := .meth "Store" "role") rfl)
  · exact He.free_ok X G (c.fact 71 (f := .free "int") rfl)
  · exact He.free_ok X G (c.fact 72 (f := .free "len") rfl)
  · exact He.free_ok X G (c.fact 73 (f := .free "range") rfl)
  · exact He.free_ok X G (c.fact 74 (f := .free "isinstance") rfl)
  · exact He.free_ok X G (c.fact 75 (f := .free "list") rfl)
  · exact He.free_ok X G (c.fact 76 (f := .free "tuple") rfl)
  · exact He.free_ok X G (c.fact 77 (f := .free "bool") rfl)
  · exact He.free_ok X G (c.fact 78 (f := .free "dict") rfl)
  · exact He.free_ok X G (c.fact 79 (f := .free "set") rfl)
  · exact He.free_ok X G (c.fact 80 (f := .free "max") rfl)
  · exact He.free_ok X G (c.fact 81 (f := .free "min") rfl)
  · exact He.free_ok X G (c.fact 82 (f := .free "sorted") rfl)
  · exact He.free_ok X G (c.fact 83 (f := .free "enumerate") rfl)
  · exact He.free_ok X G (c.fact 84 (f := .free "divmod") rfl)
  · exact He.int_ok X G (c.fact 85 (f := .int "MOST_ROW" (1000000000000000000000000000000)) rfl)
  · exact He.int_ok X G (c.fact 86 (f := .int "MOST_LENGTHS" (6)) rfl)
  · exact He.int_ok X G (c.fact 87 (f := .int "MOST_SIZE" (64)) rfl)
  · exact He.int_ok X G (c.fact 88 (f := .int "MOST_FANOUT" (8)) rfl)
  · exact He.int_ok X G (c.fact 89 (f := .int "MOST_RECORDS" (16)) rfl)
  · exact He.int_ok X G (c.fact 90 (f := .int "MOST_EVERY" (40)) rfl)
  · exact He.int_ok X G (c.fact 91 (f := .int "MOST_KEEP" (100)) rfl)
  · exact methB_ok (hx (methB "Store" "begin_page" ("Core", some "begin_page")) (List.mem_of_getElem? (i := 0) rfl))
  · exact methB_ok (hx (methB "Store" "change" ("Core", some "change")) (List.mem_of_getElem? (i := 1) rfl))
  · exact methB_ok (hx (methB "Store" "checkpoint" ("Core", some "checkpoint")) (List.mem_of_getElem? (i := 2) rfl))
  · exact methB_ok (hx (methB "Store" "end_page" ("Core", some "end_page")) (List.mem_of_getElem? (i := 3) rfl))
  · exact methB_ok (hx (methB "Store" "give" ("Core", some "give")) (List.mem_of_getElem? (i := 4) rfl))
  · exact methB_ok (hx (methB "Store" "make" ("Core", some "make")) (List.mem_of_getElem? (i := 5) rfl))
  · exact methB_ok (hx (methB "Store" "newest" ("Core", some "newest")) (List.mem_of_getElem? (i := 6) rfl))
  · exact methB_ok (hx (methB "Store" "put_row" ("Core", some "put_row")) (List.mem_of_getElem? (i := 7) rfl))
  · exact methB_ok (hx (methB "Store" "roles" ("Book", some "roles")) (List.mem_of_getElem? (i := 8) rfl))
  · exact methB_ok (hx (methB "Store" "take" ("Core", some "take")) (List.mem_of_getElem? (i := 9) rfl))
  · exact bmB_ok (hx (bmB "Book" "__init__" ("Core", some "__init__")) (List.mem_of_getElem? (i := 10) rfl))
  · exact eqCB_ok (hx (eqCB "Settings") (List.mem_of_getElem? (i := 11) rfl))
  · exact isCB_ok (hx (isCB "Settings") (List.mem_of_getElem? (i := 12) rfl))
  · exact of_decide_eq_true (hx (kitB2 "Settings" "int" false) (List.mem_of_getElem? (i := 13) rfl))
  · exact of_decide_eq_true (hx (kitB2 "Settings" "bool" false) (List.mem_of_getElem? (i := 14) rfl))
  · exact of_decide_eq_true (hx (kitB2 "Settings" "list" false) (List.mem_of_getElem? (i := 15) rfl))
  · exact of_decide_eq_true (hx (kitB1 "int" "Settings" false) (List.mem_of_getElem? (i := 16) rfl))
  · exact of_decide_eq_true (hx (kitB1 "bool" "Settings" false) (List.mem_of_getElem? (i := 17) rfl))
  · exact of_decide_eq_true (hx (kitB1 "str" "Settings" false) (List.mem_of_getElem? (i := 18) rfl))
  · exact of_decide_eq_true (hx (kitB1 "list" "Settings" false) (List.mem_of_getElem? (i := 19) rfl))
  · exact of_decide_eq_true (hx (kitB1 "tuple" "Settings" false) (List.mem_of_getElem? (i := 20) rfl))
  · exact of_decide_eq_true (hx (kitB1 "dict" "Settings" false) (List.mem_of_getElem? (i := 21) rfl))
  · exact of_decide_eq_true (hx (kitB1 "NoneType" "Settings" false) (List.mem_of_getElem? (i := 22) rfl))
  · exact of_decide_eq_true (hx (kitB3 "Settings" "Settings" true) (List.mem_of_getElem? (i := 23) rfl))
  · exact of_decide_eq_true (hx (kitB3 "Packing" "Settings" false) (List.mem_of_getElem? (i := 24) rfl))
  · exact of_decide_eq_true (hx (kitB3 "Store" "Settings" false) (List.mem_of_getElem? (i := 25) rfl))
  · exact isCB_ok (hx (isCB "Packing") (List.mem_of_getElem? (i := 26) rfl))
  · exact of_decide_eq_true (hx (kitB2 "Packing" "int" false) (List.mem_of_getElem? (i := 27) rfl))
  · exact of_decide_eq_true (hx (kitB2 "Packing" "bool" false) (List.mem_of_getElem? (i := 28) rfl))
  · exact of_decide_eq_true (hx (kitB2 "Packing" "list" false) (List.mem_of_getElem? (i := 29) rfl))
  · exact eqCB_ok (hx (eqCB "Store") (List.mem_of_getElem? (i := 30) rfl))
  · exact isCB_ok (hx (isCB "Store") (List.mem_of_getElem? (i := 31) rfl))
  · exact of_decide_eq_true (hx (kitB2 "Store" "int" false) (List.mem_of_getElem? (i := 32) rfl))
  · exact of_decide_eq_true (hx (kitB2 "Store" "bool" false) (List.mem_of_getElem? (i := 33) rfl))
  · exact of_decide_eq_true (hx (kitB2 "Store" "list" false) (List.mem_of_getElem? (i := 34) rfl))
  · exact of_decide_eq_true (hx (kitB1 "int" "Store" false) (List.mem_of_getElem? (i := 35) rfl))
  · exact of_decide_eq_true (hx (kitB1 "bool" "Store" false) (List.mem_of_getElem? (i := 36) rfl))
  · exact of_decide_eq_true (hx (kitB1 "str" "Store" false) (List.mem_of_getElem? (i := 37) rfl))
  · exact of_decide_eq_true (hx (kitB1 "list" "Store" false) (List.mem_of_getElem? (i := 38) rfl))
  · exact of_decide_eq_true (hx (kitB1 "tuple" "Store" false) (List.mem_of_getElem? (i := 39) rfl))
  · exact of_decide_eq_true (hx (kitB1 "dict" "Store" false) (List.mem_of_getElem? (i := 40) rfl))
  · exact of_decide_eq_true (hx (kitB1 "NoneType" "Store" false) (List.mem_of_getElem? (i := 41) rfl))
  · exact of_decide_eq_true (hx (kitB3 "Settings" "Store" false) (List.mem_of_getElem? (i := 42) rfl))
  · exact of_decide_eq_true (hx (kitB3 "Packing" "Store" false) (List.mem_of_getElem? (i := 43) rfl))
  · exact of_decide_eq_true (hx (kitB3 "Store" "Store" true) (List.mem_of_getElem? (i := 44) rfl))
  · exact cs su_Store_moment (List.mem_of_getElem? (i := 0) rfl)
  · exact cs su_Store_role (List.mem_of_getElem? (i := 1) rfl)
abbrev RowK : PySem.W.OpenRow := PySem.W.OpenLaw.row PySem.Challenge.rw_keeprows_k28_events_of_each_row
abbrev hk : PySem.W.Hook := hookS 4 fal fnl exB supl
def ob (s : PySem.W.SharedT) : He.AlD := obsS 4 fal fnl exB supl (HandSHeadRun.getT s)
theorem ob_eq (s : PySem.W.SharedT) : ob s = hk.obs s.abs := obsS_eq (HandSHeadRun.getT_eq s)
def looseN : List Str := (["_wall", "StoreError", "InvalidSettings", "InvalidPage", "InvalidNumber", "MOST_ROW", "MOST_LENGTHS", "MOST_SIZE", "MOST_FANOUT", "MOST_RECORDS", "MOST_EVERY", "MOST_KEEP", "is_integer", "is_between", "check_part", "Settings", "check_settings", "check_moment", "Packing", "root_level", "Core", "Book", "Store", "_law_digits", "_law_parts"] : List Str) ++ (["_law_settings", "_law_world", "_law_take", "_law_give", "_law_mark", "_law_tree", "_law_tell", "_law_turn_tree", "_law_row", "_law_rows"] : List Str)
theorem run (w : World) : HandSHeadRun.RunEq RowK (PySem.W.view RowK.prog [41]) hk ob 20000 looseN w := by
  intro os
  kernel_rfl
end KR
local macro_rules | `(tactic| walk_at "cls") => `(tactic| first
  | exact KR.Txt.c_Settings (by assumption)
  | exact KR.Txt.c_Packing (by assumption)
  | exact KR.Txt.c_Store (by assumption))
local macro_rules | `(tactic| walk_at "noat") => `(tactic| first
  | exact KR.Txt.a_Settings_lengths (by assumption)
  | exact KR.Txt.a_Settings_size (by assumption)
  | exact KR.Txt.a_Settings_fanout (by assumption)
  | exact KR.Txt.a_Settings_records (by assumption)
  | exact KR.Txt.a_Settings_every (by assumption)
  | exact KR.Txt.a_Settings_keep (by assumption)
  | exact KR.Txt.a_Packing_row_lengths (by assumption)
  | exact KR.Txt.a_Packing_room (by assumption)
  | exact KR.Txt.a_Packing_starts (by assumption)
  | exact KR.Txt.a_Packing_first (by assumption)
  | exact KR.Txt.a_Packing_pages (by assumption)
  | exact KR.Txt.a_Packing_rows (by assumption)
  | exact KR.Txt.a_Store_settings (by assumption)
  | exact KR.Txt.a_Store_packing (by assumption)
  | exact KR.Txt.a_Store_done (by assumption)
  | exact KR.Txt.a_Store_oldest (by assumption)
  | exact KR.Txt.a_Store_heap (by assumption)
  | exact KR.Txt.a_Store_node_places (by assumption)
  | exact KR.Txt.a_Store_top_level (by assumption)
  | exact KR.Txt.a_Store_log (by assumption)
  | exact KR.Txt.a_Store_waiting (by assumption)
  | exact KR.Txt.a_Store_changed (by assumption)
  | exact KR.Txt.a_Store_free_row (by assumption)
  | exact KR.Txt.a_Store_taken_count (by assumption)
  | exact KR.Txt.a_Store_events (by assumption))
local macro_rules | `(tactic| walk_at "lk") => `(tactic| first
  | assumption
  | with_reducible walk_at "lkS"
  | with_reducible exact KR.lk_Store_13_12
  | with_reducible exact KR.lk_Store_13_11
  | with_reducible exact KR.lk_Store_13_10
  | with_reducible exact KR.lk_Store_13_9
  | with_reducible exact KR.lk_Store_13_8
  | with_reducible exact KR.lk_Store_13_7
  | with_reducible exact KR.lk_Store_13_6
  | with_reducible exact KR.lk_Store_13_5
  | with_reducible exact KR.lk_Store_13_4
  | with_reducible exact KR.lk_Store_13_3
  | with_reducible exact KR.lk_Store_13_2
  | with_reducible exact KR.lk_Store_13_1
  | with_reducible exact KR.lk_Store_13_0
  | with_reducible exact KR.lk_Packing_6_5
  | with_reducible exact KR.lk_Packing_6_4
  | with_reducible exact KR.lk_Packing_6_3
  | with_reducible exact KR.lk_Packing_6_2
  | with_reducible exact KR.lk_Packing_6_1
  | with_reducible exact KR.lk_Packing_6_0
  | with_reducible exact KR.lk_Packing_5_4
  | with_reducible exact KR.lk_Packing_5_3
  | with_reducible exact KR.lk_Packing_5_2
  | with_reducible exact KR.lk_Packing_5_1
  | with_reducible exact KR.lk_Packing_5_0
  | with_reducible exact KR.lk_Packing_4_3
  | with_reducible exact KR.lk_Packing_4_2
  | with_reducible exact KR.lk_Packing_4_1
  | with_reducible exact KR.lk_Packing_4_0
  | with_reducible exact KR.lk_Packing_3_2
  | with_reducible exact KR.lk_Packing_3_1
  | with_reducible exact KR.lk_Packing_3_0
  | with_reducible exact KR.lk_Packing_2_1
  | with_reducible exact KR.lk_Packing_2_0
  | with_reducible exact KR.lk_Packing_1_0
  | with_reducible exact KR.lk_Settings_6_5
  | with_reducible exact KR.lk_Settings_6_4
  | with_reducible exact KR.lk_Settings_6_3
  | with_reducible exact KR.lk_Settings_6_2
  | with_reducible exact KR.lk_Settings_6_1
  | with_reducible exact KR.lk_Settings_6_0
  | with_reducible exact KR.lk_Settings_5_4
  | with_reducible exact KR.lk_Settings_5_3
  | with_reducible exact KR.lk_Settings_5_2
  | with_reducible exact KR.lk_Settings_5_1
  | with_reducible exact KR.lk_Settings_5_0
  | with_reducible exact KR.lk_Settings_4_3
  | with_reducible exact KR.lk_Settings_4_2
  | with_reducible exact KR.lk_Settings_4_1
  | with_reducible exact KR.lk_Settings_4_0
  | with_reducible exact KR.lk_Settings_3_2
  | with_reducible exact KR.lk_Settings_3_1
  | with_reducible exact KR.lk_Settings_3_0
  | with_reducible exact KR.lk_Settings_2_1
  | with_reducible exact KR.lk_Settings_2_0
  | with_reducible exact KR.lk_Settings_1_0
  | kernel_rfl)
local macro_rules | `(tactic| walk_at "dg") => `(tactic| first
  | exact KR.pg_lengths (by walk_at "hp")
  | exact KR.pg_size (by walk_at "hp")
  | exact KR.pg_fanout (by walk_at "hp")
  | exact KR.pg_records (by walk_at "hp")
  | exact KR.pg_every (by walk_at "hp")
  | exact KR.pg_keep (by walk_at "hp")
  | exact KR.wg_parts (by walk_at "hp")
  | exact KR.wg_rows (by walk_at "hp")
  | exact KR.wg_page (by walk_at "hp")
  | exact KR.wg_left (by walk_at "hp")
  | exact KR.wg_first (by walk_at "hp")
  | exact KR.wg_heap (by walk_at "hp")
  | exact KR.wg_nodes (by walk_at "hp")
  | exact KR.wg_log (by walk_at "hp")
  | exact KR.wg_waiting (by walk_at "hp")
  | exact KR.wg_list (by walk_at "hp")
  | exact KR.wg_size (by walk_at "hp")
  | exact KR.wg_changed (by walk_at "hp"))

local macro_rules | `(tactic| walk_at "lkS") => `(tactic| first
  | exact KR.lkS_settings
  | exact KR.lkS_packing
  | exact KR.lkS_done
  | exact KR.lkS_oldest
  | exact KR.lkS_heap
  | exact KR.lkS_node_places
  | exact KR.lkS_top_level
  | exact KR.lkS_log
  | exact KR.lkS_waiting
  | exact KR.lkS_changed
  | exact KR.lkS_free_row
  | exact KR.lkS_taken_count
  | exact KR.lkS_events)
local macro_rules | `(tactic| walk_at "sd") => `(tactic| first
  | omega
  | decide
  | exact KR.szl (Nat.le_of_ble_eq_true rfl)
  | ((repeat' split) <;> omega)
  | exact ⟨Nat.le_of_ble_eq_true rfl, Nat.le_of_ble_eq_true rfl⟩
  | (refine KR.cdw ?_ ?_ <;> omega)
  | (refine KR.cdv ?_ ?_ <;> omega)
  | (refine KR.cml ?_ ?_ <;> omega)
  | (refine KR.cmr ?_ ?_ <;> omega))
local macro_rules | `(tactic| walk_at "hp") => `(tactic| first
  | assumption
  | exact KR.hp_same (by assumption) (by assumption)
  | exact KR.hp_sb (by assumption) (by assumption) (by assumption))
local macro_rules | `(tactic| walk_at "s1") => `(tactic| first
  | refine ⟨_, rfl, ?_⟩
  | refine L2.iteT ?_
  | refine L2.iteF ?_
  | refine ⟨_, _, rfl, rfl, ?_⟩
  | refine Or.inl ⟨_, rfl, ?_⟩
  | (refine' ⟨_, _, _, _, rfl, rfl, L2.SqL.of ?h1, ?h2, ?_⟩; (case h1 => walk_at "hp"); (case h2 => rfl))
  | (refine' ⟨_, _, _, _, rfl, rfl, L2.SqT.of ?h1, ?h2, ?_⟩; (case h1 => walk_at "hp"); (case h2 => rfl))
  | refine ⟨rfl, ?_⟩
  | refine ⟨_, _, rfl, ?_⟩
  | refine ⟨_, _, _, rfl, ?_⟩
  | (refine' ⟨_, _, rfl, L2.SqT.of ?h1, ?h2, ?_⟩; (case h1 => walk_at "hp"); (case h2 => rfl))
  | (refine' ⟨_, _, rfl, Or.inl (L2.SqL.of ?h1), ?_⟩; (case h1 => walk_at "hp"))
  | (refine' ⟨_, _, rfl, Or.inr (L2.SqT.of ?h1), ?_⟩; (case h1 => walk_at "hp"))
  | (refine' ⟨_, _, _, _, _, rfl, ?h1, ?h2, ?h3, ?h4, ?_⟩; (case h1 => walk_at "hp"); (case h2 => walk_at "cls"); (case h3 => walk_at "noat"); (case h4 => walk_at "lk"))
  | (refine' ⟨_, _, _, _, rfl, ?h1, ?h2, ?h3, ?h4, ?_⟩; (case h1 => walk_at "hp"); (case h2 => walk_at "cls"); (case h3 => walk_at "noat"); (case h4 => exact KR.lt1000 rfl))
  | (refine' ⟨_, _, _, rfl, ?h1, ?h2, ?_⟩; (case h1 => walk_at "hp"); (case h2 => walk_at "lk"))
  | (refine' ⟨⟨_, L2.SqL.of ?h1⟩, ?_⟩; (case h1 => walk_at "hp"))
  | (refine' ⟨⟨_, L2.SqT.of ?h1⟩, ?_⟩; (case h1 => walk_at "hp"))
  | (refine' ⟨_, _, rfl, ?h1, ?_⟩; (case h1 => walk_at "dg"))
  | (refine And.intro ?h1 ?_; (case h1 => walk_at "sd")))
local macro_rules | `(tactic| walk_at "rd") => `(tactic| repeat walk_at "s1")
namespace KR
open PySem PySem.Spec PyProof.Rows L2
section
variable {w : World} {K : PySem.W.Frag} {mg : Str → Option Value} {base : Heap} {D : Nat → FuncData}
/-- drawn settings -/
structure Prt where
  lens : List Int
  size : Int
  fan : Int
  rec_ : Int
  every : Int
  keep : Int
structure Prt.Ok (p : Prt) : Prop where
  l0 : 0 < p.lens.length
  l1 : p.lens.length ≤ 6
  le : ∀ x ∈ p.lens, 1 ≤ x ∧ x ≤ p.size
  s0 : 1 ≤ p.size
  s1 : p.size ≤ 64
  f : 2 ≤ p.fan ∧ p.fan ≤ 8
  r : 1 ≤ p.rec_ ∧ p.rec_ ≤ 16
  e : 1 ≤ p.every ∧ p.every ≤ 40
  k : 1 ≤ p.keep ∧ p.keep ≤ 100
@[irreducible] def sp_is_integer : Sp := fun vs H Q _ => ∃ i : Int, vs = [.int i] ∧ Q (.bl true) H
theorem use_isint {i : Int} {H : Hp} {Q : VK} {E : XK} (q : Q (.bl true) H) : sp_is_integer [.int i] H Q E := by unfold sp_is_integer; exact ⟨i, rfl, q⟩
theorem b_is_integer {K : PySem.W.Frag} {fd : FuncData} (F : F_is_integer K fd) : Binds K fd P_is_integer [] := FunD.bindsN F fun _ _ _ _ _ _ us hl => match us, hl with | [_], _ => rfl
theorem ok_is_integer (T : Txt K mg D) : FnOk P w K mg base CX0 1 (He.fAd K ("is_integer", none)) (D D_is_integer) P_is_integer sp_is_integer := by
  refine T.d_is_integer.ok sc_is_integer (fun vs H Q E h => ?_) (fun cdv A outer s H vs Q E hr h => ?_)
  · unfold sp_is_integer at h
    first | (obtain ⟨rfl, _⟩ := h; rfl) | (obtain ⟨_, rfl, _⟩ := h; rfl) | (obtain ⟨_, _, rfl, _⟩ := h; rfl) | (obtain ⟨_, _, _, rfl, _⟩ := h; rfl) | (obtain ⟨_, _, _, _, rfl, _⟩ := h; rfl) | (obtain ⟨_, _, _, _, _, rfl, _⟩ := h; rfl) | (obtain ⟨_, _, _, _, _, _, rfl, _⟩ := h; rfl) | (obtain ⟨_, _, _, _, _, _, _, rfl, _⟩ := h; rfl) | (obtain ⟨_, _, _, _, _, _, _, _, rfl, _⟩ := h; rfl) | (obtain ⟨_, _, _, _, _, _, _, _, _, rfl, _⟩ := h; rfl) | (obtain ⟨_, _, _, _, _, _, _, _, _, _, rfl, _⟩ := h; rfl) | (obtain ⟨_, _, _, _, _, _, _, _, _, _, _, rfl, _⟩ := h; rfl)
  · refine ⟨_, PSs.nox (pss_one (ps_ret (pe_and (pe_callB (call_isiK2 (K := K)) (by rfl) T.n_isinstance (by decide +kernel) (pa_cons (pv 0) (pa_cons (pe_bltn (by rfl) T.n_int (by decide +kernel) (v := .ty "int") rfl) pa_nil))) (pe_one (pe_not (pe_callB (call_isiK2 (K := K)) (by rfl) T.n_isinstance (by decide +kernel) (pa_cons (pv 0) (pa_cons (pe_bltn (by rfl) T.n_bool (by decide +kernel) (v := .ty "bool") rfl) pa_nil)))))))), ?_⟩
    unfold sp_is_integer at h
    obtain ⟨i, rfl, q⟩ := h
    walk_at "rd"
    refine isi_int ?_
    walk_at "rd"
    refine isi_bool ?_
    walk_at "rd"
    exact q

@[irreducible] def sp_is_between : Sp := fun vs H Q _ => ∃ i lo hi : Int, vs = [.int i, .int lo, .int hi] ∧ Q (.bl (decide (lo ≤ i ∧ i ≤ hi))) H
theorem use_between {i lo hi : Int} {H : Hp} {Q : VK} {E : XK} (q : Q (.bl (decide (lo ≤ i ∧ i ≤ hi))) H) : sp_is_between [.int i, .int lo, .int hi] H Q E := by unfold sp_is_between; exact ⟨i, lo, hi, rfl, q⟩
theorem b_is_between {K : PySem.W.Frag} {fd : FuncData} (F : F_is_between K fd) : Binds K fd P_is_between [] := FunD.bindsN F fun _ _ _ _ _ _ us hl => match us, hl with | [_, _, _], _ => rfl
theorem ok_is_between (T : Txt K mg D) : FnOk P w K mg base CX0 2 (He.fAd K ("is_between", none)) (D D_is_between) P_is_between sp_is_between := by
  refine T.d_is_between.ok sc_is_between (fun vs H Q E h => ?_) (fun cdv A outer s H vs Q E hr h => ?_)
  · unfold sp_is_between at h
    first | (obtain ⟨rfl, _⟩ := h; rfl) | (obtain ⟨_, rfl, _⟩ := h; rfl) | (obtain ⟨_, _, rfl, _⟩ := h; rfl) | (obtain ⟨_, _, _, rfl, _⟩ := h; rfl) | (obtain ⟨_, _, _, _, rfl, _⟩ := h; rfl) | (obtain ⟨_, _, _, _, _, rfl, _⟩ := h; rfl) | (obtain ⟨_, _, _, _, _, _, rfl, _⟩ := h; rfl) | (obtain ⟨_, _, _, _, _, _, _, rfl, _⟩ := h; rfl) | (obtain ⟨_, _, _, _, _, _, _, _, rfl, _⟩ := h; rfl) | (obtain ⟨_, _, _, _, _, _, _, _, _, rfl, _⟩ := h; rfl) | (obtain ⟨_, _, _, _, _, _, _, _, _, _, rfl, _⟩ := h; rfl) | (obtain ⟨_, _, _, _, _, _, _, _, _, _, _, rfl, _⟩ := h; rfl)
  · refine ⟨_, PSs.nox (pss_one (ps_ret (pe_and (pe_call (ok_is_integer T) (hr.mono (by decide)) rfl T.g_is_integer T.d_is_integer.kp (b_is_integer T.d_is_integer) .nil pass0 (pa_cons (pv 0) pa_nil)) (pe_one (pe_chain op_le op_le (pv 1) (pv 0) (pv 2)))))), ?_⟩
    unfold sp_is_between at h
    obtain ⟨i, lo, hi, rfl, q⟩ := h
    walk_at "rd"
    refine use_isint ?_
    walk_at "rd"
    refine iteB (fun c => ?_) (fun c => ?_)
    · have c := of_decide_eq_true c
      walk_at "rd"
      have e : decide (i ≤ hi) = decide (lo ≤ i ∧ i ≤ hi) := by simp [c]
      show Q (.bl (decide (i ≤ hi))) H
      rw [e]
      exact q
    · have c := of_decide_eq_false c
      have e : false = decide (lo ≤ i ∧ i ≤ hi) := by simp [c]
      show Q (.bl false) H
      rw [e]
      exact q

@[irreducible] def sp_check_part : Sp := fun vs H Q _ => ∃ (x : Str) (i lo hi : Int), vs = [.str x, .int i, .int lo, .int hi] ∧ (lo ≤ i ∧ i ≤ hi) ∧ Q .non H
theorem use_check_part {x : Str} {i lo hi : Int} {H : Hp} {Q : VK} {E : XK} (h : lo ≤ i ∧ i ≤ hi) (q : Q .non H) : sp_check_part [.str x, .int i, .int lo, .int hi] H Q E := by unfold sp_check_part; exact ⟨x, i, lo, hi, rfl, h, q⟩
theorem b_check_part {K : PySem.W.Frag} {fd : FuncData} (F : F_check_part K fd) : Binds K fd P_check_part [] := FunD.bindsN F fun _ _ _ _ _ _ us hl => match us, hl with | [_, _, _, _], _ => rfl
theorem ok_check_part (T : Txt K mg D) : FnOk P w K mg base CX0 3 (He.fAd K ("check_part", none)) (D D_check_part) P_check_part sp_check_part := by
  refine T.d_check_part.ok sc_check_part (fun vs H Q E h => ?_) (fun cdv A outer s H vs Q E hr h => ?_)
  · unfold sp_check_part at h
    first | (obtain ⟨rfl, _⟩ := h; rfl) | (obtain ⟨_, rfl, _⟩ := h; rfl) | (obtain ⟨_, _, rfl, _⟩ := h; rfl) | (obtain ⟨_, _, _, rfl, _⟩ := h; rfl) | (obtain ⟨_, _, _, _, rfl, _⟩ := h; rfl) | (obtain ⟨_, _, _, _, _, rfl, _⟩ := h; rfl) | (obtain ⟨_, _, _, _, _, _, rfl, _⟩ := h; rfl) | (obtain ⟨_, _, _, _, _, _, _, rfl, _⟩ := h; rfl) | (obtain ⟨_, _, _, _, _, _, _, _, rfl, _⟩ := h; rfl) | (obtain ⟨_, _, _, _, _, _, _, _, _, rfl, _⟩ := h; rfl) | (obtain ⟨_, _, _, _, _, _, _, _, _, _, rfl, _⟩ := h; rfl) | (obtain ⟨_, _, _, _, _, _, _, _, _, _, _, rfl, _⟩ := h; rfl)
  · refine ⟨_, PSs.nox (pss_one (ps_if (pt_not (pt_val (pe_call (ok_is_between T) (hr.mono (by decide)) rfl T.g_is_between T.d_is_between.kp (b_is_between T.d_is_between) .nil pass0 (pa_cons (pv 1) (pa_cons (pv 2) (pa_cons (pv 3) pa_nil)))))) (pss_one ps_never) pss_nil)), ?_⟩
    unfold sp_check_part at h
    obtain ⟨x, i, lo, hi, rfl, h, q⟩ := h
    walk_at "rd"
    refine use_between ?_
    rw [decide_eq_true h]
    walk_at "rd"
    exact q

/-- settings stand at a -/
def SetAt (K : PySem.W.Frag) (H : Hp) (a : Addr) (p : Prt) : Prop := ∃ dx t, H a = some (.ins (He.ga K "Settings") dx [("lengths", .ref t), ("size", .int p.size), ("fanout", .int p.fan), ("records", .int p.rec_), ("every", .int p.every), ("keep", .int p.keep)]) ∧ H t = some (.tup (p.lens.map V.int))
theorem SetAt.same {K : PySem.W.Frag} {H H' : Hp} {a : Addr} {p : Prt} (h : SetAt K H a p) (s : Same H H') : SetAt K H' a p := let ⟨dx, l, h1, h2⟩ := h; ⟨dx, l, s _ _ h1, s _ _ h2⟩
@[irreducible] def sp_Settings_init (K : PySem.W.Frag) : Sp := fun vs H Q _ => ∃ (a dx l : Addr) (p : Prt), vs = [.ref a, .ref l, .int p.size, .int p.fan, .int p.rec_, .int p.every, .int p.keep] ∧
  H a = some (.ins (He.ga K "Settings") dx []) ∧ H l = some (.lst (p.lens.map V.int)) ∧ p.Ok ∧ ∀ H', SB a H H' → SetAt K H' a p → Q .non H'
theorem use_set_init {K : PySem.W.Frag} {a dx l : Addr} {p : Prt} {H : Hp} {Q : VK} {E : XK} (ha : H a = some (.ins (He.ga K "Settings") dx [])) (hl : H l = some (.lst (p.lens.map V.int))) (ok : p.Ok) (k : ∀ H', SB a H H' → SetAt K H' a p → Q .non H') :
  sp_Settings_init K [.ref a, .ref l, .int p.size, .int p.fan, .int p.rec_, .int p.every, .int p.keep] H Q E := by unfold sp_Settings_init; exact ⟨a, dx, l, p, rfl, ha, hl, ok, k⟩
theorem b_Settings___init__ {K : PySem.W.Frag} {fd : FuncData} (F : F_Settings___init__ K fd) : KBn K fd P_Settings___init__ 3 ["fanout", "records", "every", "keep"] (fun us ws => us ++ ws) (fun vs zs => vs ++ zs) := kb_app F 3 ["fanout", "records", "every", "keep"] fun _ _ _ _ _ _ us ws h1 h2 => match us, ws, h1, h2 with | [_, _, _], [_, _, _, _], _, _ => rfl
theorem ok_Settings___init__ (T : Txt K mg D) : FnOk P w K mg base CX0 4 (He.fAd K ("Settings", some "__init__")) (D D_Settings___init__) P_Settings___init__ (sp_Settings_init K) := by
  refine T.d_Settings___init__.ok sc_Settings___init__ (fun vs H Q E h => ?_) (fun cdv A outer s H vs Q E hr h => ?_)
  · unfold sp_Settings_init at h
    first | (obtain ⟨rfl, _⟩ := h; rfl) | (obtain ⟨_, rfl, _⟩ := h; rfl) | (obtain ⟨_, _, rfl, _⟩ := h; rfl) | (obtain ⟨_, _, _, rfl, _⟩ := h; rfl) | (obtain ⟨_, _, _, _, rfl, _⟩ := h; rfl) | (obtain ⟨_, _, _, _, _, rfl, _⟩ := h; rfl) | (obtain ⟨_, _, _, _, _, _, rfl, _⟩ := h; rfl) | (obtain ⟨_, _, _, _, _, _, _, rfl, _⟩ := h; rfl) | (obtain ⟨_, _, _, _, _, _, _, _, rfl, _⟩ := h; rfl) | (obtain ⟨_, _, _, _, _, _, _, _, _, rfl, _⟩ := h; rfl) | (obtain ⟨_, _, _, _, _, _, _, _, _, _, rfl, _⟩ := h; rfl) | (obtain ⟨_, _, _, _, _, _, _, _, _, _, _, rfl, _⟩ := h; rfl)
  · refine ⟨_, PSs.nox (pss_cons (ps_if (PW.pt (pw_or (pt_not (pt_val (pe_callB (call_isiK2 (K := K)) (by rfl) T.n_isinstance (by decide +kernel) (pa_cons (pv 1) (pa_cons (pe_bltn (by rfl) T.n_list (by decide +kernel) (v := .ty "list") rfl) pa_nil))))) (pw_or1 (pt_not (pt_chain op_le op_le pe_int (pe_callB (call_lenK (K := K)) (by rfl) T.n_len (by decide +kernel) (pa_cons (pv 1) pa_nil)) (pe_globi T.i_MOST_LENGTHS)))))) (pss_one ps_never) pss_nil)
      (pss_cons (ps_for PassesOwn.never rfl (pi_list (pv 1)) (pg_name (i := 7) sc_Settings___init__.nd rfl (Or.inl rfl)) (pss_one (ps_expr (pe_call (ok_check_part T) (hr.mono (by decide)) rfl T.g_check_part T.d_check_part.kp (b_check_part T.d_check_part) .nil pass0 (pa_cons pe_str (pa_cons (pv 7) (pa_cons pe_int (pa_cons (pe_globi T.i_MOST_SIZE) pa_nil))))))))
      (pss_cons (ps_expr (pe_call (ok_check_part T) (hr.mono (by decide)) rfl T.g_check_part T.d_check_part.kp (b_check_part T.d_check_part) .nil pass0 (pa_cons pe_str (pa_cons (pv 2) (pa_cons (pe_callB (cr_maxK (K := K) rfl) (by rfl) T.n_max (by decide +kernel) (pa_cons (pv 1) pa_nil)) (pa_cons (pe_globi T.i_MOST_SIZE) pa_nil))))))
      (pss_cons (ps_expr (pe_call (ok_check_part T) (hr.mono (by decide)) rfl T.g_check_part T.d_check_part.kp (b_check_part T.d_check_part) .nil pass0 (pa_cons pe_str (pa_cons (pv 3) (pa_cons pe_int (pa_cons (pe_globi T.i_MOST_FANOUT) pa_nil))))))
      (pss_cons (ps_expr (pe_call (ok_check_part T) (hr.mono (by decide)) rfl T.g_check_part T.d_check_part.kp (b_check_part T.d_check_part) .nil pass0 (pa_cons pe_str (pa_cons (pv 4) (pa_cons pe_int (pa_cons (pe_globi T.i_MOST_RECORDS) pa_nil))))))
      (pss_cons (ps_expr (pe_call (ok_check_part T) (hr.mono (by decide)) rfl T.g_check_part T.d_check_part.kp (b_check_part T.d_check_part) .nil pass0 (pa_cons pe_str (pa_cons (pv 5) (pa_cons pe_int (pa_cons (pe_globi T.i_MOST_EVERY) pa_nil))))))
      (pss_cons (ps_expr (pe_call (ok_check_part T) (hr.mono (by decide)) rfl T.g_check_part T.d_check_part.kp (b_check_part T.d_check_part) .nil pass0 (pa_cons pe_str (pa_cons (pv 6) (pa_cons pe_int (pa_cons (pe_globi T.i_MOST_KEEP) pa_nil))))))
      (pss_cons (ps_fld (pv 0) (pe_callTy (call_tupK (K := K)) (by rfl) T.n_tuple (by decide +kernel) (pa_cons (pv 1) pa_nil)) rfl)
      (pss_cons (ps_fld (pv 0) (pv 2) rfl)
      (pss_cons (ps_fld (pv 0) (pv 3) rfl)
      (pss_cons (ps_fld (pv 0) (pv 4) rfl)
      (pss_cons (ps_fld (pv 0) (pv 5) rfl)
      (pss_one (ps_fld (pv 0) (pv 6) rfl)))))))))))))), ?_⟩
    unfold sp_Settings_init at h
    obtain ⟨a, dx, l, p, rfl, ha, hl, ok, k⟩ := h
    walk_at "rd"
    refine isi_list hl ?_
    walk_at "rd"
    have l0 := ok.l0
    have l1 := ok.l1
    refine iteT_of (decide_eq_true (by rw [List.length_map]; omega)) ?_
    walk_at "rd"
    refine iteF_of (by rw [decide_eq_true (by rw [List.length_map]; omega)]; rfl) ?_
    walk_at "rd"
    refine for_list (xs := p.lens.map V.int) (fun i σ H' => H' = H ∧ ∃ v : Option V, σ = [some (.ref a), some (.ref l), some (.int p.size), some (.int p.fan), some (.int p.rec_), some (.int p.every), some (.int p.keep), v]) ⟨rfl, _, rfl⟩ ?_ ?_ ?_
    · rintro i σ H' _ ⟨rfl, _⟩
      exact SqL.of hl
    · rintro i x σ H' hx ⟨rfl, v, rfl⟩
      obtain ⟨z, hz, rfl⟩ := map_some hx
      have hb := ok.le z (List.mem_of_getElem? hz)
      have s1 := ok.s1
      walk_at "rd"
      refine use_check_part (by omega) ?_
      walk_at "rd"
      exact ⟨_, rfl⟩
    · rintro σ H' ⟨rfl, v, rfl⟩
      walk_at "rd"
      refine ⟨_, _, rfl, SqL.of hl, ok.l0, fun m hm _ => ?_⟩
      have hb := ok.le m hm
      have s1 := ok.s1
      walk_at "rd"
      refine use_check_part (by omega) ?_
      walk_at "rd"
      refine use_check_part ok.f ?_
      walk_at "rd"
      refine use_check_part ok.r ?_
      walk_at "rd"
      refine use_check_part ok.e ?_
      walk_at "rd"
      refine use_check_part ok.k ?_
      walk_at "rd"
      refine ⟨_, _, rfl, .inl ⟨SqL.of hl, ?_⟩⟩
      intro t n0
      generalize eG0 : upd _ t _ = G0
      obtain ⟨g0, ht⟩ := gen_new n0 eG0
      clear eG0
      have ha0 := g0 _ _ ha
      have nta : t ≠ a := (ne_of_none ha n0).symm
      walk_at "rd"
      generalize eG1 : upd _ _ _ = G1
      obtain ⟨g1, h1⟩ := gen_st eG1
      clear eG1
      try simp only [pf_Settings_0, pf_Settings_1, pf_Settings_2, pf_Settings_3, pf_Settings_4, pf_Settings_5, pf_Packing_0, pf_Packing_1, pf_Packing_2, pf_Packing_3, pf_Packing_4, pf_Packing_5, pf_Store_0, pf_Store_1, pf_Store_2, pf_Store_3, pf_Store_4, pf_Store_5, pf_Store_6, pf_Store_7, pf_Store_8, pf_Store_9, pf_Store_10, pf_Store_11, pf_Store_12, pu_Store_0, pu_Store_1, pu_Store_2, pu_Store_3, pu_Store_4, pu_Store_5, pu_Store_6, pu_Store_7, pu_Store_8, pu_Store_9, pu_Store_10, pu_Store_11, pu_Store_12] at h1
      walk_at "rd"
      generalize eG2 : upd _ _ _ = G2
      obtain ⟨g2, h2⟩ := gen_st eG2
      clear eG2
      try simp only [pf_Settings_0, pf_Settings_1, pf_Settings_2, pf_Settings_3, pf_Settings_4, pf_Settings_5, pf_Packing_0, pf_Packing_1, pf_Packing_2, pf_Packing_3, pf_Packing_4, pf_Packing_5, pf_Store_0, pf_Store_1, pf_Store_2, pf_Store_3, pf_Store_4, pf_Store_5, pf_Store_6, pf_Store_7, pf_Store_8, pf_Store_9, pf_Store_10, pf_Store_11, pf_Store_12, pu_Store_0, pu_Store_1, pu_Store_2, pu_Store_3, pu_Store_4, pu_Store_5, pu_Store_6, pu_Store_7, pu_Store_8, pu_Store_9, pu_Store_10, pu_Store_11, pu_Store_12] at h2
      walk_at "rd"
      generalize eG3 : upd _ _ _ = G3
      obtain ⟨g3, h3⟩ := gen_st eG3
      clear eG3
      try simp only [pf_Settings_0, pf_Settings_1, pf_Settings_2, pf_Settings_3, pf_Settings_4, pf_Settings_5, pf_Packing_0, pf_Packing_1, pf_Packing_2, pf_Packing_3, pf_Packing_4, pf_Packing_5, pf_Store_0, pf_Store_1, pf_Store_2, pf_Store_3, pf_Store_4, pf_Store_5, pf_Store_6, pf_Store_7, pf_Store_8, pf_Store_9, pf_Store_10, pf_Store_11, pf_Store_12, pu_Store_0, pu_Store_1, pu_Store_2, pu_Store_3, pu_Store_4, pu_Store_5, pu_Store_6, pu_Store_7, pu_Store_8, pu_Store_9, pu_Store_10, pu_Store_11, pu_Store_12] at h3
      walk_at "rd"
      generalize eG4 : upd _ _ _ = G4
      obtain ⟨g4, h4⟩ := gen_st eG4
      clear eG4
      try simp only [pf_Settings_0, pf_Settings_1, pf_Settings_2, pf_Settings_3, pf_Settings_4, pf_Settings_5, pf_Packing_0, pf_Packing_1, pf_Packing_2, pf_Packing_3, pf_Packing_4, pf_Packing_5, pf_Store_0, pf_Store_1, pf_Store_2, pf_Store_3, pf_Store_4, pf_Store_5, pf_Store_6, pf_Store_7, pf_Store_8, pf_Store_9, pf_Store_10, pf_Store_11, pf_Store_12, pu_Store_0, pu_Store_1, pu_Store_2, pu_Store_3, pu_Store_4, pu_Store_5, pu_Store_6, pu_Store_7, pu_Store_8, pu_Store_9, pu_Store_10, pu_Store_11, pu_Store_12] at h4
      walk_at "rd"
      generalize eG5 : upd _ _ _ = G5
      obtain ⟨g5, h5⟩ := gen_st eG5
      clear eG5
      try simp only [pf_Settings_0, pf_Settings_1, pf_Settings_2, pf_Settings_3, pf_Settings_4, pf_Settings_5, pf_Packing_0, pf_Packing_1, pf_Packing_2, pf_Packing_3, pf_Packing_4, pf_Packing_5, pf_Store_0, pf_Store_1, pf_Store_2, pf_Store_3, pf_Store_4, pf_Store_5, pf_Store_6, pf_Store_7, pf_Store_8, pf_Store_9, pf_Store_10, pf_Store_11, pf_Store_12, pu_Store_0, pu_Store_1, pu_Store_2, pu_Store_3, pu_Store_4, pu_Store_5, pu_Store_6, pu_Store_7, pu_Store_8, pu_Store_9, pu_Store_10, pu_Store_11, pu_Store_12] at h5
      walk_at "rd"
      generalize eG6 : upd _ _ _ = G6
      obtain ⟨g6, h6⟩ := gen_st eG6
      clear eG6
      try simp only [pf_Settings_0, pf_Settings_1, pf_Settings_2, pf_Settings_3, pf_Settings_4, pf_Settings_5, pf_Packing_0, pf_Packing_1, pf_Packing_2, pf_Packing_3, pf_Packing_4, pf_Packing_5, pf_Store_0, pf_Store_1, pf_Store_2, pf_Store_3, pf_Store_4, pf_Store_5, pf_Store_6, pf_Store_7, pf_Store_8, pf_Store_9, pf_Store_10, pf_Store_11, pf_Store_12, pu_Store_0, pu_Store_1, pu_Store_2, pu_Store_3, pu_Store_4, pu_Store_5, pu_Store_6, pu_Store_7, pu_Store_8, pu_Store_9, pu_Store_10, pu_Store_11, pu_Store_12] at h6
      refine k G6 ((((((g0.sb.trans g1).trans g2).trans g3).trans g4).trans g5).trans g6) ⟨dx, t, ?_, (((((g1.trans g2).trans g3).trans g4).trans g5).trans g6) _ _ nta ht⟩
      exact h6

/-! ### how rows stand on pages: the numbers -/
def lenAt (p : Prt) (r : Nat) : Int := p.lens.getD (r % p.lens.length) 0
def usum (p : Prt) (r : Nat) : Nat → Int
  | 0 => 0
  | k + 1 => usum p r k + lenAt p (r + k)
theorem lenAt_ok {p : Prt} (ok : p.Ok) (r : Nat) : 1 ≤ lenAt p r ∧ lenAt p r ≤ p.size := by
  have h : r % p.lens.length < p.lens.length := Nat.mod_lt _ ok.l0
  unfold lenAt
  rw [List.getD_eq_getElem?_getD, List.getElem?_eq_getElem h]
  exact ok.le _ (List.getElem_mem h)
theorem usum_ge {p : Prt} (ok : p.Ok) (r : Nat) : ∀ k : Nat, (k : Int) ≤ usum p r k
  | 0 => by simp [usum]
  | k + 1 => by
    have h := usum_ge ok r k
    have h2 := (lenAt_ok ok (r + k)).1
    simp only [usum]
    omega
theorem usum_mono {p : Prt} (ok : p.Ok) (r : Nat) {j k : Nat} (h : j ≤ k) : usum p r j ≤ usum p r k := by
  induction k with
  | zero => have : j = 0 := by omega
            subst this; exact Int.le_refl _
  | succ k ih =>
    by_cases e : j = k + 1
    · subst e; exact Int.le_refl _
    · have h2 := (lenAt_ok ok (r + k)).1
      have h3 := ih (by omega)
      simp only [usum]
      omega
/-- so many rows fit on a page that begins with row r -/
def Fits (p : Prt) (r k : Nat) : Prop := usum p r k ≤ p.size ∧ p.size < usum p r (k + 1)
theorem Fits.uniq {p : Prt} (ok : p.Ok) {r j k : Nat} (a : Fits p r j) (b : Fits p r k) : j = k := by
  by_cases h : j < k
  · have := usum_mono ok r (show j + 1 ≤ k by omega)
    have := a.2; have := b.1; omega
  · by_cases h2 : k < j
    · have := usum_mono ok r (show k + 1 ≤ j by omega)
      have := b.2; have := a.1; omega
    · omega
theorem Fits.le {p : Prt} (ok : p.Ok) {r k : Nat} (a : Fits p r k) : k ≤ 64 := by
  have h1 := usum_ge ok r k
  have h2 := a.1
  have h3 := ok.s1
  omega
theorem Fits.pos {p : Prt} (ok : p.Ok) {r k : Nat} (a : Fits p r k) : 1 ≤ k := by
  match k, a with
  | 0, a =>
    have h := a.2
    simp only [usum] at h
    have := (lenAt_ok ok (r + 0)).2
    omega
  | k + 1, _ => omega
theorem fits_ex {p : Prt} (ok : p.Ok) (r : Nat) : ∃ k, Fits p r k := by
  have key : ∀ n : Nat, (∃ k, Fits p r k) ∨ usum p r n ≤ p.size := by
    intro n
    induction n with
    | zero => right; simp only [usum]; have := ok.s0; omega
    | succ n ih =>
      rcases ih with h | h
      · exact .inl h
      · by_cases e : usum p r (n + 1) ≤ p.size
        · exact .inr e
        · exact .inl ⟨n, h, by omega⟩
  rcases key 65 with h | h
  · exact h
  · have h1 := usum_ge ok r 65
    have h3 := ok.s1
    omega
/-- how many rows a page that begins with row r gets -/
noncomputable def rowsF (p : Prt) (r : Nat) : Nat := open Classical in if h : ∃ k, Fits p r k then h.choose else 1
theorem rowsF_ok {p : Prt} (ok : p.Ok) (r : Nat) : Fits p r (rowsF p r) := by
  unfold rowsF
  rw [dif_pos (fits_ex ok r)]
  exact (fits_ex ok r).choose_spec
theorem rowsF_eq {p : Prt} (ok : p.Ok) {r k : Nat} (h : Fits p r k) : rowsF p r = k := (rowsF_ok ok r).uniq ok h
theorem rowsF_le {p : Prt} (ok : p.Ok) (r : Nat) : rowsF p r ≤ 64 := (rowsF_ok ok r).le ok
theorem rowsF_pos {p : Prt} (ok : p.Ok) (r : Nat) : 1 ≤ rowsF p r := (rowsF_ok ok r).pos ok
theorem lenAt_mod {p : Prt} {r q : Nat} (h : r % p.lens.length = q % p.lens.length) (i : Nat) : lenAt p (r + i) = lenAt p (q + i) := by
  unfold lenAt
  rw [Nat.add_mod, h, ← Nat.add_mod]
theorem usum_mod {p : Prt} {r q : Nat} (h : r % p.lens.length = q % p.lens.length) : ∀ k, usum p r k = usum p q k
  | 0 => rfl
  | k + 1 => by simp only [usum]; rw [usum_mod h k, lenAt_mod h]
theorem rowsF_mod {p : Prt} (ok : p.Ok) {r q : Nat} (h : r % p.lens.length = q % p.lens.length) : rowsF p r = rowsF p q := by
  refine rowsF_eq ok ?_
  have := rowsF_ok ok q
  unfold Fits at this ⊢
  rw [usum_mod h, usum_mod h]
  exact this
/-- the first row of heap page n -/
noncomputable def startN (p : Prt) : Nat → Nat
  | 0 => 0
  | n + 1 => startN p n + rowsF p (startN p n)
/-! ### the cycle -/
theorem pigeon : ∀ (L n : Nat) (f : Nat → Nat), (∀ i, i < n → f i < L) → (∀ i j, i < j → j < n → f i ≠ f j) → n ≤ L
  | 0, n, f, h, _ => by
    match n with
    | 0 => exact Nat.le_refl 0
    | n + 1 => exact absurd (h 0 (by omega)) (by omega)
  | L + 1, 0, f, _, _ => Nat.zero_le _
  | L + 1, m + 1, f, h, inj => by
    have key := pigeon L m (fun i => if f i = L then f m else f i) (fun i hi => by
      have h1 := h i (by omega)
      have h2 := h m (by omega)
      have h3 := inj i m hi (by omega)
      show (if f i = L then f m else f i) < L
      split <;> omega) (fun i j hij hj => by
      have h3 := inj i j hij (by omega)
      have h4 := inj i m (by omega) (by omega)
      have h5 := inj j m hj (by omega)
      show (if f i = L then f m else f i) ≠ (if f j = L then f m else f j)
      split <;> split <;> omega)
    omega
noncomputable def resN (p : Prt) (n : Nat) : Nat := startN p n % p.lens.length
theorem resN_lt {p : Prt} (ok : p.Ok) (n : Nat) : resN p n < p.lens.length := Nat.mod_lt _ ok.l0
structure Cyc (p : Prt) (first pages : Nat) : Prop where
  pos : 0 < pages
  eq : resN p (first + pages) = resN p first
  inj : ∀ i j, i < j → j < first + pages → resN p i ≠ resN p j
theorem Cyc.le {p : Prt} (ok : p.Ok) {first pages : Nat} (c : Cyc p first pages) : first + pages ≤ 6 :=
  Nat.le_trans (pigeon p.lens.length (first + pages) (resN p) (fun i _ => resN_lt ok i) c.inj) ok.l1
noncomputable def stL (p : Prt) (n : Nat) : List V := (List.range (n + 1)).map fun j => V.int (startN p j)
theorem stL_succ (p : Prt) (n : Nat) : stL p (n + 1) = stL p n ++ [.int (startN p (n + 1))] := by
  unfold stL
  rw [List.range_succ, List.map_append]
  rfl
theorem stL_len (p : Prt) (n : Nat) : (stL p n).length = n + 1 := by unfold stL; rw [List.length_map, List.length_range]
theorem stL_get (p : Prt) {n j : Nat} (h : j ≤ n) : (stL p n)[j]? = some (.int (startN p j)) := by
  unfold stL
  rw [List.getElem?_map, List.getElem?_range (by omega)]
  rfl
theorem stL_last (p : Prt) (n : Nat) : atI (stL p n) (-1) = some (.int (startN p n)) := by
  match n with
  | 0 => exact atI_last [] _
  | n + 1 => rw [stL_succ]; exact atI_last _ _
/-- what the seen places' dict holds -/
def Seen (p : Prt) (n : Nat) (kvs : List (Key × V)) : Prop := kvs.length ≤ n ∧ (∀ j, j < n → valV kvs (.inl (resN p j : Int)) = some (.int j)) ∧ ∀ k : Int, valV kvs (.inl k) ≠ none → ∃ j, j < n ∧ k = (resN p j : Int)
theorem Seen.put {p : Prt} {n : Nat} {kvs : List (Key × V)} (s : Seen p n kvs) (h : valV kvs (.inl (resN p n : Int)) = none) : Seen p (n + 1) (putK kvs (.inl (resN p n : Int)) (.int n)) := by
  obtain ⟨s1, s2, s3⟩ := s
  refine ⟨Nat.le_trans (length_putK _ _ _) (by omega), fun j hj => ?_, fun k hk => ?_⟩
  · rw [valV_put]
    by_cases e : (Sum.inl (resN p j : Int) : Key) = Sum.inl (resN p n : Int)
    · rw [if_pos e]
      by_cases hjn : j = n
      · subst hjn; rfl
      · have := s2 j (by omega)
        rw [e, h] at this
        cases this
    · rw [if_neg e]
      have hjn : j ≠ n := fun z => e (by rw [z])
      exact s2 j (by omega)
  · rw [valV_put] at hk
    by_cases e : (Sum.inl k : Key) = Sum.inl (resN p n : Int)
    · exact ⟨n, by omega, Sum.inl.inj e⟩
    · rw [if_neg e] at hk
      obtain ⟨j, hj, ej⟩ := s3 k hk
      exact ⟨j, by omega, ej⟩
theorem at_len {p : Prt} (ok : p.Ok) (r : Nat) : atI (p.lens.map V.int) ((r : Int) % ((p.lens.map V.int).length : Int)) = some (.int (lenAt p r)) := by
  have hlt : r % p.lens.length < p.lens.length := Nat.mod_lt _ ok.l0
  refine atI_int (j := r % p.lens.length) ?_ ?_
  · rw [List.length_map]
    exact (Int.natCast_emod r p.lens.length).symm
  · rw [List.getElem?_map, List.getElem?_eq_getElem hlt]
    unfold lenAt
    rw [List.getD_eq_getElem?_getD, List.getElem?_eq_getElem hlt]
    rfl
theorem mlen0 {p : Prt} (ok : p.Ok) : (0 : Int) < ((p.lens.map V.int).length : Int) := by rw [List.length_map]; have := ok.l0; omega
theorem res_step {p : Prt} (ok : p.Ok) {i j : Nat} (h : resN p i = resN p j) : resN p (i + 1) = resN p (j + 1) := by
  unfold resN at h ⊢
  simp only [startN]
  rw [rowsF_mod ok h, Nat.add_mod, h, ← Nat.add_mod]
theorem res_add {p : Prt} (ok : p.Ok) {i j : Nat} (h : resN p i = resN p j) : ∀ k, resN p (i + k) = resN p (j + k)
  | 0 => h
  | k + 1 => res_step ok (res_add ok h k)
theorem Cyc.per {p : Prt} (ok : p.Ok) {first pages : Nat} (c : Cyc p first pages) {n : Nat} (h : first ≤ n) : resN p (n + pages) = resN p n := by
  have e := res_add ok c.eq (n - first)
  have e1 : first + pages + (n - first) = n + pages := by omega
  have e2 : first + (n - first) = n := by omega
  rw [e1, e2] at e
  exact e
theorem Cyc.red {p : Prt} (ok : p.Ok) {first pages : Nat} (c : Cyc p first pages) : ∀ n, first ≤ n → ∃ r, first ≤ r ∧ r < first + pages ∧ resN p n = resN p r := by
  intro n
  induction n using Nat.strongRecOn with
  | ind n ih =>
    intro h
    by_cases hl : n < first + pages
    · exact ⟨n, h, hl, rfl⟩
    · have hp := c.pos
      obtain ⟨r, h1, h2, h3⟩ := ih (n - pages) (by omega) (by omega)
      refine ⟨r, h1, h2, ?_⟩
      have := c.per ok (n := n - pages) (by omega)
      rw [show n - pages + pages = n by omega] at this
      rw [this, h3]
theorem Cyc.before {p : Prt} (ok : p.Ok) {first pages : Nat} (c : Cyc p first pages) {f g : Nat} (h : f < first) (hg : 1 ≤ g) : resN p f ≠ resN p (f + g) := by
  by_cases hl : f + g < first + pages
  · exact c.inj f (f + g) (by omega) hl
  · obtain ⟨r, h1, h2, h3⟩ := c.red ok (f + g) (by have := c.pos; omega)
    rw [h3]
    exact c.inj f r (by omega) h2
theorem Cyc.less {p : Prt} {first pages : Nat} (c : Cyc p first pages) {g : Nat} (hg : 1 ≤ g) (h : g < pages) : resN p first ≠ resN p (first + g) := c.inj _ _ (by omega) (by omega)
/-! ### far pages -/
theorem start_lt {p : Prt} (ok : p.Ok) (n : Nat) : startN p n < startN p (n + 1) := by
  have := rowsF_pos ok (startN p n)
  simp only [startN]
  omega
theorem start_mono {p : Prt} (ok : p.Ok) {m n : Nat} (h : m ≤ n) : startN p m ≤ startN p n := by
  induction n with
  | zero => have : m = 0 := by omega
            subst this; exact Nat.le_refl _
  | succ n ih =>
    by_cases e : m = n + 1
    · subst e; exact Nat.le_refl _
    · exact Nat.le_trans (ih (by omega)) (Nat.le_of_lt (start_lt ok n))
theorem start_ge {p : Prt} (ok : p.Ok) : ∀ n : Nat, n ≤ startN p n
  | 0 => Nat.zero_le _
  | n + 1 => by have := start_ge ok n; have := start_lt ok n; omega
noncomputable def rowsC (p : Prt) (first pages : Nat) : Nat := startN p (first + pages) - startN p first
theorem rowsC_pos {p : Prt} (ok : p.Ok) {first pages : Nat} (c : Cyc p first pages) : 0 < rowsC p first pages := by
  have h1 := start_lt ok first
  have h2 := start_mono ok (show first + 1 ≤ first + pages by have := c.pos; omega)
  unfold rowsC
  omega
theorem start_le {p : Prt} (ok : p.Ok) : ∀ n, startN p n ≤ 64 * n
  | 0 => Nat.le_refl _
  | n + 1 => by have := start_le ok n; have := rowsF_le ok (startN p n); simp only [startN]; omega
theorem rowsC_le {p : Prt} (ok : p.Ok) {first pages : Nat} (c : Cyc p first pages) : rowsC p first pages ≤ 384 := by
  have h1 := start_le ok (first + pages)
  have h2 := c.le ok
  unfold rowsC
  omega
theorem start_per {p : Prt} (ok : p.Ok) {first pages : Nat} (c : Cyc p first pages) {n : Nat} (h : first ≤ n) : startN p (n + pages) = startN p n + rowsC p first pages := by
  have key : ∀ k, startN p (first + k + pages) = startN p (first + k) + rowsC p first pages := by
    intro k
    induction k with
    | zero =>
      have := start_mono ok (show first ≤ first + pages by omega)
      show startN p (first + pages) = startN p first + (startN p (first + pages) - startN p first)
      omega
    | succ k ih =>
      have e : rowsF p (startN p (first + k + pages)) = rowsF p (startN p (first + k)) := rowsF_mod ok (c.per ok (n := first + k) (by omega))
      have e1 : first + (k + 1) + pages = (first + k + pages) + 1 := by omega
      rw [e1]
      simp only [startN]
      rw [e, ih]
      show startN p (first + k) + rowsC p first pages + rowsF p (startN p (first + k)) = startN p (first + k) + rowsF p (startN p (first + k)) + rowsC p first pages
      omega
  have := key (n - first)
  rw [show first + (n - first) = n by omega] at this
  exact this
theorem start_times {p : Prt} (ok : p.Ok) {first pages : Nat} (c : Cyc p first pages) {n : Nat} (h : first ≤ n) : ∀ t, startN p (n + t * pages) = startN p n + t * rowsC p first pages
  | 0 => by simp
  | t + 1 => by
    have e : n + (t + 1) * pages = n + t * pages + pages := by rw [Nat.succ_mul]; omega
    rw [e, start_per ok c (by omega), start_times ok c h t, Nat.succ_mul]
    omega
/-- row r stands on page n -/
def On (p : Prt) (r n : Nat) : Prop := startN p n ≤ r ∧ r < startN p (n + 1)
theorem On.uniq {p : Prt} (ok : p.Ok) {r m n : Nat} (a : On p r m) (b : On p r n) : m = n := by
  by_cases h : m < n
  · have := start_mono ok (show m + 1 ≤ n by omega)
    have := a.2; have := b.1; omega
  · by_cases h2 : n < m
    · have := start_mono ok (show n + 1 ≤ m by omega)
      have := b.2; have := a.1; omega
    · omega
theorem On.le {p : Prt} (ok : p.Ok) {r n : Nat} (a : On p r n) : n ≤ r := Nat.le_trans (start_ge ok n) a.1
def pkMeths : List Str := ["length", "rows_from", "start", "holder", "check_page", "units_of", "first_row", "page_of", "rows_on", "units_on", "units_left", "begun", "cycle"]
/-- a Packing, as far as its first fields go -/
structure PkB (K : PySem.W.Frag) (H : Hp) (a : Addr) (p : Prt) (dx : Addr) (fs : List (Str × V)) (t : Addr) : Prop where
  h : H a = some (.ins (He.ga K "Packing") dx fs)
  l : fs.lookup ("row_lengths" : Str) = some (V.ref t)
  r : fs.lookup ("room" : Str) = some (V.int p.size)
  m : ∀ x ∈ pkMeths, fs.lookup x = none
  t : H t = some (.tup (p.lens.map V.int))
def PkBase (K : PySem.W.Frag) (H : Hp) (a : Addr) (p : Prt) : Prop := ∃ dx fs t, PkB K H a p dx fs t
theorem PkBase.same {K : PySem.W.Frag} {H H' : Hp} {a : Addr} {p : Prt} (h : PkBase K H a p) (s : Same H H') : PkBase K H' a p := let ⟨dx, fs, t, b⟩ := h; ⟨dx, fs, t, s _ _ b.h, b.l, b.r, b.m, s _ _ b.t⟩
@[irreducible] def sp_Packing_length (K : PySem.W.Frag) : Sp := fun vs H Q _ => ∃ (a : Addr) (p : Prt) (r : Nat), vs = [.ref a, .int r] ∧ PkBase K H a p ∧ p.Ok ∧ Q (.int (lenAt p r)) H
theorem use_length {K : PySem.W.Frag} {a : Addr} {p : Prt} {r : Nat} {H : Hp} {Q : VK} {E : XK} {i : Int} (hi : i = (r : Int)) (b : PkBase K H a p) (ok : p.Ok) (q : Q (.int (lenAt p r)) H) : sp_Packing_length K [.ref a, .int i] H Q E := by
  subst hi; unfold sp_Packing_length; exact ⟨a, p, r, rfl, b, ok, q⟩
theorem b_Packing_length {K : PySem.W.Frag} {fd : FuncData} (F : F_Packing_length K fd) : Binds K fd P_Packing_length [] := FunD.bindsN F fun _ _ _ _ _ _ us hl => match us, hl with | [_, _], _ => rfl
theorem ok_Packing_length (T : Txt K mg D) : FnOk P w K mg base CX0 1 (He.fAd K ("Packing", some "length")) (D D_Packing_length) P_Packing_length (sp_Packing_length K) := by
  refine T.d_Packing_length.ok sc_Packing_length (fun vs H Q E h => ?_) (fun cdv A outer s H vs Q E hr h => ?_)
  · unfold sp_Packing_length at h
    first | (obtain ⟨rfl, _⟩ := h; rfl) | (obtain ⟨_, rfl, _⟩ := h; rfl) | (obtain ⟨_, _, rfl, _⟩ := h; rfl) | (obtain ⟨_, _, _, rfl, _⟩ := h; rfl) | (obtain ⟨_, _, _, _, rfl, _⟩ := h; rfl) | (obtain ⟨_, _, _, _, _, rfl, _⟩ := h; rfl) | (obtain ⟨_, _, _, _, _, _, rfl, _⟩ := h; rfl) | (obtain ⟨_, _, _, _, _, _, _, rfl, _⟩ := h; rfl) | (obtain ⟨_, _, _, _, _, _, _, _, rfl, _⟩ := h; rfl) | (obtain ⟨_, _, _, _, _, _, _, _, _, rfl, _⟩ := h; rfl) | (obtain ⟨_, _, _, _, _, _, _, _, _, _, rfl, _⟩ := h; rfl) | (obtain ⟨_, _, _, _, _, _, _, _, _, _, _, rfl, _⟩ := h; rfl)
  · refine ⟨_, PSs.nox (pss_one (ps_ret (pe_ix (ix_tupK (K := K)) (pe_fldK (K := K) (pv 0) rfl) (pe_op op_mod (pv 1) (pe_callB (call_lenK (K := K)) (by rfl) T.n_len (by decide +kernel) (pa_cons (pe_fldK (K := K) (pv 0) rfl) pa_nil))) (fun _ _ => rfl)))), ?_⟩
    unfold sp_Packing_length at h
    obtain ⟨a, p, r, rfl, ⟨dx, fs, t, hb⟩, ok, q⟩ := h
    have h1 := hb.h
    have h2 := hb.l
    have h3 := hb.t
    have hl := ok.l0
    walk_at "rd"
    refine ⟨(by show (0 : Int) < ((p.lens.map V.int).length : Nat); rw [List.length_map]; omega), ?_⟩
    have hlt : r % p.lens.length < p.lens.length := Nat.mod_lt _ hl
    refine ⟨_, _, _, .int (lenAt p r), rfl, rfl, SqT.of h3, atI_int (j := r % p.lens.length) ?_ ?_, q⟩
    · rw [List.length_map]
      exact (Int.natCast_emod r p.lens.length).symm
    · rw [List.getElem?_map, List.getElem?_eq_getElem hlt]
      unfold lenAt
      rw [List.getD_eq_getElem?_getD, List.getElem?_eq_getElem hlt]
      rfl

@[irreducible] def sp_Packing_rows_from (K : PySem.W.Frag) : Sp := fun vs H Q _ => ∃ (a : Addr) (p : Prt) (r : Nat), vs = [.ref a, .int r] ∧ PkBase K H a p ∧ p.Ok ∧ ∀ H', Same H H' → Q (.int (rowsF p r)) H'
theorem use_rows_from {K : PySem.W.Frag} {a : Addr} {p : Prt} {r : Nat} {H : Hp} {Q : VK} {E : XK} {i : Int} (hi : i = (r : Int)) (b : PkBase K H a p) (ok : p.Ok) (q : ∀ H', Same H H' → Q (.int (rowsF p r)) H') : sp_Packing_rows_from K [.ref a, .int i] H Q E := by
  subst hi; unfold sp_Packing_rows_from; exact ⟨a, p, r, rfl, b, ok, q⟩
theorem b_Packing_rows_from {K : PySem.W.Frag} {fd : FuncData} (F : F_Packing_rows_from K fd) : Binds K fd P_Packing_rows_from [] := FunD.bindsN F fun _ _ _ _ _ _ us hl => match us, hl with | [_, _], _ => rfl
theorem ok_Packing_rows_from (T : Txt K mg D) : FnOk P w K mg base CX0 2 (He.fAd K ("Packing", some "rows_from")) (D D_Packing_rows_from) P_Packing_rows_from (sp_Packing_rows_from K) := by
  refine T.d_Packing_rows_from.ok sc_Packing_rows_from (fun vs H Q E h => ?_) (fun cdv A outer s H vs Q E hr h => ?_)
  · unfold sp_Packing_rows_from at h
    first | (obtain ⟨rfl, _⟩ := h; rfl) | (obtain ⟨_, rfl, _⟩ := h; rfl) | (obtain ⟨_, _, rfl, _⟩ := h; rfl) | (obtain ⟨_, _, _, rfl, _⟩ := h; rfl) | (obtain ⟨_, _, _, _, rfl, _⟩ := h; rfl) | (obtain ⟨_, _, _, _, _, rfl, _⟩ := h; rfl) | (obtain ⟨_, _, _, _, _, _, rfl, _⟩ := h; rfl) | (obtain ⟨_, _, _, _, _, _, _, rfl, _⟩ := h; rfl) | (obtain ⟨_, _, _, _, _, _, _, _, rfl, _⟩ := h; rfl) | (obtain ⟨_, _, _, _, _, _, _, _, _, rfl, _⟩ := h; rfl) | (obtain ⟨_, _, _, _, _, _, _, _, _, _, rfl, _⟩ := h; rfl) | (obtain ⟨_, _, _, _, _, _, _, _, _, _, _, rfl, _⟩ := h; rfl)
  · refine ⟨_, PSs.nox (pss_cons (ps_asg (pe_tup (pa_cons pe_int (pa_cons pe_int pa_nil))) (pg_tup rfl (pgs_cons (pg_name (i := 2) sc_Packing_rows_from.nd rfl (Or.inl rfl)) (pgs_cons (pg_name (i := 3) sc_Packing_rows_from.nd rfl (Or.inl rfl)) pgs_nil))))
      (pss_cons (ps_while PassesOwn.never (pt_cmpR op_le (pe_op op_add (pv 3) (pe_meth (pv 0) T.c_Packing T.m_Packing_length (ok_Packing_length T) (hr.mono (by decide)) (b_Packing_length T.d_Packing_length) .nil pass0 (pa_cons (pe_op op_add (pv 1) (pv 2)) pa_nil))) (pe_fldK (K := K) (pv 0) rfl) (nomark _)) (pss_cons (ps_aug (i := 3) sc_Packing_rows_from.nd rfl (Or.inl rfl) (pe_meth (pv 0) T.c_Packing T.m_Packing_length (ok_Packing_length T) (hr.mono (by decide)) (b_Packing_length T.d_Packing_length) .nil pass0 (pa_cons (pe_op op_add (pv 1) (pv 2)) pa_nil)) ip_add)
      (pss_one (ps_aug (i := 2) sc_Packing_rows_from.nd rfl (Or.inl rfl) pe_int ip_add))))
      (pss_one (ps_ret (pv 2))))), ?_⟩
    unfold sp_Packing_rows_from at h
    obtain ⟨a, p, r, rfl, b, ok, q⟩ := h
    obtain ⟨dx, fs, t, hb⟩ := id b
    have h1 := hb.h
    have h2 := hb.r
    have h3 := hb.m "length" (by decide)
    walk_at "rd"
    intro t0 n0
    generalize eH0 : upd _ t0 _ = H0
    obtain ⟨s0, ht0⟩ := gen_new n0 eH0
    clear eH0
    have h1 := s0 _ _ h1
    have b := b.same s0
    have q : Q (.int (rowsF p r)) H0 := q H0 s0
    walk_at "rd"
    refine ⟨fun m σ H' => ∃ k : Nat, H' = H0 ∧ σ = [some (.ref a), some (.int r), some (.int k), some (.int (usum p r k))] ∧ usum p r k ≤ p.size ∧ m = 65 - k, ⟨65, 0, rfl, rfl, by simp only [usum]; have := ok.s0; omega, rfl⟩, ?_⟩
    rintro m σ H' ⟨k, rfl, rfl, hk, rfl⟩
    walk_at "rd"
    refine use_length (r := r + k) (by omega) b ok ?_
    walk_at "rd"
    refine iteB (fun c => ?_) (fun c => ?_)
    · have c := of_decide_eq_true c
      have hk2 : usum p r (k + 1) ≤ p.size := c
      have hk3 := usum_ge ok r (k + 1)
      have hs := ok.s1
      refine ⟨fun σ' H'' => ∃ m', m' < 65 - k ∧ ∃ k : Nat, H'' = H' ∧ σ' = [some (.ref a), some (.int r), some (.int k), some (.int (usum p r k))] ∧ usum p r k ≤ p.size ∧ m' = 65 - k, fun _ _ h => h, ?_⟩
      walk_at "rd"
      refine use_length (r := r + k) (by omega) b ok ?_
      walk_at "rd"
      exact ⟨65 - (k + 1), by omega, k + 1, rfl, rfl, hk2, rfl⟩
    · have c := of_decide_eq_false c
      walk_at "rd"
      have e : rowsF p r = k := rowsF_eq ok ⟨hk, by simp only [usum]; omega⟩
      rw [e] at q
      exact q

@[irreducible] def sp_check_settings (K : PySem.W.Frag) : Sp := fun vs H Q _ => ∃ (a dx : Addr) (fs : List (Str × V)), vs = [.ref a] ∧ H a = some (.ins (He.ga K "Settings") dx fs) ∧ Q .non H
theorem use_check_settings {K : PySem.W.Frag} {a dx : Addr} {fs : List (Str × V)} {H : Hp} {Q : VK} {E : XK} (h : H a = some (.ins (He.ga K "Settings") dx fs)) (q : Q .non H) : sp_check_settings K [.ref a] H Q E := by
  unfold sp_check_settings; exact ⟨a, dx, fs, rfl, h, q⟩
theorem b_check_settings {K : PySem.W.Frag} {fd : FuncData} (F : F_check_settings K fd) : Binds K fd P_check_settings [] := FunD.bindsN F fun _ _ _ _ _ _ us hl => match us, hl with | [_], _ => rfl
theorem ok_check_settings (T : Txt K mg D) : FnOk P w K mg base CX0 1 (He.fAd K ("check_settings", none)) (D D_check_settings) P_check_settings (sp_check_settings K) := by
  refine T.d_check_settings.ok sc_check_settings (fun vs H Q E h => ?_) (fun cdv A outer s H vs Q E hr h => ?_)
  · unfold sp_check_settings at h
    first | (obtain ⟨rfl, _⟩ := h; rfl) | (obtain ⟨_, rfl, _⟩ := h; rfl) | (obtain ⟨_, _, rfl, _⟩ := h; rfl) | (obtain ⟨_, _, _, rfl, _⟩ := h; rfl) | (obtain ⟨_, _, _, _, rfl, _⟩ := h; rfl) | (obtain ⟨_, _, _, _, _, rfl, _⟩ := h; rfl) | (obtain ⟨_, _, _, _, _, _, rfl, _⟩ := h; rfl) | (obtain ⟨_, _, _, _, _, _, _, rfl, _⟩ := h; rfl) | (obtain ⟨_, _, _, _, _, _, _, _, rfl, _⟩ := h; rfl) | (obtain ⟨_, _, _, _, _, _, _, _, _, rfl, _⟩ := h; rfl) | (obtain ⟨_, _, _, _, _, _, _, _, _, _, rfl, _⟩ := h; rfl) | (obtain ⟨_, _, _, _, _, _, _, _, _, _, _, rfl, _⟩ := h; rfl)
  · refine ⟨_, PSs.nox (pss_one (ps_if (pt_not (pt_val (pe_callB (call_isiK2 (K := K)) (by rfl) T.n_isinstance (by decide +kernel) (pa_cons (pv 0) (pa_cons (pe_glob (v := .ref (He.ga K "Settings")) rfl T.g_Settings rfl) pa_nil))))) (pss_one ps_never) pss_nil)), ?_⟩
    unfold sp_check_settings at h
    obtain ⟨a, dx, fs, rfl, ha, q⟩ := h
    walk_at "rd"
    refine isi_own ha T.c_Settings T.ic_Settings T.kk_Settings_Settings ?_
    walk_at "rd"
    exact q

/-- a whole Packing -/
def PkAt (K : PySem.W.Frag) (H : Hp) (a : Addr) (p : Prt) (first pages : Nat) : Prop := ∃ dx t l, H a = some (.ins (He.ga K "Packing") dx [("row_lengths", .ref t), ("room", .int p.size), ("starts", .ref l), ("first", .int first), ("pages", .int pages), ("rows", .int ((startN p (first + pages) : Int) - startN p first))]) ∧
  H t = some (.tup (p.lens.map V.int)) ∧ H l = some (.lst (stL p (first + pages)))
theorem PkAt.same {K : PySem.W.Frag} {H H' : Hp} {a : Addr} {p : Prt} {first pages : Nat} (h : PkAt K H a p first pages) (s : Same H H') : PkAt K H' a p first pages := let ⟨dx, t, l, h1, h2, h3⟩ := h; ⟨dx, t, l, s _ _ h1, s _ _ h2, s _ _ h3⟩
@[irreducible] def sp_Packing_init (K : PySem.W.Frag) : Sp := fun vs H Q _ => ∃ (a dx b : Addr) (p : Prt), vs = [.ref a, .ref b] ∧ H a = some (.ins (He.ga K "Packing") dx []) ∧ SetAt K H b p ∧ p.Ok ∧
  ∀ H' first pages, SB a H H' → Cyc p first pages → PkAt K H' a p first pages → (∀ s xs H'', H s = some (.lst xs) → SB s H' H'' → PkAt K H'' a p first pages) → Q .non H'
theorem use_packing_init {K : PySem.W.Frag} {a dx b : Addr} {p : Prt} {H : Hp} {Q : VK} {E : XK} (h : H a = some (.ins (He.ga K "Packing") dx [])) (hb : SetAt K H b p) (ok : p.Ok)
  (k : ∀ H' first pages, SB a H H' → Cyc p first pages → PkAt K H' a p first pages → (∀ s xs H'', H s = some (.lst xs) → SB s H' H'' → PkAt K H'' a p first pages) → Q .non H') : sp_Packing_init K [.ref a, .ref b] H Q E := by
  unfold sp_Packing_init; exact ⟨a, dx, b, p, rfl, h, hb, ok, k⟩
theorem b_Packing___init__ {K : PySem.W.Frag} {fd : FuncData} (F : F_Packing___init__ K fd) : Binds K fd P_Packing___init__ [] := FunD.bindsN F fun _ _ _ _ _ _ us hl => match us, hl with | [_, _], _ => rfl
theorem ok_Packing___init__ (T : Txt K mg D) : FnOk P w K mg base CX0 3 (He.fAd K ("Packing", some "__init__")) (D D_Packing___init__) P_Packing___init__ (sp_Packing_init K) := by
  refine T.d_Packing___init__.ok sc_Packing___init__ (fun vs H Q E h => ?_) (fun cdv A outer s H vs Q E hr h => ?_)
  · unfold sp_Packing_init at h
    first | (obtain ⟨rfl, _⟩ := h; rfl) | (obtain ⟨_, rfl, _⟩ := h; rfl) | (obtain ⟨_, _, rfl, _⟩ := h; rfl) | (obtain ⟨_, _, _, rfl, _⟩ := h; rfl) | (obtain ⟨_, _, _, _, rfl, _⟩ := h; rfl) | (obtain ⟨_, _, _, _, _, rfl, _⟩ := h; rfl) | (obtain ⟨_, _, _, _, _, _, rfl, _⟩ := h; rfl) | (obtain ⟨_, _, _, _, _, _, _, rfl, _⟩ := h; rfl) | (obtain ⟨_, _, _, _, _, _, _, _, rfl, _⟩ := h; rfl) | (obtain ⟨_, _, _, _, _, _, _, _, _, rfl, _⟩ := h; rfl) | (obtain ⟨_, _, _, _, _, _, _, _, _, _, rfl, _⟩ := h; rfl) | (obtain ⟨_, _, _, _, _, _, _, _, _, _, _, rfl, _⟩ := h; rfl)
  · refine ⟨_, PSs.nox (pss_cons (ps_expr (pe_call (ok_check_settings T) (hr.mono (by decide)) rfl T.g_check_settings T.d_check_settings.kp (b_check_settings T.d_check_settings) .nil pass0 (pa_cons (pv 1) pa_nil)))
      (pss_cons (ps_fld (pv 0) (pe_fldK (K := K) (pv 1) rfl) rfl)
      (pss_cons (ps_fld (pv 0) (pe_fldK (K := K) (pv 1) rfl) rfl)
      (pss_cons (ps_fld (pv 0) (pe_lst (pa_cons pe_int pa_nil)) rfl)
      (pss_cons (ps_set (i := 2) sc_Packing___init__.nd rfl (Or.inl rfl) pe_dnewK)
      (pss_cons (ps_while PassesOwn.never (pt_cmp (pc_dnotin (hu_of hr) (pe_op op_mod (pe_ix (ix_listK (K := K)) (pe_fldK (K := K) (pv 0) rfl) (pe_un un_neg pe_int) (fun _ _ => rfl)) (pe_callB (call_lenK (K := K)) (by rfl) T.n_len (by decide +kernel) (pa_cons (pe_fldK (K := K) (pv 0) rfl) pa_nil))) (pv 2))) (pss_cons (ps_dput (hu_of hr) (pv 2) (pe_op op_mod (pe_ix (ix_listK (K := K)) (pe_fldK (K := K) (pv 0) rfl) (pe_un un_neg pe_int) (fun _ _ => rfl)) (pe_callB (call_lenK (K := K)) (by rfl) T.n_len (by decide +kernel) (pa_cons (pe_fldK (K := K) (pv 0) rfl) pa_nil))) (pe_op op_sub (pe_callB (call_lenK (K := K)) (by rfl) T.n_len (by decide +kernel) (pa_cons (pe_fldK (K := K) (pv 0) rfl) pa_nil)) pe_int) rfl)
      (pss_one (ps_expr (pe_bm PySem.F.plainAttrs_list PySem.F.slot_list_append PySem.F.type_list_append mt_append (pe_fldK (K := K) (pv 0) rfl) (pa_cons (pe_op op_add (pe_ix (ix_listK (K := K)) (pe_fldK (K := K) (pv 0) rfl) (pe_un un_neg pe_int) (fun _ _ => rfl)) (pe_meth (pv 0) T.c_Packing T.m_Packing_rows_from (ok_Packing_rows_from T) (hr.mono (by decide)) (b_Packing_rows_from T.d_Packing_rows_from) .nil pass0 (pa_cons (pe_ix (ix_listK (K := K)) (pe_fldK (K := K) (pv 0) rfl) (pe_un un_neg pe_int) (fun _ _ => rfl)) pa_nil))) pa_nil))))))
      (pss_cons (ps_fld (pv 0) (pe_dget (hu_of hr) (pv 2) (pe_op op_mod (pe_ix (ix_listK (K := K)) (pe_fldK (K := K) (pv 0) rfl) (pe_un un_neg pe_int) (fun _ _ => rfl)) (pe_callB (call_lenK (K := K)) (by rfl) T.n_len (by decide +kernel) (pa_cons (pe_fldK (K := K) (pv 0) rfl) pa_nil))) (fun _ _ => rfl)) rfl)
      (pss_cons (ps_fld (pv 0) (pe_op op_sub (pe_op op_sub (pe_callB (call_lenK (K := K)) (by rfl) T.n_len (by decide +kernel) (pa_cons (pe_fldK (K := K) (pv 0) rfl) pa_nil)) pe_int) (pe_fldK (K := K) (pv 0) rfl)) rfl)
      (pss_one (ps_fld (pv 0) (pe_op op_sub (pe_ix (ix_listK (K := K)) (pe_fldK (K := K) (pv 0) rfl) (pe_un un_neg pe_int) (fun _ _ => rfl)) (pe_ix (ix_listK (K := K)) (pe_fldK (K := K) (pv 0) rfl) (pe_fldK (K := K) (pv 0) rfl) (fun _ _ => rfl))) rfl)))))))))), ?_⟩
    unfold sp_Packing_init at h
    obtain ⟨a, dx, b, p, rfl, ha, ⟨dy, t, hb, ht⟩, ok, k⟩ := h
    have l0 := ok.l0
    have l1 := ok.l1
    have nab : a ≠ b := ne_of ha hb (by intro z; injection z with _ _ z3; cases z3)
    have nat : t ≠ a := ne_of ht ha (by intro z; cases z)
    walk_at "rd"
    refine use_check_settings hb ?_
    walk_at "rd"
    generalize eG1 : upd _ _ _ = G1
    obtain ⟨g1, h1⟩ := gen_st eG1
    clear eG1
    try simp only [pf_Settings_0, pf_Settings_1, pf_Settings_2, pf_Settings_3, pf_Settings_4, pf_Settings_5, pf_Packing_0, pf_Packing_1, pf_Packing_2, pf_Packing_3, pf_Packing_4, pf_Packing_5, pf_Store_0, pf_Store_1, pf_Store_2, pf_Store_3, pf_Store_4, pf_Store_5, pf_Store_6, pf_Store_7, pf_Store_8, pf_Store_9, pf_Store_10, pf_Store_11, pf_Store_12, pu_Store_0, pu_Store_1, pu_Store_2, pu_Store_3, pu_Store_4, pu_Store_5, pu_Store_6, pu_Store_7, pu_Store_8, pu_Store_9, pu_Store_10, pu_Store_11, pu_Store_12] at h1
    have hb1 := g1 _ _ nab.symm hb
    walk_at "rd"
    generalize eG2 : upd _ _ _ = G2
    obtain ⟨g2, h2⟩ := gen_st eG2
    clear eG2
    try simp only [pf_Settings_0, pf_Settings_1, pf_Settings_2, pf_Settings_3, pf_Settings_4, pf_Settings_5, pf_Packing_0, pf_Packing_1, pf_Packing_2, pf_Packing_3, pf_Packing_4, pf_Packing_5, pf_Store_0, pf_Store_1, pf_Store_2, pf_Store_3, pf_Store_4, pf_Store_5, pf_Store_6, pf_Store_7, pf_Store_8, pf_Store_9, pf_Store_10, pf_Store_11, pf_Store_12, pu_Store_0, pu_Store_1, pu_Store_2, pu_Store_3, pu_Store_4, pu_Store_5, pu_Store_6, pu_Store_7, pu_Store_8, pu_Store_9, pu_Store_10, pu_Store_11, pu_Store_12] at h2
    walk_at "rd"
    intro l n3
    generalize eG3 : upd _ l _ = G3
    obtain ⟨g3, h3⟩ := gen_new n3 eG3
    clear eG3
    have h23 := g3 _ _ h2
    have nla : l ≠ a := (ne_of_none h2 n3).symm
    walk_at "rd"
    generalize eG4 : upd _ _ _ = G4
    obtain ⟨g4, h4⟩ := gen_st eG4
    clear eG4
    try simp only [pf_Settings_0, pf_Settings_1, pf_Settings_2, pf_Settings_3, pf_Settings_4, pf_Settings_5, pf_Packing_0, pf_Packing_1, pf_Packing_2, pf_Packing_3, pf_Packing_4, pf_Packing_5, pf_Store_0, pf_Store_1, pf_Store_2, pf_Store_3, pf_Store_4, pf_Store_5, pf_Store_6, pf_Store_7, pf_Store_8, pf_Store_9, pf_Store_10, pf_Store_11, pf_Store_12, pu_Store_0, pu_Store_1, pu_Store_2, pu_Store_3, pu_Store_4, pu_Store_5, pu_Store_6, pu_Store_7, pu_Store_8, pu_Store_9, pu_Store_10, pu_Store_11, pu_Store_12] at h4
    have h34 := g4 _ _ nla h3
    walk_at "rd"
    intro d n5
    generalize eG5 : upd _ d _ = G5
    obtain ⟨g5, h5⟩ := gen_new n5 eG5
    clear eG5
    have h45 := g5 _ _ h4
    have h35 := g5 _ _ h34
    have nda : d ≠ a := (ne_of_none h4 n5).symm
    have ndl : d ≠ l := (ne_of_none h34 n5).symm
    have ht5 := g5 _ _ (g4 _ _ nat (g3 _ _ (g2 _ _ nat (g1 _ _ nat ht))))
    have ntl : t ≠ l := ne_of ht5 h35 (by intro z; cases z)
    have ntd : t ≠ d := ne_of ht5 h5 (by intro z; cases z)
    have fro : ∀ H', SX [l, d] G5 H' → H' a = some (.ins (He.ga K "Packing") dx [(("row_lengths" : Str), V.ref t), (("room" : Str), V.int p.size), (("starts" : Str), V.ref l)]) ∧ H' t = some (.tup (p.lens.map V.int)) := fun H' f => ⟨f _ _ (by simp [nla.symm, nda.symm]) h45, f _ _ (by simp [ntl, ntd]) ht5⟩
    walk_at "rd"
    refine ⟨fun m σ H' => ∃ (n : Nat) (kvs : List (Key × V)), σ = [some (.ref a), some (.ref b), some (.ref d)] ∧ SX [l, d] G5 H' ∧ H' l = some (.lst (stL p n)) ∧ H' d = some (.dK kvs) ∧ Seen p n kvs ∧
      (∀ i j, i < j → j < n → resN p i ≠ resN p j) ∧ n ≤ 6 ∧ m = 7 - n, ⟨7, 0, [], rfl, SX.refl, h35, h5, ⟨Nat.le_refl _, fun j hj => absurd hj (by omega), fun k hk => absurd rfl hk⟩, fun i j _ hj => absurd hj (by omega), by omega, rfl⟩, ?_⟩
    rintro m σ H' ⟨n, kvs, rfl, fx, hl, hd, hs, inj, hn, rfl⟩
    obtain ⟨ha', ht'⟩ := fro _ fx
    have base : ∀ G, Same H' G → PkBase K G a p := fun G g => ⟨dx, _, t, g _ _ ha', by kernel_rfl, by kernel_rfl, none_all (by kernel_rfl), g _ _ ht'⟩
    walk_at "rd"
    have elen : ((p.lens.map V.int).length : Int) = (p.lens.length : Int) := by rw [List.length_map]
    have eres : (startN p n : Int) % ((p.lens.map V.int).length : Int) = (resN p n : Int) := by rw [elen]; exact (Int.natCast_emod _ _).symm
    have e0 : (0 : Int) < ((p.lens.map V.int).length : Int) := by rw [elen]; omega
    refine ⟨_, _, _, _, rfl, rfl, SqL.of hl, stL_last p n, ?_⟩
    walk_at "rd"
    have hg : ∀ G, G d = some (.dK kvs) → DGet G d (.int ((startN p n : Int) % ((p.lens.map V.int).length : Int))) (valV kvs (Sum.inl (resN p n : Int))) := fun G h => by
      rw [eres]; exact DGet.k (k := Sum.inl (resN p n : Int)) h
    refine ⟨_, _, rfl, hg _ hd, ?_⟩
    walk_at "rd"
    cases hv : valV kvs (Sum.inl (resN p n : Int)) with
    | none =>
      refine iteT ?_
      have inj2 : ∀ i j, i < j → j < n + 1 → resN p i ≠ resN p j := fun i j hij hj => by
        by_cases hjn : j = n
        · subst hjn
          intro z
          have := hs.2.1 i hij
          rw [z, hv] at this
          cases this
        · exact inj i j hij (by omega)
      have hn7 : n + 1 ≤ 6 := Nat.le_trans (pigeon p.lens.length (n + 1) (resN p) (fun i _ => resN_lt ok i) inj2) ok.l1
      refine ⟨fun σ' H'' => ∃ m', m' < 7 - n ∧ ∃ (n : Nat) (kvs : List (Key × V)), σ' = [some (.ref a), some (.ref b), some (.ref d)] ∧ SX [l, d] G5 H'' ∧ H'' l = some (.lst (stL p n)) ∧ H'' d = some (.dK kvs) ∧ Seen p n kvs ∧
        (∀ i j, i < j → j < n → resN p i ≠ resN p j) ∧ n ≤ 6 ∧ m' = 7 - n, fun _ _ h => h, ?_⟩
      walk_at "rd"
      refine ⟨_, _, _, _, rfl, rfl, SqL.of hl, stL_last p n, ?_⟩
      walk_at "rd"
      have hput : DPut H' d (.int ((startN p n : Int) % ((p.lens.map V.int).length : Int))) (.int (((stL p n).length : Int) - 1)) (upd H' d (.dK (putK kvs (Sum.inl (resN p n : Int)) (.int n)))) := by
        have e2 : ((stL p n).length : Int) - 1 = (n : Int) := by rw [stL_len]; omega
        rw [eres, e2]
        exact DPut.k (k := Sum.inl (resN p n : Int)) hd (szlt (Nat.le_trans hs.1 (by omega)))
      refine ⟨_, _, rfl, hput, ?_⟩
      generalize eG7 : upd _ _ _ = G7
      obtain ⟨g7, h7⟩ := gen_st eG7
      clear eG7
      try simp only [pf_Settings_0, pf_Settings_1, pf_Settings_2, pf_Settings_3, pf_Settings_4, pf_Settings_5, pf_Packing_0, pf_Packing_1, pf_Packing_2, pf_Packing_3, pf_Packing_4, pf_Packing_5, pf_Store_0, pf_Store_1, pf_Store_2, pf_Store_3, pf_Store_4, pf_Store_5, pf_Store_6, pf_Store_7, pf_Store_8, pf_Store_9, pf_Store_10, pf_Store_11, pf_Store_12, pu_Store_0, pu_Store_1, pu_Store_2, pu_Store_3, pu_Store_4, pu_Store_5, pu_Store_6, pu_Store_7, pu_Store_8, pu_Store_9, pu_Store_10, pu_Store_11, pu_Store_12] at h7
      have hl7 := g7 _ _ ndl.symm hl
      have ha7 := g7 _ _ nda.symm ha'
      have ht7 := g7 _ _ ntd ht'
      walk_at "rd"
      refine ⟨.inl ⟨rfl, _, SqL.of hl7⟩, ?_⟩
      walk_at "rd"
      refine ⟨_, _, _, _, rfl, rfl, SqL.of hl7, stL_last p n, ?_⟩
      walk_at "rd"
      refine ⟨_, _, _, _, rfl, rfl, SqL.of hl7, stL_last p n, ?_⟩
      walk_at "rd"
      refine use_rows_from (r := startN p n) rfl ⟨dx, _, t, ha7, by kernel_rfl, by kernel_rfl, none_all (by kernel_rfl), ht7⟩ ok fun G8 g8 => ?_
      walk_at "rd"
      refine ⟨_, _, _, rfl, rfl, g8 _ _ hl7, szlt (by rw [stL_len]; omega), ?_⟩
      generalize eG9 : upd _ _ _ = G9
      obtain ⟨g9, h9⟩ := gen_st eG9
      clear eG9
      try simp only [pf_Settings_0, pf_Settings_1, pf_Settings_2, pf_Settings_3, pf_Settings_4, pf_Settings_5, pf_Packing_0, pf_Packing_1, pf_Packing_2, pf_Packing_3, pf_Packing_4, pf_Packing_5, pf_Store_0, pf_Store_1, pf_Store_2, pf_Store_3, pf_Store_4, pf_Store_5, pf_Store_6, pf_Store_7, pf_Store_8, pf_Store_9, pf_Store_10, pf_Store_11, pf_Store_12, pu_Store_0, pu_Store_1, pu_Store_2, pu_Store_3, pu_Store_4, pu_Store_5, pu_Store_6, pu_Store_7, pu_Store_8, pu_Store_9, pu_Store_10, pu_Store_11, pu_Store_12] at h9
      refine ⟨7 - (n + 1), by omega, n + 1, putK kvs (Sum.inl (resN p n : Int)) (.int n), rfl, ?_, ?_, g9 _ _ ndl (g8 _ _ h7), hs.put hv, inj2, hn7, rfl⟩
      · exact ((fx.trans (g7.sx (by simp))).trans g8.sx).trans (g9.sx (by simp))
      · rw [h9, stL_succ]
        exact congrArg (fun z => some (HO.lst (stL p n ++ [V.int z]))) (Int.natCast_add _ _).symm
    | some v =>
      refine iteF ?_
      obtain ⟨j, hj, ej⟩ := hs.2.2 (resN p n : Int) (by rw [hv]; simp)
      have hvj := hs.2.1 j hj
      have hv0 := hv
      rw [← ej, hv] at hvj
      cases hvj
      have ejn : resN p n = resN p j := by omega
      walk_at "rd"
      refine ⟨_, _, _, _, rfl, rfl, SqL.of hl, stL_last p n, ?_⟩
      walk_at "rd"
      refine ⟨_, .int j, rfl, ?_, ?_⟩
      · have := hg _ hd
        rw [hv0] at this
        exact this
      walk_at "rd"
      generalize eK1 : upd _ _ _ = K1
      obtain ⟨k1, e1⟩ := gen_st eK1
      clear eK1
      try simp only [pf_Settings_0, pf_Settings_1, pf_Settings_2, pf_Settings_3, pf_Settings_4, pf_Settings_5, pf_Packing_0, pf_Packing_1, pf_Packing_2, pf_Packing_3, pf_Packing_4, pf_Packing_5, pf_Store_0, pf_Store_1, pf_Store_2, pf_Store_3, pf_Store_4, pf_Store_5, pf_Store_6, pf_Store_7, pf_Store_8, pf_Store_9, pf_Store_10, pf_Store_11, pf_Store_12, pu_Store_0, pu_Store_1, pu_Store_2, pu_Store_3, pu_Store_4, pu_Store_5, pu_Store_6, pu_Store_7, pu_Store_8, pu_Store_9, pu_Store_10, pu_Store_11, pu_Store_12] at e1
      have hl1 := k1 _ _ nla hl
      walk_at "rd"
      generalize eK2 : upd _ _ _ = K2
      obtain ⟨k2, e2⟩ := gen_st eK2
      clear eK2
      try simp only [pf_Settings_0, pf_Settings_1, pf_Settings_2, pf_Settings_3, pf_Settings_4, pf_Settings_5, pf_Packing_0, pf_Packing_1, pf_Packing_2, pf_Packing_3, pf_Packing_4, pf_Packing_5, pf_Store_0, pf_Store_1, pf_Store_2, pf_Store_3, pf_Store_4, pf_Store_5, pf_Store_6, pf_Store_7, pf_Store_8, pf_Store_9, pf_Store_10, pf_Store_11, pf_Store_12, pu_Store_0, pu_Store_1, pu_Store_2, pu_Store_3, pu_Store_4, pu_Store_5, pu_Store_6, pu_Store_7, pu_Store_8, pu_Store_9, pu_Store_10, pu_Store_11, pu_Store_12] at e2
      have hl2 := k2 _ _ nla hl1
      walk_at "rd"
      refine ⟨_, _, _, _, rfl, rfl, SqL.of hl2, stL_last p n, ?_⟩
      walk_at "rd"
      refine ⟨_, _, _, _, rfl, rfl, SqL.of hl2, atI_int (j := j) rfl (stL_get p (show j ≤ n by omega)), ?_⟩
      walk_at "rd"
      generalize eK3 : upd _ _ _ = K3
      obtain ⟨k3, e3⟩ := gen_st eK3
      clear eK3
      try simp only [pf_Settings_0, pf_Settings_1, pf_Settings_2, pf_Settings_3, pf_Settings_4, pf_Settings_5, pf_Packing_0, pf_Packing_1, pf_Packing_2, pf_Packing_3, pf_Packing_4, pf_Packing_5, pf_Store_0, pf_Store_1, pf_Store_2, pf_Store_3, pf_Store_4, pf_Store_5, pf_Store_6, pf_Store_7, pf_Store_8, pf_Store_9, pf_Store_10, pf_Store_11, pf_Store_12, pu_Store_0, pu_Store_1, pu_Store_2, pu_Store_3, pu_Store_4, pu_Store_5, pu_Store_6, pu_Store_7, pu_Store_8, pu_Store_9, pu_Store_10, pu_Store_11, pu_Store_12] at e3
      have eN : j + (n - j) = n := by omega
      have e7 : ((stL p n).length : Int) - 1 - (j : Int) = ((n - j : Nat) : Int) := by rw [stL_len]; omega
      have q1 : K3 a = some (.ins (He.ga K "Packing") dx [("row_lengths", .ref t), ("room", .int p.size), ("starts", .ref l), ("first", .int j), ("pages", .int (n - j : Nat)), ("rows", .int ((startN p (j + (n - j)) : Int) - startN p j))]) := by
        rw [eN, ← e7]
        exact e3
      have q2 : K3 t = some (.tup (p.lens.map V.int)) := k3 _ _ nat (k2 _ _ nat (k1 _ _ nat ht'))
      have q3 : K3 l = some (.lst (stL p (j + (n - j)))) := by
        rw [eN]
        exact k3 _ _ nla hl2
      refine k K3 j (n - j) ?_ ⟨by omega, by rw [eN]; exact ejn, fun x y hxy hy => inj x y hxy (by omega)⟩ ⟨dx, t, l, q1, q2, q3⟩ fun s xs H'' hs0 e => ?_
      · intro c o hc ho
        have o2 := g2 _ _ hc (g1 _ _ hc ho)
        have o4 := g4 _ _ hc (g3 _ _ o2)
        exact k3 _ _ hc (k2 _ _ hc (k1 _ _ hc (fx _ _ (by simp [ne_of_none o2 n3, ne_of_none o4 n5]) (g5 _ _ o4))))
      · have nsa : s ≠ a := ne_of hs0 ha (by intro z; cases z)
        have nst : s ≠ t := ne_of hs0 ht (by intro z; cases z)
        have nsl : s ≠ l := ne_of_none (g2 _ _ nsa (g1 _ _ nsa hs0)) n3
        exact ⟨dx, t, l, e _ _ nsa.symm q1, e _ _ nst.symm q2, e _ _ nsl.symm q3⟩

@[irreducible] def sp_Packing_start (K : PySem.W.Frag) : Sp := fun vs H Q _ => ∃ (a : Addr) (p : Prt) (first pages n : Nat), vs = [.ref a, .int n] ∧ PkAt K H a p first pages ∧ p.Ok ∧ Cyc p first pages ∧ ∀ H', Same H H' → Q (.int (startN p n)) H'
theorem use_start {K : PySem.W.Frag} {a : Addr} {p : Prt} {first pages n : Nat} {H : Hp} {Q : VK} {E : XK} {i : Int} (hi : i = (n : Int)) (h : PkAt K H a p first pages) (ok : p.Ok) (c : Cyc p first pages) (k : ∀ H', Same H H' → Q (.int (startN p n)) H') :
  sp_Packing_start K [.ref a, .int i] H Q E := by subst hi; unfold sp_Packing_start; exact ⟨a, p, first, pages, n, rfl, h, ok, c, k⟩
theorem b_Packing_start {K : PySem.W.Frag} {fd : FuncData} (F : F_Packing_start K fd) : Binds K fd P_Packing_start [] := FunD.bindsN F fun _ _ _ _ _ _ us hl => match us, hl with | [_, _], _ => rfl
theorem ok_Packing_start (T : Txt K mg D) : FnOk P w K mg base CX0 1 (He.fAd K ("Packing", some "start")) (D D_Packing_start) P_Packing_start (sp_Packing_start K) := by
  refine T.d_Packing_start.ok sc_Packing_start (fun vs H Q E h => ?_) (fun cdv A outer s H vs Q E hr h => ?_)
  · unfold sp_Packing_start at h
    first | (obtain ⟨rfl, _⟩ := h; rfl) | (obtain ⟨_, rfl, _⟩ := h; rfl) | (obtain ⟨_, _, rfl, _⟩ := h; rfl) | (obtain ⟨_, _, _, rfl, _⟩ := h; rfl) | (obtain ⟨_, _, _, _, rfl, _⟩ := h; rfl) | (obtain ⟨_, _, _, _, _, rfl, _⟩ := h; rfl) | (obtain ⟨_, _, _, _, _, _, rfl, _⟩ := h; rfl) | (obtain ⟨_, _, _, _, _, _, _, rfl, _⟩ := h; rfl) | (obtain ⟨_, _, _, _, _, _, _, _, rfl, _⟩ := h; rfl) | (obtain ⟨_, _, _, _, _, _, _, _, _, rfl, _⟩ := h; rfl) | (obtain ⟨_, _, _, _, _, _, _, _, _, _, rfl, _⟩ := h; rfl) | (obtain ⟨_, _, _, _, _, _, _, _, _, _, _, rfl, _⟩ := h; rfl)
  · refine ⟨_, PSs.nox (pss_cons (ps_if (pt_cmpR op_lt (pv 1) (pe_fldK (K := K) (pv 0) rfl) (nomark _)) (pss_one (ps_ret (pe_ix (ix_listK (K := K)) (pe_fldK (K := K) (pv 0) rfl) (pv 1) (fun _ _ => rfl)))) pss_nil)
      (pss_cons (ps_asg (pe_callB call_divmod (by rfl) T.n_divmod (by decide +kernel) (pa_cons (pe_op op_sub (pv 1) (pe_fldK (K := K) (pv 0) rfl)) (pa_cons (pe_fldK (K := K) (pv 0) rfl) pa_nil))) (pg_tup rfl (pgs_cons (pg_name (i := 2) sc_Packing_start.nd rfl (Or.inl rfl)) (pgs_cons (pg_name (i := 3) sc_Packing_start.nd rfl (Or.inl rfl)) pgs_nil))))
      (pss_one (ps_ret (pe_op op_add (pe_ix (ix_listK (K := K)) (pe_fldK (K := K) (pv 0) rfl) (pe_op op_add (pe_fldK (K := K) (pv 0) rfl) (pv 3)) (fun _ _ => rfl)) (pe_op op_mul (pv 2) (pe_fldK (K := K) (pv 0) rfl))))))), ?_⟩
    unfold sp_Packing_start at h
    obtain ⟨a, p, first, pages, n, rfl, ⟨dx, t, l, h1, h2, h3⟩, ok, c, k⟩ := h
    have hle := c.le ok
    have hpos := c.pos
    walk_at "rd"
    refine iteB (fun d => ?_) (fun d => ?_)
    · have d := of_decide_eq_true d
      walk_at "rd"
      refine ⟨_, _, _, _, rfl, rfl, SqL.of h3, atI_int (j := n) rfl (stL_get p (by omega)), ?_⟩
      exact k H (Same.refl H)
    · have d := of_decide_eq_false d
      walk_at "rd"
      intro q n1
      generalize eG1 : upd _ q _ = G1
      obtain ⟨s1, c1⟩ := gen_new n1 eG1
      clear eG1
      have h31 := s1 _ _ h3
      have h11 := s1 _ _ h1
      walk_at "rd"
      have e1 : ((n : Int) - (first : Int)) / (pages : Int) = (((n - first) / pages : Nat) : Int) := by rw [← Int.ofNat_sub (by omega)]; rfl
      have e2 : ((n : Int) - (first : Int)) % (pages : Int) = (((n - first) % pages : Nat) : Int) := by rw [← Int.ofNat_sub (by omega)]; rfl
      have hm : (n - first) % pages < pages := Nat.mod_lt _ hpos
      refine ⟨_, _, _, _, rfl, rfl, SqL.of h31, atI_int (j := first + (n - first) % pages) (by rw [e2]; omega) (stL_get p (by omega)), ?_⟩
      walk_at "rd"
      have hr := rowsC_le ok c
      have hsp := start_mono ok (show first ≤ first + pages by omega)
      have er : (startN p (first + pages) : Int) - (startN p first : Int) = (rowsC p first pages : Int) := by unfold rowsC; omega
      refine ⟨cmr (by rw [er]; omega) (by rw [er]; omega), ?_⟩
      walk_at "rd"
      have e3 : (startN p n : Int) = (startN p (first + (n - first) % pages) : Int) + (((n : Int) - (first : Int)) / (pages : Int)) * ((startN p (first + pages) : Int) - (startN p first : Int)) := by
        rw [e1, er, ← Int.natCast_mul, ← Int.natCast_add, ← start_times ok c (show first ≤ first + (n - first) % pages by omega)]
        have := Nat.mod_add_div (n - first) pages
        rw [show first + (n - first) % pages + (n - first) / pages * pages = n by rw [Nat.mul_comm]; omega]
      have q1 := k G1 s1
      rw [e3] at q1
      exact q1

@[irreducible] def sp_Packing_holder (K : PySem.W.Frag) : Sp := fun vs H Q _ => ∃ (a : Addr) (p : Prt) (first pages r : Nat), vs = [.ref a, .int r] ∧ PkAt K H a p first pages ∧ p.Ok ∧ Cyc p first pages ∧ ∀ n H', On p r n → Same H H' → Q (.int n) H'
theorem use_holder {K : PySem.W.Frag} {a : Addr} {p : Prt} {first pages r : Nat} {H : Hp} {Q : VK} {E : XK} {i : Int} (hi : i = (r : Int)) (h : PkAt K H a p first pages) (ok : p.Ok) (c : Cyc p first pages) (k : ∀ n H', On p r n → Same H H' → Q (.int n) H') :
  sp_Packing_holder K [.ref a, .int i] H Q E := by subst hi; unfold sp_Packing_holder; exact ⟨a, p, first, pages, r, rfl, h, ok, c, k⟩
/-- the first row of the cycle that is like row r, and how many cycles lie between -/
theorem near_of {p : Prt} (ok : p.Ok) {first pages : Nat} (c : Cyc p first pages) (r : Nat) : ∃ t near, r = near + t * rowsC p first pages ∧ near < startN p (first + pages) ∧ (t = 0 ∨ startN p first ≤ near) ∧
    (startN p first ≤ r → t = (r - startN p first) / rowsC p first pages) ∧ (r < startN p first → t = 0) := by
  have h1 := rowsC_pos ok c
  have h2 := start_mono ok (show first ≤ first + pages by omega)
  have er : rowsC p first pages = startN p (first + pages) - startN p first := rfl
  by_cases h : startN p first ≤ r
  · refine ⟨(r - startN p first) / rowsC p first pages, startN p first + (r - startN p first) % rowsC p first pages, ?_, ?_, .inr (by omega), fun _ => rfl, fun z => by omega⟩
    · have := Nat.mod_add_div (r - startN p first) (rowsC p first pages)
      rw [Nat.mul_comm] at this
      omega
    · have := Nat.mod_lt (r - startN p first) h1
      omega
  · exact ⟨0, r, by omega, by omega, .inl rfl, fun z => absurd z h, fun _ => rfl⟩
theorem par6 {A B : Option V} {x y : Int} (h : x = y) {l : List (Option V)} : A :: B :: some (V.int x) :: l = A :: B :: some (V.int y) :: l := by subst h; rfl
theorem b_Packing_holder {K : PySem.W.Frag} {fd : FuncData} (F : F_Packing_holder K fd) : Binds K fd P_Packing_holder [] := FunD.bindsN F fun _ _ _ _ _ _ us hl => match us, hl with | [_, _], _ => rfl
theorem ok_Packing_holder (T : Txt K mg D) : FnOk P w K mg base CX0 1 (He.fAd K ("Packing", some "holder")) (D D_Packing_holder) P_Packing_holder (sp_Packing_holder K) := by
  refine T.d_Packing_holder.ok sc_Packing_holder (fun vs H Q E h => ?_) (fun cdv A outer s H vs Q E hr h => ?_)
  · unfold sp_Packing_holder at h
    first | (obtain ⟨rfl, _⟩ := h; rfl) | (obtain ⟨_, rfl, _⟩ := h; rfl) | (obtain ⟨_, _, rfl, _⟩ := h; rfl) | (obtain ⟨_, _, _, rfl, _⟩ := h; rfl) | (obtain ⟨_, _, _, _, rfl, _⟩ := h; rfl) | (obtain ⟨_, _, _, _, _, rfl, _⟩ := h; rfl) | (obtain ⟨_, _, _, _, _, _, rfl, _⟩ := h; rfl) | (obtain ⟨_, _, _, _, _, _, _, rfl, _⟩ := h; rfl) | (obtain ⟨_, _, _, _, _, _, _, _, rfl, _⟩ := h; rfl) | (obtain ⟨_, _, _, _, _, _, _, _, _, rfl, _⟩ := h; rfl) | (obtain ⟨_, _, _, _, _, _, _, _, _, _, rfl, _⟩ := h; rfl) | (obtain ⟨_, _, _, _, _, _, _, _, _, _, _, rfl, _⟩ := h; rfl)
  · refine ⟨_, PSs.nox (pss_cons (ps_set (i := 2) sc_Packing_holder.nd rfl (Or.inl rfl) pe_int)
      (Evl.pss_cut (ps_if (pt_cmpR op_ge (pv 1) (pe_ix (ix_listK (K := K)) (pe_fldK (K := K) (pv 0) rfl) (pe_fldK (K := K) (pv 0) rfl) (fun _ _ => rfl)) (nomark _)) (pss_one (ps_set (i := 2) sc_Packing_holder.nd rfl (Or.inl rfl) (pe_op op_fdivW (pe_op op_sub (pv 1) (pe_ix (ix_listK (K := K)) (pe_fldK (K := K) (pv 0) rfl) (pe_fldK (K := K) (pv 0) rfl) (fun _ _ => rfl))) (pe_fldK (K := K) (pv 0) rfl)))) pss_nil)
      (pss_cons (ps_set (i := 3) sc_Packing_holder.nd rfl (Or.inr rfl) (pe_op op_sub (pv 1) (pe_op op_mul (pv 2) (pe_fldK (K := K) (pv 0) rfl))))
      (pss_cons (ps_set (i := 4) sc_Packing_holder.nd rfl (Or.inl rfl) (pe_ix (ix_listK (K := K)) (pe_lc (own := [("place", 5)]) rfl sc_Packing_holder.nd (pi_range1 (by rfl) T.n_range (pa_cons (pe_callB (call_lenK (K := K)) (by rfl) T.n_len (by decide +kernel) (pa_cons (pe_fldK (K := K) (pv 0) rfl) pa_nil)) pa_nil)) (blkOk_by (N := N_Packing_holder) (sc := defScope s_Packing_holder) (by decide +kernel)) (fun _ _ _ _ _ => (pg_name (i := 5) sc_Packing_holder.nd rfl (Or.inl rfl))) (fun _ _ _ _ _ => (pts_one (pt_cmpR op_le (pe_ix (ix_listK (K := K)) (pe_fldK (K := K) (pv 0) rfl) (pv 5) (fun _ _ => rfl)) (pv 3) (nomark _)))) (fun _ _ _ _ _ => (pv 5))) (pe_un un_neg pe_int) (fun _ _ => rfl)))
      (pss_one (ps_ret (pe_op op_add (pv 4) (pe_op op_mul (pv 2) (pe_fldK (K := K) (pv 0) rfl))))))))), ?_⟩
    unfold sp_Packing_holder at h
    obtain ⟨a, p, first, pages, r, rfl, ⟨dx, t, l, h1, h2, h3⟩, ok, c, k⟩ := h
    have hle := c.le ok
    have hpos := c.pos
    have hsp := start_mono ok (show first ≤ first + pages by omega)
    have er : (startN p (first + pages) : Int) - (startN p first : Int) = (rowsC p first pages : Int) := by unfold rowsC; omega
    have hr0 := rowsC_pos ok c
    have hr1 := rowsC_le ok c
    obtain ⟨tm, near, en, hn, ht, hu, hv⟩ := near_of ok c r
    have hsl := stL_len p (first + pages)
    walk_at "rd"
    refine ⟨fun σ' H' => H' = H ∧ σ' = [some (.ref a), some (.int r), some (.int tm), none, none, none], ?_, ?_⟩
    · walk_at "rd"
      refine ⟨_, _, _, _, rfl, rfl, SqL.of h3, atI_int (j := first) rfl (stL_get p (by omega)), ?_⟩
      walk_at "rd"
      refine iteB (fun d => ?_) (fun d => ?_)
      · have d := of_decide_eq_true d
        have d2 : startN p first ≤ r := by omega
        walk_at "rd"
        refine ⟨_, _, _, _, rfl, rfl, SqL.of h3, atI_int (j := first) rfl (stL_get p (by omega)), ?_⟩
        walk_at "rd"
        have e9 : ((r : Int) - (startN p first : Int)) / ((startN p (first + pages) : Int) - (startN p first : Int)) = (tm : Int) := by
          rw [er, ← Int.ofNat_sub d2, hu d2]; rfl
        exact par6 e9
      · have d := of_decide_eq_false d
        walk_at "rd"
        have e9 := hv (by omega)
        subst e9
        rfl
    rintro σ H' ⟨rfl, rfl⟩
    walk_at "rd"
    have hs0 : startN p 0 = 0 := rfl
    have enear : (r : Int) - (tm : Int) * ((startN p (first + pages) : Int) - (startN p first : Int)) = (near : Int) := by
      rw [er, ← Int.natCast_mul]; omega
    intro D1 n1
    have nl : l ≠ D1 := ne_of_none h3 n1
    refine lc_range (lo := 0) (n := Int.toNat _) (fun i G => ∃ c, G D1 = some (.lst ((List.range c).map fun (j : Nat) => V.int (j : Int))) ∧ SX [D1] H' G ∧ (∀ j, j < i → (startN p j ≤ near ↔ j < c)) ∧ c ≤ i) ⟨0, upd_same, SX.refl.mut n1, fun j hj => absurd hj (by omega), Nat.le_refl _⟩ ?_ ?_
    · rintro i G hi ⟨m, hD, f, hc, hm⟩
      have hi2 : i ≤ first + pages := by omega
      refine ⟨rfl, ?_⟩
      have h3' := f _ _ (by simp [nl]) h3
      have h1' := f _ _ (by simp [ne_of_none h1 n1]) h1
      walk_at "rd"
      refine ⟨_, _, _, _, rfl, rfl, SqL.of h3', atI_int (j := i) (by omega) (stL_get p hi2), ?_⟩
      walk_at "rd"
      refine iteB (fun d => ?_) (fun d => ?_)
      · have d := of_decide_eq_true d
        have d : startN p i ≤ near := by
          have d2 : (startN p i : Int) ≤ (r : Int) - (tm : Int) * ((startN p (first + pages) : Int) - (startN p first : Int)) := d
          omega
        walk_at "rd"
        have hmi : m = i := by
          by_cases h : m = i
          · exact h
          · have z := (hc m (by omega)).mp (Nat.le_trans (start_mono ok (by omega)) d)
            omega
        subst hmi
        refine ⟨_, hD, szlt (by rw [List.length_map, List.length_range]; omega), m + 1, ?_, f.upd (by simp), fun j hj => ⟨fun _ => hj, fun _ => Nat.le_trans (start_mono ok (by omega)) d⟩, Nat.le_refl _⟩
        rw [upd_same, List.range_succ, List.map_append]
        exact congrArg (fun z => some (HO.lst (List.map (fun (j : Nat) => V.int (j : Int)) (List.range m) ++ [V.int z]))) (Int.zero_add _)
      · have d := of_decide_eq_false d
        have d : ¬ startN p i ≤ near := by
          have d2 : ¬ (startN p i : Int) ≤ (r : Int) - (tm : Int) * ((startN p (first + pages) : Int) - (startN p first : Int)) := d
          omega
        refine ⟨m, hD, f, fun j hj => ?_, by omega⟩
        by_cases h : j = i
        · subst h
          exact ⟨fun z => absurd z d, fun z => by omega⟩
        · exact hc j (by omega)
    · rintro G ⟨m, hD, f, hc, hm⟩
      have hlen : (Int.toNat (((stL p (first + pages)).length : Nat) : Int)) = first + pages + 1 := by rw [stL_len]; omega
      rw [hlen] at hc hm
      have m1 : 0 < m := (hc 0 (by omega)).mp (by rw [hs0]; omega)
      have m2 : m ≤ first + pages := by
        by_cases h : m ≤ first + pages
        · exact h
        · have := (hc (first + pages) (by omega)).mpr (by omega)
          omega
      obtain ⟨m, rfl⟩ : ∃ m', m = m' + 1 := ⟨m - 1, by omega⟩
      have b1 := (hc m (by omega)).mpr (by omega)
      have b2 : near < startN p (m + 1) := by
        by_cases h : startN p (m + 1) ≤ near
        · have := (hc (m + 1) (by omega)).mp h
          omega
        · omega
      have hat : atI ((List.range (m + 1)).map fun (j : Nat) => V.int (j : Int)) (-1) = some (.int (m : Int)) := by
        rw [List.range_succ, List.map_append]
        exact atI_last _ _
      have sG : Same H' G := fun b o ho => f _ _ (by simp [ne_of_none ho n1]) ho
      have h11 := sG _ _ h1
      walk_at "rd"
      refine ⟨_, _, _, _, rfl, rfl, SqL.of hD, hat, ?_⟩
      walk_at "rd"
      have ePn : (m : Int) + (tm : Int) * (pages : Int) = ((m + tm * pages : Nat) : Int) := by rw [← Int.natCast_mul]; omega
      have on : On p r (m + tm * pages) := by
        rcases ht with ht | ht
        · subst ht
          simp only [Nat.zero_mul, Nat.add_zero] at en ⊢
          rw [en]
          exact ⟨b1, b2⟩
        · have hmf : first ≤ m := by
            by_cases h : first ≤ m
            · exact h
            · have := start_mono ok (show m + 1 ≤ first by omega)
              omega
          have e1 := start_times ok c hmf tm
          have e2 := start_times ok c (show first ≤ m + 1 by omega) tm
          refine ⟨?_, ?_⟩
          · rw [e1, en]; omega
          · rw [show m + tm * pages + 1 = m + 1 + tm * pages by omega, e2, en]; omega
      have q := k _ G on sG
      rw [← ePn] at q
      exact q

def dgL (f : Nat → Int) : List V := [.int (f 0), .int (f 1), .int (f 2), .int (f 3), .int (f 4), .int (f 5), .int (f 6), .int (f 7), .int (f 8), .int (f 9), .int (f 10), .int (f 11), .int (f 12), .int (f 13), .int (f 14), .int (f 15), .int (f 16), .int (f 17), .int (f 18), .int (f 19), .int (f 20), .int (f 21), .int (f 22), .int (f 23), .int (f 24), .int (f 25), .int (f 26), .int (f 27), .int (f 28), .int (f 29), .int (f 30), .int (f 31), .int (f 32), .int (f 33), .int (f 34), .int (f 35), .int (f 36), .int (f 37), .int (f 38), .int (f 39)]
theorem dgL_eq (f : Nat → Int) : dgL f = (List.range 40).map fun j => V.int (f j) := rfl
def DgOk (f : Nat → Int) : Prop := ∀ j, 0 ≤ f j ∧ f j < 1009
theorem dgL_of {xs : List Int} (h : xs.length = 40) : dgL (fun j => xs.getD j 0) = xs.map V.int := by
  rw [dgL_eq]
  apply List.ext_getElem
  · rw [List.length_map, List.length_range, List.length_map, h]
  · intro i h1 h2
    rw [List.getElem_map, List.getElem_map, List.getElem_range]
    have : i < xs.length := by simpa using h2
    simp [List.getD_eq_getElem?_getD, this]
theorem dg_at {f : Nat → Int} {j : Nat} {i : Int} (hi : i = (j : Int)) (h : j < 40) : atI (dgL f) i = some (.int (f j)) := by
  refine atI_int hi ?_
  rw [dgL_eq, List.getElem?_map, List.getElem?_range h]
  rfl
@[irreducible] def sp_law_digits : Sp := fun vs H Q _ => ∃ c : Int, vs = [.int c, .int 40] ∧ ∀ q f H', H q = none → Same H H' → DgOk f → H' q = some (.lst (dgL f)) → Q (.ref q) H'
theorem use_digits {c : Int} {H : Hp} {Q : VK} {E : XK} (k : ∀ q f H', H q = none → Same H H' → DgOk f → H' q = some (.lst (dgL f)) → Q (.ref q) H') : sp_law_digits [.int c, .int 40] H Q E := by unfold sp_law_digits; exact ⟨c, rfl, k⟩
theorem b_law_digits {K : PySem.W.Frag} {fd : FuncData} (F : F_law_digits K fd) : Binds K fd P_law_digits [] := FunD.bindsN F fun _ _ _ _ _ _ us hl => match us, hl with | [_, _], _ => rfl
theorem ok_law_digits (T : Txt K mg D) : FnOk P w K mg base CX0 1 (He.fAd K ("_law_digits", none)) (D D_law_digits) P_law_digits sp_law_digits := by
  refine T.d_law_digits.ok sc_law_digits (fun vs H Q E h => ?_) (fun cdv A outer s H vs Q E hr h => ?_)
  · unfold sp_law_digits at h
    first | (obtain ⟨rfl, _⟩ := h; rfl) | (obtain ⟨_, rfl, _⟩ := h; rfl) | (obtain ⟨_, _, rfl, _⟩ := h; rfl) | (obtain ⟨_, _, _, rfl, _⟩ := h; rfl) | (obtain ⟨_, _, _, _, rfl, _⟩ := h; rfl) | (obtain ⟨_, _, _, _, _, rfl, _⟩ := h; rfl) | (obtain ⟨_, _, _, _, _, _, rfl, _⟩ := h; rfl) | (obtain ⟨_, _, _, _, _, _, _, rfl, _⟩ := h; rfl) | (obtain ⟨_, _, _, _, _, _, _, _, rfl, _⟩ := h; rfl) | (obtain ⟨_, _, _, _, _, _, _, _, _, rfl, _⟩ := h; rfl) | (obtain ⟨_, _, _, _, _, _, _, _, _, _, rfl, _⟩ := h; rfl) | (obtain ⟨_, _, _, _, _, _, _, _, _, _, _, rfl, _⟩ := h; rfl)
  · refine ⟨_, PSs.nox (pss_cons (ps_set (i := 2) sc_law_digits.nd rfl (Or.inl rfl) (pe_lst pa_nil))
      (pss_cons (ps_set (i := 3) sc_law_digits.nd rfl (Or.inl rfl) pe_int)
      (Evl.pss_cut (ps_if (pt_cmpR op_ge (pv 0) (pe_powc (c := 1000000000000000000) (by decide)) (nomark _)) (pss_one (ps_set (i := 3) sc_law_digits.nd rfl (Or.inl rfl) (pv 0))) pss_nil)
      (pss_cons (ps_set (i := 4) sc_law_digits.nd rfl (Or.inl rfl) (pe_op op_mod (pe_callTy call_int1 (by rfl) T.n_int (by decide +kernel) (pa_cons (pv 0) pa_nil)) pe_int))
      (pss_cons (ps_for PassesOwn.never rfl (pi_range1 (by rfl) T.n_range (pa_cons (pv 1) pa_nil)) (pg_name (i := 5) sc_law_digits.nd rfl (Or.inl rfl)) (pss_cons (ps_set (i := 4) sc_law_digits.nd rfl (Or.inl rfl) (pe_op op_mod (pe_callTy call_int1 (by rfl) T.n_int (by decide +kernel) (pa_cons (pe_op op_add (pe_op op_add (pe_op op_mul (pv 4) pe_int) (pe_op op_mul pe_int (pv 5))) pe_int) pa_nil)) pe_int))
      (pss_cons (ps_set (i := 4) sc_law_digits.nd rfl (Or.inl rfl) (pe_op op_mod (pe_callTy call_int1 (by rfl) T.n_int (by decide +kernel) (pa_cons (pe_op op_mul (pv 4) (pe_op op_add (pe_op op_fdivW (pv 4) pe_int) pe_int)) pa_nil)) pe_int))
      (pss_one (ps_if (pt_cmpR op_gt (pv 3) pe_int (nomark _)) (pss_cons (ps_expr (pe_bm PySem.F.plainAttrs_list PySem.F.slot_list_append PySem.F.type_list_append mt_append (pv 2) (pa_cons (pe_op op_mod (pe_callTy call_int1 (by rfl) T.n_int (by decide +kernel) (pa_cons (pv 3) pa_nil)) pe_int) pa_nil)))
      (pss_one (ps_set (i := 3) sc_law_digits.nd rfl (Or.inl rfl) (pe_op op_fdivW (pv 3) pe_int)))) (pss_one (ps_expr (pe_bm PySem.F.plainAttrs_list PySem.F.slot_list_append PySem.F.type_list_append mt_append (pv 2) (pa_cons (pe_op op_mod (pe_callTy call_int1 (by rfl) T.n_int (by decide +kernel) (pa_cons (pe_op op_fdivW (pv 4) pe_int) pa_nil)) pe_int) pa_nil)))))))))
      (pss_one (ps_ret (pv 2)))))))), ?_⟩
    unfold sp_law_digits at h
    obtain ⟨c, rfl, k⟩ := h
    walk_at "rd"
    intro q n0
    generalize eG0 : upd _ q _ = G0
    obtain ⟨g0, c0⟩ := gen_new n0 eG0
    clear eG0
    walk_at "rd"
    refine ⟨fun σ' H' => H' = G0 ∧ ∃ z : Int, σ' = [some (.int c), some (.int 40), some (.ref q), some (.int z), none, none], ?_, ?_⟩
    · walk_at "rd"
      refine ite2 (fun _ => ?_) (fun _ => ?_)
      · walk_at "rd"
        exact ⟨_, rfl⟩
      · walk_at "rd"
        exact ⟨_, rfl⟩
    rintro σ H' ⟨rfl, z, rfl⟩
    walk_at "rd"
    refine for_range (lo := 0) (n := 40) (fun i σ G => ∃ (xs : List Int) (z n : Int) (v : Option V), σ = [some (.int c), some (.int 40), some (.ref q), some (.int z), some (.int n), v] ∧ (0 ≤ n ∧ n < 2147483647) ∧ xs.length = i ∧ (∀ x ∈ xs, 0 ≤ x ∧ x < 1009) ∧ G q = some (.lst (xs.map V.int)) ∧ SX [q] H' G)
      ⟨[], _, _, _, rfl, ⟨Int.emod_nonneg _ (by decide), Int.emod_lt_of_pos _ (by decide)⟩, rfl, fun x hx => (nomatch hx), c0, SX.refl⟩ ?_ ?_
    · rintro i σ G hi ⟨xs, z, n, v, rfl, ⟨m0, m1⟩, hl, hb, hq, f⟩
      walk_at "rd"
      have b0 := Int.emod_nonneg (n * 48271 + 30103 * (0 + (i : Int)) + 11) (show (2147483647 : Int) ≠ 0 by decide)
      have b1 := Int.emod_lt_of_pos (n * 48271 + 30103 * (0 + (i : Int)) + 11) (show (0 : Int) < 2147483647 by decide)
      generalize (n * 48271 + 30103 * (0 + (i : Int)) + 11) % 2147483647 = y at b0 b1 ⊢
      walk_at "rd"
      have e0 := Int.emod_nonneg (y * (y / 1009 + 69621)) (show (2147483629 : Int) ≠ 0 by decide)
      have e1 := Int.emod_lt_of_pos (y * (y / 1009 + 69621)) (show (0 : Int) < 2147483629 by decide)
      have app : ∀ w : Int, 0 ≤ w → w < 1009 → (∀ x ∈ xs ++ [w], 0 ≤ x ∧ x < 1009) := fun w w0 w1 x hx => by
        rcases List.mem_append.mp hx with h | h
        · exact hb x h
        · rw [List.mem_singleton.mp h]; exact ⟨w0, w1⟩
      refine ite2 (fun _ => ?_) (fun _ => ?_)
      · walk_at "rd"
        refine ⟨.inl ⟨rfl, _, SqL.of hq⟩, ?_⟩
        walk_at "rd"
        refine ⟨_, _, _, rfl, rfl, hq, szlt (by rw [List.length_map]; omega), ?_⟩
        walk_at "rd"
        refine ⟨xs ++ [z % 1009], _, _, _, rfl, ⟨e0, by omega⟩, by rw [List.length_append, hl]; rfl, app _ (Int.emod_nonneg _ (by decide)) (Int.emod_lt_of_pos _ (by decide)), by rw [upd_same, List.map_append]; rfl, f.upd (by simp)⟩
      · walk_at "rd"
        refine ⟨.inl ⟨rfl, _, SqL.of hq⟩, ?_⟩
        walk_at "rd"
        refine ⟨_, _, _, rfl, rfl, hq, szlt (by rw [List.length_map]; omega), ?_⟩
        refine ⟨xs ++ [y * (y / 1009 + 69621) % 2147483629 / 7 % 1009], _, _, _, rfl, ⟨e0, by omega⟩, by rw [List.length_append, hl]; rfl, app _ (Int.emod_nonneg _ (by decide)) (Int.emod_lt_of_pos _ (by decide)), by rw [upd_same, List.map_append]; rfl, f.upd (by simp)⟩
    · rintro σ G ⟨xs, z, n, v, rfl, _, hl, hb, hq, f⟩
      walk_at "rd"
      refine k q (fun j => xs.getD j 0) G n0 (fun b o ho => f _ _ (by simp [ne_of_none ho n0]) (g0 _ _ ho)) (fun j => ?_) (by rw [dgL_of hl]; exact hq)
      by_cases hj : j < xs.length
      · show 0 ≤ xs.getD j 0 ∧ xs.getD j 0 < 1009
        rw [List.getD_eq_getElem?_getD, List.getElem?_eq_getElem hj]
        exact hb _ (List.getElem_mem hj)
      · show 0 ≤ xs.getD j 0 ∧ xs.getD j 0 < 1009
        rw [List.getD_eq_getElem?_getD, List.getElem?_eq_none (by omega)]
        exact ⟨by decide, by decide⟩

/-- drawn settings as a dict -/
def pdL (l : Addr) (p : Prt) : List (Key × V) := [(.inr "lengths", .ref l), (.inr "size", .int p.size), (.inr "fanout", .int p.fan), (.inr "records", .int p.rec_), (.inr "every", .int p.every), (.inr "keep", .int p.keep)]
def PdAt (H : Hp) (a : Addr) (p : Prt) : Prop := ∃ l, H a = some (.dK (pdL l p)) ∧ H l = some (.lst (p.lens.map V.int))
theorem PdAt.same {H H' : Hp} {a : Addr} {p : Prt} (h : PdAt H a p) (s : Same H H') : PdAt H' a p := let ⟨l, h1, h2⟩ := h; ⟨l, s _ _ h1, s _ _ h2⟩
theorem pg_lengths {H : Hp} {a l : Addr} {p : Prt} (h : H a = some (.dK (pdL l p))) : DGet H a (.str "lengths") (some (.ref l)) := (show valV (pdL l p) (Sum.inr "lengths") = some (.ref l) from by kernel_rfl) ▸ DGet.k (k := Sum.inr "lengths") h
theorem pg_size {H : Hp} {a l : Addr} {p : Prt} (h : H a = some (.dK (pdL l p))) : DGet H a (.str "size") (some (.int p.size)) := (show valV (pdL l p) (Sum.inr "size") = some (.int p.size) from by kernel_rfl) ▸ DGet.k (k := Sum.inr "size") h
theorem pg_fanout {H : Hp} {a l : Addr} {p : Prt} (h : H a = some (.dK (pdL l p))) : DGet H a (.str "fanout") (some (.int p.fan)) := (show valV (pdL l p) (Sum.inr "fanout") = some (.int p.fan) from by kernel_rfl) ▸ DGet.k (k := Sum.inr "fanout") h
theorem pg_records {H : Hp} {a l : Addr} {p : Prt} (h : H a = some (.dK (pdL l p))) : DGet H a (.str "records") (some (.int p.rec_)) := (show valV (pdL l p) (Sum.inr "records") = some (.int p.rec_) from by kernel_rfl) ▸ DGet.k (k := Sum.inr "records") h
theorem pg_every {H : Hp} {a l : Addr} {p : Prt} (h : H a = some (.dK (pdL l p))) : DGet H a (.str "every") (some (.int p.every)) := (show valV (pdL l p) (Sum.inr "every") = some (.int p.every) from by kernel_rfl) ▸ DGet.k (k := Sum.inr "every") h
theorem pg_keep {H : Hp} {a l : Addr} {p : Prt} (h : H a = some (.dK (pdL l p))) : DGet H a (.str "keep") (some (.int p.keep)) := (show valV (pdL l p) (Sum.inr "keep") = some (.int p.keep) from by kernel_rfl) ▸ DGet.k (k := Sum.inr "keep") h
@[irreducible] def sp_law_parts : Sp := fun vs H Q _ => ∃ (d : Addr) (f : Nat → Int), vs = [.ref d] ∧ DgOk f ∧ H d = some (.lst (dgL f)) ∧ ∀ a p H', H a = none → Same H H' → p.Ok → p.size ≤ 6 → PdAt H' a p → Q (.ref a) H'
theorem use_pd {d : Addr} {f : Nat → Int} {H : Hp} {Q : VK} {E : XK} (hf : DgOk f) (h : H d = some (.lst (dgL f))) (k : ∀ a p H', H a = none → Same H H' → p.Ok → p.size ≤ 6 → PdAt H' a p → Q (.ref a) H') : sp_law_parts [.ref d] H Q E := by
  unfold sp_law_parts; exact ⟨d, f, rfl, hf, h, k⟩
theorem put_k {H : Hp} {a : Addr} {kvs kvs2 : List (Key × V)} {x : Str} {v : V} (e : H a = some (.dK kvs)) (hl : kvs.length ≤ 100) (h2 : putK kvs (Sum.inr x) v = kvs2) : DPut H a (.str x) v (upd H a (.dK kvs2)) := by
  subst h2; exact DPut.k (k := Sum.inr x) e (szlt (by omega))
theorem pd_put1 {a b c : V} : putK ([(.inr "lengths", a), (.inr "size", b)] : List (Key × V)) (Sum.inr "fanout") c = [(.inr "lengths", a), (.inr "size", b), (.inr "fanout", c)] := by kernel_rfl
theorem pd_put2 {a b c d : V} : putK ([(.inr "lengths", a), (.inr "size", b), (.inr "fanout", c)] : List (Key × V)) (Sum.inr "records") d = [(.inr "lengths", a), (.inr "size", b), (.inr "fanout", c), (.inr "records", d)] := by kernel_rfl
theorem pd_put3 {a b c d e : V} : putK ([(.inr "lengths", a), (.inr "size", b), (.inr "fanout", c), (.inr "records", d)] : List (Key × V)) (Sum.inr "every") e = [(.inr "lengths", a), (.inr "size", b), (.inr "fanout", c), (.inr "records", d), (.inr "every", e)] := by kernel_rfl
theorem pd_put4 {a b c d e g : V} : putK ([(.inr "lengths", a), (.inr "size", b), (.inr "fanout", c), (.inr "records", d), (.inr "every", e)] : List (Key × V)) (Sum.inr "keep") g = [(.inr "lengths", a), (.inr "size", b), (.inr "fanout", c), (.inr "records", d), (.inr "every", e), (.inr "keep", g)] := by kernel_rfl
theorem pd_merge {a b : V} : mergeK [] ([(.inr "lengths", a), (.inr "size", b)] : List (Key × V)) = [(.inr "lengths", a), (.inr "size", b)] := by kernel_rfl
/-- one of two written moduli -/
theorem two_at {a b r : Int} (h0 : 0 ≤ r) (h1 : r < 2) : ∃ m, (m = a ∨ m = b) ∧ atI ([.int a, .int b] : List V) r = some (V.int m) := by
  obtain rfl | rfl : r = 0 ∨ r = 1 := by omega
  · exact ⟨a, .inl rfl, rfl⟩
  · exact ⟨b, .inr rfl, rfl⟩
theorem mod_bd {x m k : Int} (h : 0 < m) (hk : m ≤ k) : 0 ≤ x % m ∧ x % m < k := ⟨Int.emod_nonneg _ (by omega), by have := Int.emod_lt_of_pos x h; omega⟩
local macro_rules | `(tactic| walk_at "dg") => `(tactic| first
  | exact KR.pg_lengths (by walk_at "hp")
  | exact KR.pg_size (by walk_at "hp")
  | exact KR.pg_fanout (by walk_at "hp")
  | exact KR.pg_records (by walk_at "hp")
  | exact KR.pg_every (by walk_at "hp")
  | exact KR.pg_keep (by walk_at "hp"))
theorem b_law_parts {K : PySem.W.Frag} {fd : FuncData} (F : F_law_parts K fd) : Binds K fd P_law_parts [] := FunD.bindsN F fun _ _ _ _ _ _ us hl => match us, hl with | [_], _ => rfl
theorem ok_law_parts (T : Txt K mg D) : FnOk P w K mg base CX0 1 (He.fAd K ("_law_parts", none)) (D D_law_parts) P_law_parts sp_law_parts := by
  refine T.d_law_parts.ok sc_law_parts (fun vs H Q E h => ?_) (fun cdv A outer s H vs Q E hr h => ?_)
  · unfold sp_law_parts at h
    first | (obtain ⟨rfl, _⟩ := h; rfl) | (obtain ⟨_, rfl, _⟩ := h; rfl) | (obtain ⟨_, _, rfl, _⟩ := h; rfl) | (obtain ⟨_, _, _, rfl, _⟩ := h; rfl) | (obtain ⟨_, _, _, _, rfl, _⟩ := h; rfl) | (obtain ⟨_, _, _, _, _, rfl, _⟩ := h; rfl) | (obtain ⟨_, _, _, _, _, _, rfl, _⟩ := h; rfl) | (obtain ⟨_, _, _, _, _, _, _, rfl, _⟩ := h; rfl) | (obtain ⟨_, _, _, _, _, _, _, _, rfl, _⟩ := h; rfl) | (obtain ⟨_, _, _, _, _, _, _, _, _, rfl, _⟩ := h; rfl) | (obtain ⟨_, _, _, _, _, _, _, _, _, _, rfl, _⟩ := h; rfl) | (obtain ⟨_, _, _, _, _, _, _, _, _, _, _, rfl, _⟩ := h; rfl)
  · refine ⟨_, PSs.nox (pss_cons (ps_set (i := 1) sc_law_parts.nd rfl (Or.inr rfl) (pe_op op_add pe_int (pe_op op_mod (pe_callTy call_int1 (by rfl) T.n_int (by decide +kernel) (pa_cons (pe_ix (ix_listK (K := K)) (pv 0) pe_int (fun _ _ => rfl)) pa_nil)) pe_int)))
      (pss_cons (ps_setLc (i := 2) (own := [("k", 4)]) rfl sc_law_parts.nd rfl rfl (sw_true rfl rfl rfl (by decide +kernel)) (pi_range1 (by rfl) T.n_range (pa_cons (pe_op op_add pe_int (pe_op op_mod (pe_callTy call_int1 (by rfl) T.n_int (by decide +kernel) (pa_cons (pe_ix (ix_listK (K := K)) (pv 0) pe_int (fun _ _ => rfl)) pa_nil)) pe_int)) pa_nil)) (blkOk_by (N := N_law_parts) (sc := defScope s_law_parts) (by decide +kernel)) (fun _ _ _ _ _ => (pg_name (i := 4) sc_law_parts.nd rfl (Or.inl rfl))) (fun _ _ _ _ _ => pts_nil) (fun _ _ _ _ _ => (pe_op op_add pe_int (pe_op op_mod (pe_callTy call_int1 (by rfl) T.n_int (by decide +kernel) (pa_cons (pe_ix (ix_listK (K := K)) (pv 0) (pe_op op_add pe_int (pv 4)) (fun _ _ => rfl)) pa_nil)) (pv 1)))))
      (pss_cons (ps_set (i := 3) sc_law_parts.nd rfl (Or.inl rfl) (pe_disp (pps_cons pe_str (pv 2) (pps_cons pe_str (pv 1) pps_nil)) (by rfl) (by rfl) (fun z => by cases z) (by decide)))
      (pss_cons (ps_dput (hu_of hr) (pv 3) pe_str (pe_op op_add pe_int (pe_op op_mod (pe_callTy call_int1 (by rfl) T.n_int (by decide +kernel) (pa_cons (pe_ix (ix_listK (K := K)) (pv 0) pe_int (fun _ _ => rfl)) pa_nil)) (pe_ix (ix_listK (K := K)) (pe_lst (pa_cons pe_int (pa_cons pe_int pa_nil))) (pe_op op_mod (pe_callTy call_int1 (by rfl) T.n_int (by decide +kernel) (pa_cons (pe_ix (ix_listK (K := K)) (pv 0) pe_int (fun _ _ => rfl)) pa_nil)) pe_int) (fun _ _ => rfl)))) rfl)
      (pss_cons (ps_dput (hu_of hr) (pv 3) pe_str (pe_op op_add pe_int (pe_op op_mod (pe_callTy call_int1 (by rfl) T.n_int (by decide +kernel) (pa_cons (pe_ix (ix_listK (K := K)) (pv 0) pe_int (fun _ _ => rfl)) pa_nil)) (pe_ix (ix_listK (K := K)) (pe_lst (pa_cons pe_int (pa_cons pe_int pa_nil))) (pe_op op_mod (pe_callTy call_int1 (by rfl) T.n_int (by decide +kernel) (pa_cons (pe_ix (ix_listK (K := K)) (pv 0) pe_int (fun _ _ => rfl)) pa_nil)) pe_int) (fun _ _ => rfl)))) rfl)
      (pss_cons (ps_dput (hu_of hr) (pv 3) pe_str (pe_op op_add pe_int (pe_op op_mod (pe_callTy call_int1 (by rfl) T.n_int (by decide +kernel) (pa_cons (pe_ix (ix_listK (K := K)) (pv 0) pe_int (fun _ _ => rfl)) pa_nil)) (pe_ix (ix_listK (K := K)) (pe_lst (pa_cons pe_int (pa_cons pe_int pa_nil))) (pe_op op_mod (pe_callTy call_int1 (by rfl) T.n_int (by decide +kernel) (pa_cons (pe_ix (ix_listK (K := K)) (pv 0) pe_int (fun _ _ => rfl)) pa_nil)) pe_int) (fun _ _ => rfl)))) rfl)
      (pss_cons (ps_dput (hu_of hr) (pv 3) pe_str (pe_op op_add pe_int (pe_op op_mod (pe_callTy call_int1 (by rfl) T.n_int (by decide +kernel) (pa_cons (pe_ix (ix_listK (K := K)) (pv 0) pe_int (fun _ _ => rfl)) pa_nil)) (pe_ix (ix_listK (K := K)) (pe_lst (pa_cons pe_int (pa_cons pe_int pa_nil))) (pe_op op_mod (pe_callTy call_int1 (by rfl) T.n_int (by decide +kernel) (pa_cons (pe_ix (ix_listK (K := K)) (pv 0) pe_int (fun _ _ => rfl)) pa_nil)) pe_int) (fun _ _ => rfl)))) rfl)
      (pss_one (ps_ret (pv 3)))))))))), ?_⟩
    unfold sp_law_parts at h
    obtain ⟨d, f, rfl, hf, hd, k⟩ := h
    have f0 := mod_bd (x := f 0) (show (0 : Int) < 6 by decide) (Int.le_refl 6)
    have f4 := mod_bd (x := f 4) (show (0 : Int) < 3 by decide) (Int.le_refl 3)
    walk_at "rd"
    intro D n1
    have ndD : d ≠ D := ne_of_none hd n1
    refine lc_range (lo := 0) (n := Int.toNat _) (fun i G => ∃ xs : List Int, xs.length = i ∧ (∀ x ∈ xs, 1 ≤ x ∧ x ≤ 1 + f 0 % 6) ∧ G D = some (.lst (xs.map V.int)) ∧ SX [D] H G) ⟨[], rfl, fun x hx => (nomatch hx), upd_same, SX.refl.mut n1⟩ ?_ ?_
    · rintro i G hi ⟨xs, hl, hb, hD, fx⟩
      refine ⟨rfl, ?_⟩
      have hdG := fx _ _ (by simp [ndD]) hd
      have hi3 : i < 3 := by omega
      walk_at "rd"
      refine ⟨_, _, _, _, rfl, rfl, SqL.of hdG, dg_at (j := 1 + i) (by omega) (by omega), ?_⟩
      walk_at "rd"
      have b := mod_bd (x := f (1 + i)) (show 0 < 1 + f 0 % 6 by omega) (Int.le_refl _)
      refine ⟨_, hD, szlt (by rw [List.length_map]; omega), xs ++ [1 + f (1 + i) % (1 + f 0 % 6)], by rw [List.length_append, hl]; rfl, fun x hx => ?_, by rw [upd_same, List.map_append]; rfl, fx.upd (by simp)⟩
      rcases List.mem_append.mp hx with h | h
      · exact hb x h
      · rw [List.mem_singleton.mp h]; omega
    · rintro G ⟨xs, hl, hb, hD, fx⟩
      have sHG : Same H G := fun b o ho => fx _ _ (by simp [ne_of_none ho n1]) ho
      have hdG := sHG _ _ hd
      walk_at "rd"
      intro P nP
      walk_at "rd"
      refine ⟨upd_same, [(.inr "lengths", .ref D), (.inr "size", .int (1 + f 0 % 6))], rfl, Nat.le_of_ble_eq_true rfl, ?_⟩
      rw [pd_merge]
      have hPG : ∀ o2 o, upd (upd G P o2) P o = upd G P o := fun o2 o => by
        funext z
        by_cases hz : z = P
        · subst hz; rw [upd_same, upd_same]
        · rw [upd_ne hz, upd_ne hz, upd_ne hz]
      rw [hPG]
      generalize e1 : upd G P _ = G1
      obtain ⟨s1, c1⟩ := gen_new nP e1
      clear e1
      have hd1 := s1 _ _ hdG
      have hD1 := s1 _ _ hD
      walk_at "rd"
      intro q2 n2
      generalize eG2 : upd _ q2 _ = G2
      obtain ⟨s2, c2⟩ := gen_new n2 eG2
      clear eG2
      obtain ⟨m5, hm5, at5⟩ := two_at (a := 3) (b := 7) (r := f 30 % 2) (Int.emod_nonneg _ (by decide)) (Int.emod_lt_of_pos _ (by decide))
      walk_at "rd"
      refine ⟨_, _, _, _, rfl, rfl, SqL.of c2, at5, ?_⟩
      walk_at "rd"
      refine ⟨_, _, rfl, put_k (s2 _ _ c1) (Nat.le_of_ble_eq_true rfl) pd_put1, ?_⟩
      generalize e3 : upd G2 P _ = G3
      obtain ⟨s3, c3⟩ := gen_st e3
      clear e3
      have npd : d ≠ P := ne_of_none hdG nP
      have npD : D ≠ P := ne_of_none hD nP
      have hd3 := s3 _ _ npd (s2 _ _ hd1)
      walk_at "rd"
      intro q4 n4
      generalize eG4 : upd _ q4 _ = G4
      obtain ⟨s4, c4⟩ := gen_new n4 eG4
      clear eG4
      obtain ⟨m6, hm6, at6⟩ := two_at (a := 4) (b := 16) (r := f 31 % 2) (Int.emod_nonneg _ (by decide)) (Int.emod_lt_of_pos _ (by decide))
      walk_at "rd"
      refine ⟨_, _, _, _, rfl, rfl, SqL.of c4, at6, ?_⟩
      walk_at "rd"
      refine ⟨_, _, rfl, put_k (s4 _ _ c3) (Nat.le_of_ble_eq_true rfl) pd_put2, ?_⟩
      generalize e5 : upd G4 P _ = G5
      obtain ⟨s5, c5⟩ := gen_st e5
      clear e5
      have hd5 := s5 _ _ npd (s4 _ _ hd3)
      walk_at "rd"
      intro q6 n6
      generalize eG6 : upd _ q6 _ = G6
      obtain ⟨s6, c6⟩ := gen_new n6 eG6
      clear eG6
      obtain ⟨m7, hm7, at7⟩ := two_at (a := 10) (b := 40) (r := f 32 % 2) (Int.emod_nonneg _ (by decide)) (Int.emod_lt_of_pos _ (by decide))
      walk_at "rd"
      refine ⟨_, _, _, _, rfl, rfl, SqL.of c6, at7, ?_⟩
      walk_at "rd"
      refine ⟨_, _, rfl, put_k (s6 _ _ c5) (Nat.le_of_ble_eq_true rfl) pd_put3, ?_⟩
      generalize e7 : upd G6 P _ = G7
      obtain ⟨s7, c7⟩ := gen_st e7
      clear e7
      have hd7 := s7 _ _ npd (s6 _ _ hd5)
      walk_at "rd"
      intro q8 n8
      generalize eG8 : upd _ q8 _ = G8
      obtain ⟨s8, c8⟩ := gen_new n8 eG8
      clear eG8
      obtain ⟨m8, hm8, at8⟩ := two_at (a := 12) (b := 100) (r := f 33 % 2) (Int.emod_nonneg _ (by decide)) (Int.emod_lt_of_pos _ (by decide))
      walk_at "rd"
      refine ⟨_, _, _, _, rfl, rfl, SqL.of c8, at8, ?_⟩
      walk_at "rd"
      refine ⟨_, _, rfl, put_k (s8 _ _ c7) (Nat.le_of_ble_eq_true rfl) pd_put4, ?_⟩
      generalize e9 : upd G8 P _ = G9
      obtain ⟨s9, c9⟩ := gen_st e9
      clear e9
      walk_at "rd"
      have nPH : H P = none := sHG.free nP
      have hD9 := s9 _ _ npD (s8 _ _ (s7 _ _ npD (s6 _ _ (s5 _ _ npD (s4 _ _ (s3 _ _ npD (s2 _ _ hD1)))))))
      have b5 := mod_bd (x := f 5) (show 0 < m5 by omega) (show m5 ≤ 7 by omega)
      have b6 := mod_bd (x := f 6) (show 0 < m6 by omega) (show m6 ≤ 16 by omega)
      have b7 := mod_bd (x := f 7) (show 0 < m7 by omega) (show m7 ≤ 40 by omega)
      have b8 := mod_bd (x := f 8) (show 0 < m8 by omega) (show m8 ≤ 100 by omega)
      refine k P ⟨xs, 1 + f 0 % 6, 2 + f 5 % m5, 1 + f 6 % m6, 1 + f 7 % m7, 1 + f 8 % m8⟩ G9 nPH ?_ ⟨?_, ?_, hb, ?_, ?_, ⟨?_, ?_⟩, ⟨?_, ?_⟩, ⟨?_, ?_⟩, ⟨?_, ?_⟩⟩ ?_ ⟨D, c9, hD9⟩
      · intro b o ho
        have nb : b ≠ P := ne_of_none ho nPH
        exact s9 _ _ nb (s8 _ _ (s7 _ _ nb (s6 _ _ (s5 _ _ nb (s4 _ _ (s3 _ _ nb (s2 _ _ (s1 _ _ (sHG _ _ ho)))))))))
      all_goals simp only []
      all_goals omega

@[irreducible] def sp_law_settings (K : PySem.W.Frag) : Sp := fun vs H Q _ => ∃ (a : Addr) (p : Prt), vs = [.ref a] ∧ PdAt H a p ∧ p.Ok ∧ ∀ b H', H b = none → Same H H' → SetAt K H' b p → Q (.ref b) H'
theorem use_settings {K : PySem.W.Frag} {a : Addr} {p : Prt} {H : Hp} {Q : VK} {E : XK} (h : PdAt H a p) (ok : p.Ok) (k : ∀ b H', H b = none → Same H H' → SetAt K H' b p → Q (.ref b) H') : sp_law_settings K [.ref a] H Q E := by
  unfold sp_law_settings; exact ⟨a, p, rfl, h, ok, k⟩
theorem b_law_settings {K : PySem.W.Frag} {fd : FuncData} (F : F_law_settings K fd) : Binds K fd P_law_settings [] := FunD.bindsN F fun _ _ _ _ _ _ us hl => match us, hl with | [_], _ => rfl
theorem ok_law_settings (T : Txt K mg D) : FnOk P w K mg base CX0 6 (He.fAd K ("_law_settings", none)) (D D_law_settings) P_law_settings (sp_law_settings K) := by
  refine T.d_law_settings.ok sc_law_settings (fun vs H Q E h => ?_) (fun cdv A outer s H vs Q E hr h => ?_)
  · unfold sp_law_settings at h
    first | (obtain ⟨rfl, _⟩ := h; rfl) | (obtain ⟨_, rfl, _⟩ := h; rfl) | (obtain ⟨_, _, rfl, _⟩ := h; rfl) | (obtain ⟨_, _, _, rfl, _⟩ := h; rfl) | (obtain ⟨_, _, _, _, rfl, _⟩ := h; rfl) | (obtain ⟨_, _, _, _, _, rfl, _⟩ := h; rfl) | (obtain ⟨_, _, _, _, _, _, rfl, _⟩ := h; rfl) | (obtain ⟨_, _, _, _, _, _, _, rfl, _⟩ := h; rfl) | (obtain ⟨_, _, _, _, _, _, _, _, rfl, _⟩ := h; rfl) | (obtain ⟨_, _, _, _, _, _, _, _, _, rfl, _⟩ := h; rfl) | (obtain ⟨_, _, _, _, _, _, _, _, _, _, rfl, _⟩ := h; rfl) | (obtain ⟨_, _, _, _, _, _, _, _, _, _, _, rfl, _⟩ := h; rfl)
  · refine ⟨_, PSs.nox (pss_cons (ps_asg (pe_lc (own := [("word", 5)]) rfl sc_law_settings.nd (pi_list (pe_lst (pa_cons pe_str (pa_cons pe_str (pa_cons pe_str (pa_cons pe_str pa_nil)))))) (blkOk_by (N := N_law_settings) (sc := defScope s_law_settings) (by decide +kernel)) (fun _ _ _ _ _ => (pg_name (i := 5) sc_law_settings.nd rfl (Or.inl rfl))) (fun _ _ _ _ _ => pts_nil) (fun _ _ _ _ _ => (pe_dget (hu_of hr) (pv 0) (pv 5) (fun _ _ => rfl)))) (pg_unl rfl (pgs_cons (pg_name (i := 1) sc_law_settings.nd rfl (Or.inl rfl)) (pgs_cons (pg_name (i := 2) sc_law_settings.nd rfl (Or.inl rfl)) (pgs_cons (pg_name (i := 3) sc_law_settings.nd rfl (Or.inl rfl)) (pgs_cons (pg_name (i := 4) sc_law_settings.nd rfl (Or.inl rfl)) pgs_nil))))))
      (pss_one (ps_ret (pe_makeK T.mk_Settings (ok_Settings___init__ T) (hr.mono (by decide)) rfl T.g_Settings (b_Settings___init__ T.d_Settings___init__) pass0 (pa_cons (pe_dget (hu_of hr) (pv 0) pe_str (fun _ _ => rfl)) (pa_cons (pe_dget (hu_of hr) (pv 0) pe_str (fun _ _ => rfl)) pa_nil)) (pk_cons (pv 1) (pk_cons (pv 2) (pk_cons (pv 3) (pk_cons (pv 4) pk_nil)))))))), ?_⟩
    unfold sp_law_settings at h
    obtain ⟨a, p, rfl, ⟨l, ha, hl⟩, ok, k⟩ := h
    walk_at "rd"
    intro q n1
    generalize eH1 : upd _ q _ = H1
    obtain ⟨s1, c1⟩ := gen_new n1 eH1
    clear eH1
    walk_at "rd"
    have ha1 := s1 _ _ ha
    intro D n2
    have naD : a ≠ D := ne_of_none ha1 n2
    refine lc_list (K := K) (a := q) (xs := [.str "fanout", .str "records", .str "every", .str "keep"]) (fun i G => SX [D] H1 G ∧ G D = some (.lst (([.int p.fan, .int p.rec_, .int p.every, .int p.keep] : List V).take i))) ⟨SX.refl.mut n2, upd_same⟩ ?_ ?_ ?_
    · rintro i G _ ⟨f, _⟩
      exact SqL.of (f _ _ (by simp [ne_of_none c1 n2]) c1)
    · rintro i x G hx ⟨f, hD⟩
      have haG := f _ _ (by simp [naD]) ha1
      refine ⟨rfl, ?_⟩
      match i, hx with
      | 0, hx =>
        cases hx
        walk_at "rd"
        exact ⟨_, hD, szlt (Nat.le_of_ble_eq_true rfl), f.upd (by simp), upd_same⟩
      | 1, hx =>
        cases hx
        walk_at "rd"
        exact ⟨_, hD, szlt (Nat.le_of_ble_eq_true rfl), f.upd (by simp), upd_same⟩
      | 2, hx =>
        cases hx
        walk_at "rd"
        exact ⟨_, hD, szlt (Nat.le_of_ble_eq_true rfl), f.upd (by simp), upd_same⟩
      | 3, hx =>
        cases hx
        walk_at "rd"
        exact ⟨_, hD, szlt (Nat.le_of_ble_eq_true rfl), f.upd (by simp), upd_same⟩
      | i + 4, hx => simp at hx
    rintro G ⟨f, hD⟩
    have sG : Same H G := fun b o ho => f _ _ (by simp [ne_of_none (s1 _ _ ho) n2]) (s1 _ _ ho)
    have hDG : G D = some (.lst [.int p.fan, .int p.rec_, .int p.every, .int p.keep]) := hD
    have haG := sG _ _ ha
    have hlG := sG _ _ hl
    refine ⟨_, _, rfl, SqL.of hDG, rfl, ?_⟩
    walk_at "rd"
    intro b dx n ndb neb
    generalize eG2 : upd (upd _ dx _) b _ = G2
    obtain ⟨s, c⟩ := gen_mk n ndb eG2
    clear eG2
    refine use_set_init c (s _ _ hlG) ok fun H2 s2 st => ?_
    walk_at "rd"
    exact k b H2 (sG.free n) (sG.trans (same_sb_new s s2 n)) st

theorem on_ex {p : Prt} (ok : p.Ok) : ∀ r, ∃ n, On p r n
  | 0 => ⟨0, Nat.le_refl _, start_lt ok 0⟩
  | r + 1 => by
    obtain ⟨n, h1, h2⟩ := on_ex ok r
    by_cases h : r + 1 < startN p (n + 1)
    · exact ⟨n, by omega, h⟩
    · exact ⟨n + 1, by omega, by have := start_lt ok (n + 1); omega⟩
/-- the page of row r -/
noncomputable def pgN (p : Prt) (r : Nat) : Nat := open Classical in if h : ∃ n, On p r n then h.choose else 0
theorem pgN_on {p : Prt} (ok : p.Ok) (r : Nat) : On p r (pgN p r) := by
  unfold pgN
  rw [dif_pos (on_ex ok r)]
  exact (on_ex ok r).choose_spec
theorem pgN_eq {p : Prt} (ok : p.Ok) {r n : Nat} (h : On p r n) : pgN p r = n := (pgN_on ok r).uniq ok h
theorem pgN_le {p : Prt} (ok : p.Ok) (r : Nat) : pgN p r ≤ r := (pgN_on ok r).le ok
theorem pgN_mono {p : Prt} (ok : p.Ok) {r q : Nat} (h : r ≤ q) : pgN p r ≤ pgN p q := by
  by_cases c : pgN p r ≤ pgN p q
  · exact c
  · have h1 := (pgN_on ok r).1
    have h2 := (pgN_on ok q).2
    have := start_mono ok (show pgN p q + 1 ≤ pgN p r by omega)
    omega
theorem start_diff {p : Prt} (ok : p.Ok) (m : Nat) : ∀ k, startN p m + k ≤ startN p (m + k)
  | 0 => Nat.le_refl _
  | k + 1 => by have := start_diff ok m k; have := start_lt ok (m + k); rw [show m + (k + 1) = m + k + 1 by omega]; omega
theorem pgN_diff {p : Prt} (ok : p.Ok) {r q : Nat} (h : r ≤ q) : pgN p q ≤ pgN p r + (q - r) := by
  by_cases c : pgN p q ≤ pgN p r + (q - r)
  · exact c
  · have h1 := (pgN_on ok r).2
    have h2 := (pgN_on ok q).1
    have h3 := start_diff ok (pgN p r + 1) (q - r)
    have := start_mono ok (show pgN p r + 1 + (q - r) ≤ pgN p q by omega)
    omega
theorem pgN_start {p : Prt} (ok : p.Ok) (n : Nat) : pgN p (startN p n) = n := pgN_eq ok ⟨Nat.le_refl _, start_lt ok n⟩
theorem usum_hi {p : Prt} (ok : p.Ok) (r k : Nat) (h : k ≤ rowsF p r) : (k : Int) ≤ p.size := by
  have h1 := usum_ge ok r (rowsF p r)
  have h2 := (rowsF_ok ok r).1
  omega
theorem start_le_size {p : Prt} (ok : p.Ok) : ∀ n : Nat, (startN p n : Int) ≤ p.size * (n : Int)
  | 0 => by simp [startN]
  | n + 1 => by
    have h1 := start_le_size ok n
    have h2 := usum_hi ok (startN p n) _ (Nat.le_refl _)
    have e : p.size * ((n + 1 : Nat) : Int) = p.size * (n : Int) + p.size := by push_cast; rw [Int.mul_add, Int.mul_one]
    rw [e]
    simp only [startN]
    push_cast
    omega
@[irreducible] def sp_page_at (K : PySem.W.Frag) : Sp := fun vs H Q _ => ∃ (b : Addr) (p : Prt) (r : Nat), vs = [.ref b, .int r] ∧ SetAt K H b p ∧ p.Ok ∧ ∀ H', Same H H' → Q (.int (pgN p r)) H'
theorem use_page_at {K : PySem.W.Frag} {b : Addr} {p : Prt} {r : Nat} {H : Hp} {Q : VK} {E : XK} {i : Int} (hi : i = (r : Int)) (h : SetAt K H b p) (ok : p.Ok) (k : ∀ H', Same H H' → Q (.int (pgN p r)) H') : sp_page_at K [.ref b, .int i] H Q E := by
  subst hi; unfold sp_page_at; exact ⟨b, p, r, rfl, h, ok, k⟩
@[irreducible] def sp_first_at (K : PySem.W.Frag) : Sp := fun vs H Q _ => ∃ (b : Addr) (p : Prt) (n : Nat), vs = [.ref b, .int n] ∧ SetAt K H b p ∧ p.Ok ∧ ∀ H', Same H H' → Q (.int (startN p n)) H'
theorem use_first_at {K : PySem.W.Frag} {b : Addr} {p : Prt} {n : Nat} {H : Hp} {Q : VK} {E : XK} {i : Int} (hi : i = (n : Int)) (h : SetAt K H b p) (ok : p.Ok) (k : ∀ H', Same H H' → Q (.int (startN p n)) H') : sp_first_at K [.ref b, .int i] H Q E := by
  subst hi; unfold sp_first_at; exact ⟨b, p, n, rfl, h, ok, k⟩
theorem ip_mul {X : Cx} : PIp X .Mult (rI CMul fun i j => .int (i * j)) := iop_mul
@[irreducible] def sp_multiplied : Sp := fun vs H Q _ => ∃ (b : Int) (k : Nat), vs = [.int b, .int k] ∧ (0 ≤ b ∧ b ≤ 1000) ∧ k ≤ 1000 ∧ Q (.int (b ^ k)) H
theorem use_mult {b i : Int} {k : Nat} {H : Hp} {Q : VK} {E : XK} (hi : i = (k : Int)) (hb : 0 ≤ b ∧ b ≤ 1000) (hk : k ≤ 1000) (q : Q (.int (b ^ k)) H) : sp_multiplied [.int b, .int i] H Q E := by
  subst hi; unfold sp_multiplied; exact ⟨b, k, rfl, hb, hk, q⟩
/-- the first row that is kept -/
def kbN (p : Prt) (m : Nat) : Nat := m - p.keep.toNat
theorem kb_max {p : Prt} (ok : p.Ok) (m : Nat) : (if (m : Int) - p.keep > 0 then (m : Int) - p.keep else 0) = (kbN p m : Int) := by
  have := ok.k
  unfold kbN
  split <;> omega
theorem kb_le {p : Prt} (ok : p.Ok) (m : Nat) : kbN p m ≤ m ∧ m ≤ kbN p m + 100 := by
  have := ok.k
  unfold kbN
  omega
theorem kb_eq {p : Prt} (ok : p.Ok) (m : Nat) : kbN p m = m ↔ m = 0 := by
  have := ok.k
  unfold kbN
  omega
theorem least_ex {P : Nat → Prop} : ∀ n, P n → ∃ m, m ≤ n ∧ P m ∧ ∀ i, i < m → ¬ P i := by
  intro n
  induction n using Nat.strongRecOn with
  | ind n ih =>
    intro h
    by_cases c : ∃ i, i < n ∧ P i
    · obtain ⟨i, hi, hp⟩ := c
      obtain ⟨m, h1, h2, h3⟩ := ih i hi hp
      exact ⟨m, by omega, h2, h3⟩
    · exact ⟨n, Nat.le_refl n, h, fun i hi hp => c ⟨i, hi, hp⟩⟩
def IsHt (f b e L : Nat) : Prop := 1 ≤ L ∧ b / f ^ L = e / f ^ L ∧ ∀ i, 1 ≤ i → i < L → b / f ^ i ≠ e / f ^ i
theorem IsHt.uniq {f b e L M : Nat} (h : IsHt f b e L) (k : IsHt f b e M) : L = M := by
  by_cases c : L < M
  · exact absurd h.2.1 (k.2.2 L h.1 c)
  · by_cases d : M < L
    · exact absurd k.2.1 (h.2.2 M k.1 d)
    · omega
theorem pow_gt {f : Nat} (hf : 2 ≤ f) : ∀ n, n < f ^ n
  | 0 => by simp
  | n + 1 => by
    have := pow_gt hf n
    have h2 := Nat.mul_le_mul_left (f ^ n) hf
    rw [Nat.pow_succ]
    omega
theorem isht_ex {f b e : Nat} (hf : 2 ≤ f) (hb : b ≤ e) : ∃ L, IsHt f b e L ∧ L ≤ e + 1 := by
  have z : ∀ x, x ≤ e → x / f ^ (e + 1) = 0 := fun x hx => Nat.div_eq_of_lt (by have := pow_gt hf (e + 1); omega)
  obtain ⟨m, h1, h2, h3⟩ := least_ex (P := fun L => 1 ≤ L ∧ b / f ^ L = e / f ^ L) (e + 1) ⟨by omega, by rw [z b hb, z e (Nat.le_refl _)]⟩
  exact ⟨m, ⟨h2.1, h2.2, fun i hi hm he => h3 i hm ⟨hi, he⟩⟩, h1⟩
/-- the height behind so many rows -/
noncomputable def ht (p : Prt) (j : Nat) : Nat := open Classical in if j = 0 then 0 else if h : ∃ L, IsHt p.fan.toNat (pgN p (kbN p j)) (pgN p (j - 1)) L then h.choose else 0
theorem fan2 {p : Prt} (ok : p.Ok) : 2 ≤ p.fan.toNat := by have := ok.f; omega
theorem kb_pg {p : Prt} (ok : p.Ok) {j : Nat} (h : 1 ≤ j) : pgN p (kbN p j) ≤ pgN p (j - 1) := pgN_mono ok (by have := ok.k; unfold kbN; omega)
theorem ht_is {p : Prt} (ok : p.Ok) {j : Nat} (h : 1 ≤ j) : IsHt p.fan.toNat (pgN p (kbN p j)) (pgN p (j - 1)) (ht p j) := by
  obtain ⟨L, hL, _⟩ := isht_ex (fan2 ok) (kb_pg ok h)
  unfold ht
  rw [if_neg (by omega), dif_pos ⟨L, hL⟩]
  exact Exists.choose_spec (p := fun L => IsHt p.fan.toNat (pgN p (kbN p j)) (pgN p (j - 1)) L) ⟨L, hL⟩
theorem ht_zero (p : Prt) : ht p 0 = 0 := by unfold ht; rw [if_pos rfl]
theorem ht_small {p : Prt} (ok : p.Ok) {j : Nat} (h : j ≤ 1000000000000000000000000000001) : ht p j ≤ 101 := by
  by_cases h0 : j = 0
  · subst h0; rw [ht_zero]; omega
  · have hi := ht_is ok (show 1 ≤ j by omega)
    by_cases c : ht p j ≤ 101
    · exact c
    · have hne := hi.2.2 101 (by omega) (by omega)
      have hle := kb_pg ok (show 1 ≤ j by omega)
      have hb : pgN p (j - 1) < p.fan.toNat ^ 101 := by
        have h1 := pgN_le ok (j - 1)
        have h2 := Nat.pow_le_pow_left (fan2 ok) 101
        have h3 : 1000000000000000000000000000001 < 2 ^ 101 := by decide
        omega
      rw [Nat.div_eq_of_lt hb, Nat.div_eq_of_lt (Nat.lt_of_le_of_lt hle hb)] at hne
      exact absurd rfl hne
@[irreducible] def sp_root_level : Sp := fun vs H Q _ => ∃ (b e L : Nat) (f : Int), vs = [.int b, .int e, .int f] ∧ (2 ≤ f ∧ f ≤ 8) ∧ IsHt f.toNat b e L ∧ Q (.int ((L - 1 : Nat) : Int)) H
theorem use_root_level {b e L : Nat} {f i j : Int} {H : Hp} {Q : VK} {E : XK} (hi : i = (b : Int)) (hj : j = (e : Int)) (hf : 2 ≤ f ∧ f ≤ 8) (h : IsHt f.toNat b e L) (q : Q (.int ((L - 1 : Nat) : Int)) H) : sp_root_level [.int i, .int j, .int f] H Q E := by
  subst hi hj; unfold sp_root_level; exact ⟨b, e, L, f, rfl, hf, h, q⟩
theorem div_pow {f : Int} (hf : 2 ≤ f) (x k : Nat) : ((x / f.toNat ^ k : Nat) : Int) / f = ((x / f.toNat ^ (k + 1) : Nat) : Int) := by
  rw [Nat.pow_succ, ← Nat.div_div_eq_div_mul, Int.natCast_ediv (x / f.toNat ^ k), Int.toNat_of_nonneg (by omega)]
theorem div_one' {f : Int} (hf : 2 ≤ f) (x : Nat) : (x : Int) / f = ((x / f.toNat ^ 1 : Nat) : Int) := by
  have := div_pow hf x 0
  rw [Nat.pow_zero, Nat.div_one] at this
  exact this
theorem b_root_level {K : PySem.W.Frag} {fd : FuncData} (F : F_root_level K fd) : Binds K fd P_root_level [] := FunD.bindsN F fun _ _ _ _ _ _ us hl => match us, hl with | [_, _, _], _ => rfl
theorem ok_root_level (T : Txt K mg D) : FnOk P w K mg base CX0 1 (He.fAd K ("root_level", none)) (D D_root_level) P_root_level sp_root_level := by
  refine T.d_root_level.ok sc_root_level (fun vs H Q E h => ?_) (fun cdv A outer s H vs Q E hr h => ?_)
  · unfold sp_root_level at h
    first | (obtain ⟨rfl, _⟩ := h; rfl) | (obtain ⟨_, rfl, _⟩ := h; rfl) | (obtain ⟨_, _, rfl, _⟩ := h; rfl) | (obtain ⟨_, _, _, rfl, _⟩ := h; rfl) | (obtain ⟨_, _, _, _, rfl, _⟩ := h; rfl) | (obtain ⟨_, _, _, _, _, rfl, _⟩ := h; rfl) | (obtain ⟨_, _, _, _, _, _, rfl, _⟩ := h; rfl) | (obtain ⟨_, _, _, _, _, _, _, rfl, _⟩ := h; rfl) | (obtain ⟨_, _, _, _, _, _, _, _, rfl, _⟩ := h; rfl) | (obtain ⟨_, _, _, _, _, _, _, _, _, rfl, _⟩ := h; rfl) | (obtain ⟨_, _, _, _, _, _, _, _, _, _, rfl, _⟩ := h; rfl) | (obtain ⟨_, _, _, _, _, _, _, _, _, _, _, rfl, _⟩ := h; rfl)
  · refine ⟨_, PSs.nox (pss_cons (ps_par3 (i := 0) (j := 1) (l := 3) rfl sc_root_level.nd rfl rfl rfl (by decide) (by decide) (by decide) rfl rfl rfl (pa_cons (pe_op op_fdivW (pv 0) (pv 2)) (pa_cons (pe_op op_fdivW (pv 1) (pv 2)) (pa_cons pe_int pa_nil))) (by rfl))
      (pss_cons (ps_while PassesOwn.never (pt_cmpR op_ne (pv 0) (pv 1) (nomark _)) (pss_one (ps_par3 (i := 0) (j := 1) (l := 3) rfl sc_root_level.nd rfl rfl rfl (by decide) (by decide) (by decide) rfl rfl rfl (pa_cons (pe_op op_fdivW (pv 0) (pv 2)) (pa_cons (pe_op op_fdivW (pv 1) (pv 2)) (pa_cons (pe_op op_add (pv 3) pe_int) pa_nil))) (by rfl))))
      (pss_one (ps_ret (pv 3))))), ?_⟩
    unfold sp_root_level at h
    obtain ⟨b, e, L, f, rfl, ⟨f0, f1⟩, hL, q⟩ := h
    walk_at "rd"
    refine ⟨fun m σ H' => H' = H ∧ ∃ i : Nat, σ = [some (.int (b / f.toNat ^ (i + 1) : Nat)), some (.int (e / f.toNat ^ (i + 1) : Nat)), some (.int f), some (.int (i : Nat))] ∧ i + 1 ≤ L ∧ m = L - i, ⟨L, rfl, 0, ?_, hL.1, rfl⟩, ?_⟩
    · exact congr (congrArg (fun u v : Int => ([some (.int u), some (.int v), some (.int f), some (.int 0)] : L2.St)) (div_one' f0 b)) (div_one' f0 e)
    rintro m σ H' ⟨rfl, i, rfl, hi, rfl⟩
    walk_at "rd"
    refine iteB (fun d => ?_) (fun d => ?_)
    · have hne : b / f.toNat ^ (i + 1) ≠ e / f.toNat ^ (i + 1) := fun z => by
        rw [z, decide_eq_true rfl] at d
        cases d
      have hlt : i + 1 < L := by
        by_cases z : i + 1 = L
        · rw [z] at hne; exact absurd hL.2.1 hne
        · omega
      refine ⟨fun σ' H'' => ∃ m', m' < L - i ∧ H'' = H' ∧ ∃ i : Nat, σ' = [some (.int (b / f.toNat ^ (i + 1) : Nat)), some (.int (e / f.toNat ^ (i + 1) : Nat)), some (.int f), some (.int (i : Nat))] ∧ i + 1 ≤ L ∧ m' = L - i, fun _ _ h => h, ?_⟩
      walk_at "rd"
      refine ⟨L - (i + 1), by omega, rfl, i + 1, ?_, hlt, rfl⟩
      exact congr (congrArg (fun u v : Int => ([some (.int u), some (.int v), some (.int f), some (.int ((i + 1 : Nat) : Int))] : L2.St)) (div_pow f0 b (i + 1))) (div_pow f0 e (i + 1))
    · have heq : b / f.toNat ^ (i + 1) = e / f.toNat ^ (i + 1) := by
        have d2 := of_decide_eq_true (show decide (V.int ((b / f.toNat ^ (i + 1) : Nat) : Int) = V.int ((e / f.toNat ^ (i + 1) : Nat) : Int)) = true by revert d; cases decide (V.int ((b / f.toNat ^ (i + 1) : Nat) : Int) = V.int ((e / f.toNat ^ (i + 1) : Nat) : Int)) <;> simp)
        injection d2 with d2
        omega
      have hiL : i + 1 = L := by
        by_cases z : i + 1 = L
        · exact z
        · exact absurd heq (hL.2.2 (i + 1) (by omega) (by omega))
      walk_at "rd"
      rw [show L - 1 = i by omega] at q
      exact q

/-! ### a store, as numbers -/
/-- what stands behind an event's page -/
inductive Ro where
  | no
  | row (i : Int)
  | hp (n : Int)
  | nd (l n : Int)
  | lg (n : Int)
structure Ev where
  kind : Str
  page : Int
  ro : Ro
abbrev NK := Int × Int
structure Sx where
  done : Nat
  oldest : Nat
  heap : List Int
  nodes : List (NK × Int)
  top : Int
  log : List Int
  waiting : List Int
  changed : List Int
  free : List Int
  taken : Nat
  evs : List Ev
def aget (l : List (NK × Int)) (k : NK) : Option Int := (l.find? fun e => decide (e.1 = k)).map (·.2)
def aput (l : List (NK × Int)) (k : NK) (v : Int) : List (NK × Int) := if (l.any fun e => decide (e.1 = k)) = true then l.map (fun e => if e.1 = k then (e.1, v) else e) else l ++ [(k, v)]
def adrop (l : List (NK × Int)) (k : NK) : List (NK × Int) := l.filter fun e => decide (e.1 ≠ k)
def cput (l : List Int) (p : Int) : List Int := if p ∈ l then l else l ++ [p]
def cdrop (l : List Int) (p : Int) : List Int := l.filter fun x => decide (x ≠ p)
def nkK (k : NK) : List Key := [.inl k.1, .inl k.2]
def ndE (e : NK × Int) : List Key × V := (nkK e.1, .int e.2)
def chE (p : Int) : Key × V := (.inl p, .bl true)
theorem nkK_iff {a b : NK} : nkK a = nkK b ↔ a = b := by
  refine ⟨fun h => ?_, fun h => by rw [h]⟩
  unfold nkK at h
  simp only [List.cons.injEq, Sum.inl.injEq, and_true] at h
  exact Prod.ext h.1 h.2
theorem dec_nk {a b : NK} : decide (nkK a = nkK b) = decide (a = b) := by
  by_cases h : a = b
  · rw [decide_eq_true h, decide_eq_true (nkK_iff.mpr h)]
  · rw [decide_eq_false h, decide_eq_false (fun z => h (nkK_iff.mp z))]
theorem val_nd (k : NK) : ∀ l : List (NK × Int), valV (l.map ndE) (nkK k) = (aget l k).map V.int
  | [] => rfl
  | e :: l => by
    have ih := val_nd k l
    unfold valV aget at ih ⊢
    rw [List.map_cons, List.find?_cons, List.find?_cons]
    have : decide ((ndE e).1 = nkK k) = decide (e.1 = k) := dec_nk
    rw [this]
    by_cases h : e.1 = k
    · rw [decide_eq_true h]; rfl
    · rw [decide_eq_false h]; exact ih
theorem any_nd (k : NK) (l : List (NK × Int)) : ((l.map ndE).any fun kv => decide (kv.1 = nkK k)) = l.any fun e => decide (e.1 = k) := by
  rw [List.any_map]
  congr 1
  funext e
  exact dec_nk
theorem put_nd (k : NK) (v : Int) (l : List (NK × Int)) : putK (l.map ndE) (nkK k) (.int v) = (aput l k v).map ndE := by
  unfold putK aput
  rw [any_nd]
  by_cases h : (l.any fun e => decide (e.1 = k)) = true
  · rw [if_pos h, if_pos h, List.map_map, List.map_map]
    refine List.map_congr_left fun e _ => ?_
    show (if nkK e.1 = nkK k then (nkK e.1, V.int v) else ndE e) = ndE (if e.1 = k then (e.1, v) else e)
    by_cases c : e.1 = k
    · rw [if_pos (nkK_iff.mpr c), if_pos c]; rfl
    · rw [if_neg (fun z => c (nkK_iff.mp z)), if_neg c]
  · rw [if_neg h, if_neg h, List.map_append]
    rfl
theorem drop_nd (k : NK) (l : List (NK × Int)) : dropK (l.map ndE) (nkK k) = (adrop l k).map ndE := by
  unfold dropK adrop
  rw [List.filter_map]
  congr 1
  refine List.filter_congr fun e _ => ?_
  exact decide_eq_decide.mpr (not_congr nkK_iff)
theorem dec_ch {a b : Int} : decide ((Sum.inl a : Key) = Sum.inl b) = decide (a = b) := by
  by_cases h : a = b
  · rw [decide_eq_true h, decide_eq_true (by rw [h])]
  · rw [decide_eq_false h, decide_eq_false (fun z => h (Sum.inl.inj z))]
theorem any_ch (p : Int) (l : List Int) : ((l.map chE).any fun kv => decide (kv.1 = (Sum.inl p : Key))) = decide (p ∈ l) := by
  rw [List.any_map, Bool.eq_iff_iff, List.any_eq_true, decide_eq_true_iff]
  constructor
  · rintro ⟨x, hx, e⟩
    have e : decide ((Sum.inl x : Key) = Sum.inl p) = true := e
    rw [dec_ch, decide_eq_true_iff] at e
    rw [← e]; exact hx
  · intro h
    refine ⟨p, h, ?_⟩
    show decide ((Sum.inl p : Key) = Sum.inl p) = true
    exact decide_eq_true rfl
theorem put_ch (p : Int) (l : List Int) : putK (l.map chE) (Sum.inl p) (.bl true) = (cput l p).map chE := by
  unfold putK cput
  rw [any_ch]
  by_cases h : p ∈ l
  · rw [if_pos (decide_eq_true h), if_pos h, List.map_map]
    refine List.map_congr_left fun e _ => ?_
    show (if (Sum.inl e : Key) = Sum.inl p then ((Sum.inl e : Key), V.bl true) else chE e) = chE e
    by_cases c : (Sum.inl e : Key) = Sum.inl p
    · rw [if_pos c]; rfl
    · rw [if_neg c]
  · rw [if_neg (by rw [decide_eq_false h]; exact Bool.false_ne_true), if_neg h, List.map_append]
    rfl
theorem drop_ch (p : Int) (l : List Int) : dropK (l.map chE) (Sum.inl p) = (cdrop l p).map chE := by
  unfold dropK cdrop
  rw [List.filter_map]
  congr 1
  refine List.filter_congr fun e _ => ?_
  exact decide_eq_decide.mpr (not_congr ⟨fun z => Sum.inl.inj z, fun z => congrArg Sum.inl z⟩)
theorem cdrop_self {p : Int} {l : List Int} (h : valV (l.map chE) (Sum.inl p) = none) : cdrop l p = l := by
  unfold cdrop
  refine List.filter_eq_self.mpr fun x hx => decide_eq_true fun z => ?_
  have := valV_any (Sum.inl p : Key) (l.map chE)
  rw [h, any_ch] at this
  have h2 := of_decide_eq_false this
  rw [z] at hx
  exact h2 hx
theorem keys_ch (l : List Int) : (l.map chE).map (·.1) = l.map Sum.inl := by rw [List.map_map]; rfl
theorem keys_nd (l : List (NK × Int)) : (l.map ndE).map (·.1) = (l.map (·.1)).map (fun k => [Sum.inl k.1, Sum.inl k.2]) := by rw [List.map_map, List.map_map]; rfl
/-! the rows' doings -/
def Sx.ev (S : Sx) (k : Str) (p : Int) (r : Ro) : Sx := { S with evs := S.evs ++ [⟨k, p, r⟩] }
def Sx.mark (S : Sx) (p : Int) : Sx := { S with changed := cput S.changed p }
def Sx.takeP (S : Sx) : Int := if S.free = [] then (S.taken : Int) else S.free.getLastD 0
def Sx.taking (S : Sx) : Sx := if S.free = [] then { S with taken := S.taken + 1 } else { S with free := S.free.dropLast }
def Sx.takeS (S : Sx) (r : Ro) : Sx := S.taking.ev "take" S.takeP r
def Sx.give (S : Sx) (p : Int) (r : Ro) : Sx := ({ S with changed := cdrop S.changed p, waiting := S.waiting ++ [p] } : Sx).ev "give" p r
def Sx.change (S : Sx) (k : NK) : Sx := match aget S.nodes k with
  | none => S
  | some p => S.mark p
/-- the level of the root over the heap pages a .. b -/
noncomputable def rlv (f a b : Nat) : Nat := open Classical in if h : ∃ L, IsHt f a b L then h.choose - 1 else 0
theorem rlv_is {f a b : Nat} (hf : 2 ≤ f) (h : a ≤ b) : IsHt f a b (rlv f a b + 1) := by
  obtain ⟨L, hL, _⟩ := isht_ex hf h
  have ex : ∃ L, IsHt f a b L := ⟨L, hL⟩
  unfold rlv
  rw [dif_pos ex]
  have := ex.choose_spec
  have h1 := this.1
  rw [show ex.choose - 1 + 1 = ex.choose by omega]
  exact this
/-- the nodes of a level that a new heap page wants, by the new page's and the oldest page's -/
def wantL (n o : Int) (b : Bool) : List Int := if b = true then (if n = o then [n] else if n ≤ o then [n, o] else [o, n]) else [n]
def begunAt (f : Nat) (o n : Nat) (top : Int) (ns : List (NK × Int)) (i : Nat) : List NK := ((wantL ((n / f ^ (i + 1) : Nat) : Int) ((o / f ^ (i + 1) : Nat) : Int) (decide ((i : Int) > top))).map fun one => ((i : Int), one)).filter fun k => (aget ns k).isNone
def begunL (f : Nat) (o n : Nat) (top : Int) (ns : List (NK × Int)) (m : Nat) : List NK := (List.range m).flatMap fun i => begunAt f o n top ns i
def Sx.begin1 (S : Sx) (k : NK) : Sx := ({ S.takeS (.nd k.1 k.2) with nodes := aput S.nodes k S.takeP } : Sx).change k
def upK (f : Nat) (k : NK) : NK := (k.1 + 1, k.2 / (f : Int))
noncomputable def Sx.beginPage (S : Sx) (f : Nat) : Sx :=
  let n := S.oldest + S.heap.length
  let S2 := ({ S.takeS (.hp n) with heap := S.heap ++ [S.takeP] } : Sx).mark S.takeP
  let lv := rlv f S.oldest n
  let begun := begunL f S.oldest n S.top S.nodes (lv + 1)
  let S4 := begun.foldl Sx.begin1 { S2 with top := (lv : Int) }
  begun.foldl (fun T k => T.change (upK f k)) (S4.change (0, ((n / f : Nat) : Int)))
def lexB (a b : NK) : Bool := decide (a.1 < b.1 ∨ (a.1 = b.1 ∧ a.2 ≤ b.2))
def sortP (l : List NK) : List NK := l.mergeSort lexB
def sortI (l : List Int) : List Int := l.mergeSort fun a b => decide (a ≤ b)
theorem perm_uniq {α : Type} {R : α → α → Prop} (anti : ∀ a b, R a b → R b a → a = b) : ∀ {l m : List α}, l.Perm m → l.Pairwise R → m.Pairwise R → l = m
  | [], m, p, _, _ => (List.Perm.nil_eq p)
  | x :: l, [], p, _, _ => absurd p.length_eq (by simp)
  | x :: l, y :: m, p, h1, h2 => by
    have e : x = y := by
      rcases List.mem_cons.mp (p.mem_iff.mp List.mem_cons_self) with e | hx
      · exact e
      · rcases List.mem_cons.mp (p.mem_iff.mpr List.mem_cons_self) with e | hy
        · exact e.symm
        · exact anti x y ((List.pairwise_cons.mp h1).1 y hy) ((List.pairwise_cons.mp h2).1 x hx)
    subst e
    rw [perm_uniq anti p.cons_inv (List.pairwise_cons.mp h1).2 (List.pairwise_cons.mp h2).2]
theorem lexLe_anti (a b : Int × Int) (h1 : lexLe a b) (h2 : lexLe b a) : a = b := by
  unfold lexLe at h1 h2
  exact Prod.ext (by omega) (by omega)
theorem sortP_perm (l : List NK) : (sortP l).Perm l := List.mergeSort_perm _ _
theorem sortP_pw (l : List NK) : (sortP l).Pairwise lexLe := by
  have := List.pairwise_mergeSort (le := lexB) (fun a b c h1 h2 => by
    unfold lexB at *
    have h1 := of_decide_eq_true h1
    have h2 := of_decide_eq_true h2
    refine decide_eq_true ?_
    omega) (fun a b => by
    unfold lexB
    rw [Bool.or_eq_true, decide_eq_true_iff, decide_eq_true_iff]
    omega) l
  exact this.imp fun h => of_decide_eq_true h
theorem sortP_eq {L l : List NK} (p : L.Perm l) (h : L.Pairwise lexLe) : L = sortP l := perm_uniq lexLe_anti (p.trans (sortP_perm l).symm) h (sortP_pw l)
theorem sortI_perm (l : List Int) : (sortI l).Perm l := List.mergeSort_perm _ _
theorem sortI_pw (l : List Int) : (sortI l).Pairwise (· ≤ ·) := by
  have := List.pairwise_mergeSort (le := fun a b : Int => decide (a ≤ b)) (fun a b c h1 h2 => decide_eq_true (Int.le_trans (of_decide_eq_true h1) (of_decide_eq_true h2))) (fun a b => by
    rw [Bool.or_eq_true, decide_eq_true_iff, decide_eq_true_iff]
    omega) l
  exact this.imp fun h => of_decide_eq_true h
theorem sortI_eq {L l : List Int} (p : L.Perm l) (h : L.Pairwise (· ≤ ·)) : L = sortI l := perm_uniq (fun a b h1 h2 => Int.le_antisymm h1 h2) (p.trans (sortI_perm l).symm) h (sortI_pw l)
def endedL (f : Nat) (n : Nat) (ns : List (NK × Int)) (lv : Int) : List NK :=
  ((ns.map (·.1)).filter fun k => decide (k.1 > lv)) ++ (List.range (lv + 1).toNat).filterMap fun (i : Nat) => if n / f ^ (i + 1) ≠ (n + 1) / f ^ (i + 1) then some ((i : Int), ((n / f ^ (i + 1) : Nat) : Int)) else none
def Sx.end1 (S : Sx) (k : NK) : Sx := ({ S with nodes := adrop S.nodes k } : Sx).give ((aget S.nodes k).getD 0) (.nd k.1 k.2)
noncomputable def Sx.endLv (S : Sx) (f : Nat) : Int := if S.heap.tail = [] then -1 else (rlv f (S.oldest + 1) (S.oldest + S.heap.length - 1) : Nat)
noncomputable def Sx.endPage (S : Sx) (f : Nat) : Sx :=
  let n := S.oldest
  let S1 := ({ S with heap := S.heap.tail } : Sx).give (S.heap.headD 0) (.hp n)
  let lv := S.endLv f
  let ended := endedL f n S.nodes lv
  let S4 := (sortP ended).foldl Sx.end1 { S1 with oldest := n + 1, top := lv }
  ended.foldl (fun T k => T.change (upK f k)) (S4.change (0, ((n / f : Nat) : Int)))
def Sx.free1 (S : Sx) (p : Int) : Sx := ({ S with free := S.free ++ [p] } : Sx).ev "free" p .no
def Sx.checkpoint (S : Sx) : Sx :=
  let S1 := (sortI S.changed).foldl (fun T p => T.ev "write" p .no) S
  let S3 := (S.waiting ++ S.log).foldl Sx.free1 { S1 with changed := [] }
  { S3 with waiting := [], log := [] }
noncomputable def Sx.rowL (S : Sx) (p : Prt) : Sx := if (S.done % p.every.toNat) % p.rec_.toNat = 0 then { S.takeS (.lg ((S.done % p.every.toNat / p.rec_.toNat : Nat) : Int)) with log := S.log ++ [S.takeP] } else S
noncomputable def Sx.rowR (S : Sx) (p : Prt) : Sx := (S.rowL p).ev "record" ((S.rowL p).log.getLastD 0) (.row S.done)
noncomputable def Sx.rowH (S : Sx) (p : Prt) : Sx := if S.done = startN p ((S.rowR p).oldest + (S.rowR p).heap.length) then (S.rowR p).beginPage p.fan.toNat else S.rowR p
noncomputable def Sx.rowB (S : Sx) (p : Prt) : Sx := ((S.rowH p).mark ((S.rowH p).heap.getLastD 0)).ev "put" ((S.rowH p).heap.getLastD 0) (.row S.done)
noncomputable def Sx.rowE (S : Sx) (p : Prt) : Sx := if S.done + 1 = startN p ((S.rowB p).oldest + 1) + p.keep.toNat then (S.rowB p).endPage p.fan.toNat else S.rowB p
noncomputable def Sx.putRow (S : Sx) (p : Prt) : Sx := if (S.done + 1) % p.every.toNat = 0 then ({ S.rowE p with done := S.done + 1 } : Sx).checkpoint else { S.rowE p with done := S.done + 1 }
noncomputable def Sx.step (S : Sx) (p : Prt) : Sx := ({ S with evs := [] } : Sx).putRow p
def Sx.new : Sx := ⟨0, 0, [], [], -1, [], [], [], [], 0, []⟩
noncomputable def Sx.rows (p : Prt) : Nat → Sx
  | 0 => Sx.new
  | n + 1 => (Sx.rows p n).step p
/-! ### a store in the heap -/
structure SAd where
  a : Addr
  dx : Addr
  st : Addr
  pk : Addr
  h : Addr
  n : Addr
  l : Addr
  w : Addr
  c : Addr
  f : Addr
  e : Addr
def SAd.own (A : SAd) : List Addr := [A.a, A.h, A.n, A.l, A.w, A.c, A.f, A.e]
def RoV (H : Hp) (v : V) : Ro → Prop
  | .no => v = .non
  | .row i => v = .int i
  | .hp n => ∃ q, v = .ref q ∧ H q = some (.tup [.str "heap", .int n])
  | .nd l n => ∃ q, v = .ref q ∧ H q = some (.tup [.str "node", .int l, .int n])
  | .lg n => ∃ q, v = .ref q ∧ H q = some (.tup [.str "log", .int n])
def evT (k : Str) (p : Int) (rv : V) : Ro → List V
  | .no => [.str k, .int p]
  | _ => [.str k, .int p, rv]
def EvAt (H : Hp) (v : V) (e : Ev) : Prop := ∃ t rv, v = .ref t ∧ RoV H rv e.ro ∧ H t = some (.tup (evT e.kind e.page rv e.ro))
inductive EvsAt (H : Hp) : List V → List Ev → Prop
  | nil : EvsAt H [] []
  | cons {v : V} {e : Ev} {vs : List V} {es : List Ev} : EvAt H v e → EvsAt H vs es → EvsAt H (v :: vs) (e :: es)
/-- tuples stand -/
def TP (H H' : Hp) : Prop := ∀ b ys, H b = some (.tup ys) → H' b = some (.tup ys)
theorem TP.refl {H : Hp} : TP H H := fun _ _ h => h
theorem TP.trans {H H1 H2 : Hp} (a : TP H H1) (b : TP H1 H2) : TP H H2 := fun c y h => b c y (a c y h)
theorem _root_.L2.Same.tp {H H' : Hp} (s : Same H H') : TP H H' := fun b ys h => s b _ h
theorem TP.upd {H : Hp} {a : Addr} {o u : HO} (h : H a = some u) (nt : ∀ ys, u ≠ .tup ys) : TP H (L2.upd H a o) := fun b ys hb => by
  rw [upd_ne (fun z => by rw [z, h] at hb; cases hb; exact nt _ rfl)]; exact hb
theorem RoV.tp {H H' : Hp} (t : TP H H') {v : V} : ∀ {r : Ro}, RoV H v r → RoV H' v r
  | .no, h => h
  | .row _, h => h
  | .hp _, ⟨q, e, h⟩ => ⟨q, e, t _ _ h⟩
  | .nd _ _, ⟨q, e, h⟩ => ⟨q, e, t _ _ h⟩
  | .lg _, ⟨q, e, h⟩ => ⟨q, e, t _ _ h⟩
theorem EvAt.tp {H H' : Hp} (t : TP H H') {v : V} {e : Ev} (h : EvAt H v e) : EvAt H' v e := let ⟨a, rv, h1, h2, h3⟩ := h; ⟨a, rv, h1, h2.tp t, t _ _ h3⟩
theorem EvsAt.tp {H H' : Hp} (t : TP H H') {vs : List V} {es : List Ev} (h : EvsAt H vs es) : EvsAt H' vs es := by
  induction h with
  | nil => exact .nil
  | cons a _ ih => exact .cons (a.tp t) ih
theorem EvsAt.len {H : Hp} {vs : List V} {es : List Ev} (h : EvsAt H vs es) : vs.length = es.length := by
  induction h with
  | nil => rfl
  | cons _ _ ih => rw [List.length_cons, List.length_cons, ih]
theorem EvsAt.snoc {H : Hp} {vs : List V} {es : List Ev} {v : V} {e : Ev} (h : EvsAt H vs es) (x : EvAt H v e) : EvsAt H (vs ++ [v]) (es ++ [e]) := by
  induction h with
  | nil => exact .cons x .nil
  | cons a _ ih => exact .cons a ih
def stF (A : SAd) (S : Sx) : List (Str × V) := [("settings", .ref A.st), ("packing", .ref A.pk), ("done", .int S.done), ("oldest", .int S.oldest), ("heap", .ref A.h), ("node_places", .ref A.n), ("top_level", .int S.top), ("log", .ref A.l), ("waiting", .ref A.w), ("changed", .ref A.c), ("free_row", .ref A.f), ("taken_count", .int S.taken), ("events", .ref A.e)]
theorem lkS_settings {A : SAd} {S : Sx} : List.lookup ("settings" : Str) (stF A S) = some (V.ref A.st) := lk_Store_13_0
theorem lkS_packing {A : SAd} {S : Sx} : List.lookup ("packing" : Str) (stF A S) = some (V.ref A.pk) := lk_Store_13_1
theorem lkS_done {A : SAd} {S : Sx} : List.lookup ("done" : Str) (stF A S) = some (V.int S.done) := lk_Store_13_2
theorem lkS_oldest {A : SAd} {S : Sx} : List.lookup ("oldest" : Str) (stF A S) = some (V.int S.oldest) := lk_Store_13_3
theorem lkS_heap {A : SAd} {S : Sx} : List.lookup ("heap" : Str) (stF A S) = some (V.ref A.h) := lk_Store_13_4
theorem lkS_node_places {A : SAd} {S : Sx} : List.lookup ("node_places" : Str) (stF A S) = some (V.ref A.n) := lk_Store_13_5
theorem lkS_top_level {A : SAd} {S : Sx} : List.lookup ("top_level" : Str) (stF A S) = some (V.int S.top) := lk_Store_13_6
theorem lkS_log {A : SAd} {S : Sx} : List.lookup ("log" : Str) (stF A S) = some (V.ref A.l) := lk_Store_13_7
theorem lkS_waiting {A : SAd} {S : Sx} : List.lookup ("waiting" : Str) (stF A S) = some (V.ref A.w) := lk_Store_13_8
theorem lkS_changed {A : SAd} {S : Sx} : List.lookup ("changed" : Str) (stF A S) = some (V.ref A.c) := lk_Store_13_9
theorem lkS_free_row {A : SAd} {S : Sx} : List.lookup ("free_row" : Str) (stF A S) = some (V.ref A.f) := lk_Store_13_10
theorem lkS_taken_count {A : SAd} {S : Sx} : List.lookup ("taken_count" : Str) (stF A S) = some (V.int S.taken) := lk_Store_13_11
theorem lkS_events {A : SAd} {S : Sx} : List.lookup ("events" : Str) (stF A S) = some (V.ref A.e) := lk_Store_13_12
theorem lenS {A : SAd} {S : Sx} : (stF A S).length < 1000 := lt1000 rfl
theorem pF_taken {A : SAd} {S : Sx} : putF ("taken_count" : Str) (V.int ((S.taken : Int) + 1)) (stF A S) = stF A { S with taken := S.taken + 1 } := pu_Store_11
theorem pF_done {A : SAd} {S : Sx} : putF ("done" : Str) (V.int ((S.done : Int) + 1)) (stF A S) = stF A { S with done := S.done + 1 } := pu_Store_2
theorem pF_oldest {A : SAd} {S : Sx} : putF ("oldest" : Str) (V.int ((S.oldest : Int) + 1)) (stF A S) = stF A { S with oldest := S.oldest + 1 } := pu_Store_3
theorem pF_top {A : SAd} {S : Sx} {i : Int} : putF ("top_level" : Str) (V.int i) (stF A S) = stF A { S with top := i } := pu_Store_6
theorem pF_l {A : SAd} {S : Sx} {x : Addr} : putF ("log" : Str) (V.ref x) (stF A S) = stF { A with l := x } S := pu_Store_7
theorem pF_w {A : SAd} {S : Sx} {x : Addr} : putF ("waiting" : Str) (V.ref x) (stF A S) = stF { A with w := x } S := pu_Store_8
theorem pF_c {A : SAd} {S : Sx} {x : Addr} : putF ("changed" : Str) (V.ref x) (stF A S) = stF { A with c := x } S := pu_Store_9
theorem pF_e {A : SAd} {S : Sx} {x : Addr} : putF ("events" : Str) (V.ref x) (stF A S) = stF { A with e := x } S := pu_Store_12
structure StoreAt (K : PySem.W.Frag) (H : Hp) (A : SAd) (G : Hp) (p : Prt) (f1 p1 : Nat) (S : Sx) : Prop where
  a : H A.a = some (.ins (He.ga K "Store") A.dx (stF A S))
  h : H A.h = some (.lst (S.heap.map V.int))
  n : H A.n = some (.dT (S.nodes.map ndE))
  l : H A.l = some (.lst (S.log.map V.int))
  w : H A.w = some (.lst (S.waiting.map V.int))
  c : H A.c = some (.dK (S.changed.map chE))
  f : H A.f = some (.lst (S.free.map V.int))
  e : ∃ vs, H A.e = some (.lst vs) ∧ EvsAt H vs S.evs
  nd : A.own.Nodup
  g : Same G H
  gn : ∀ b ∈ A.own, G b = none
  set : SetAt K G A.st p
  pk : PkAt K G A.pk p f1 p1
/-- the frame of a store's doings -/
def SF (A : SAd) (H : Hp) (A' : SAd) (H' : Hp) : Prop := A'.a = A.a ∧ (∀ b o, b ∉ A.own → H b = some o → H' b = some o) ∧ (∀ b ∈ A'.own, b ∈ A.own ∨ H b = none) ∧ TP H H'
theorem SF.refl {A : SAd} {H : Hp} : SF A H A H := ⟨rfl, fun _ _ _ h => h, fun _ h => .inl h, TP.refl⟩
theorem SF.trans {A A1 A2 : SAd} {H H1 H2 : Hp} (x : SF A H A1 H1) (y : SF A1 H1 A2 H2) : SF A H A2 H2 := by
  refine ⟨y.1.trans x.1, fun b o nb hb => ?_, fun b hb => ?_, x.2.2.2.trans y.2.2.2⟩
  · have h1 := x.2.1 b o nb hb
    exact y.2.1 b o (fun z => (x.2.2.1 b z).elim nb (fun w => by rw [w] at hb; cases hb)) h1
  · rcases y.2.2.1 b hb with h | h
    · exact x.2.2.1 b h
    · by_cases c : b ∈ A.own
      · exact .inl c
      · cases q : H b with
        | none => exact .inr rfl
        | some o => rw [x.2.1 b o c q] at h; cases h
theorem SF.same {A : SAd} {H H' : Hp} (s : Same H H') : SF A H A H' := ⟨rfl, fun b o _ h => s b o h, fun _ h => .inl h, s.tp⟩
theorem SF.upd {A : SAd} {H : Hp} {x : Addr} {o u : HO} (hx : x ∈ A.own) (h : H x = some u) (nt : ∀ ys, u ≠ .tup ys) : SF A H A (L2.upd H x o) :=
  ⟨rfl, fun b v nb hb => by rw [upd_ne (fun z => nb (by rw [z]; exact hx))]; exact hb, fun _ z => .inl z, TP.upd h nt⟩
section
variable {K : PySem.W.Frag} {H H' : Hp} {A : SAd} {G : Hp} {p : Prt} {f1 p1 : Nat} {S : Sx}
theorem StoreAt.same (t : StoreAt K H A G p f1 p1 S) (s : Same H H') : StoreAt K H' A G p f1 p1 S :=
  ⟨s _ _ t.a, s _ _ t.h, s _ _ t.n, s _ _ t.l, s _ _ t.w, s _ _ t.c, s _ _ t.f, let ⟨vs, h1, h2⟩ := t.e; ⟨vs, s _ _ h1, h2.tp s.tp⟩, t.nd, fun b o h => s _ _ (t.g b o h), t.gn, t.set, t.pk⟩
theorem StoreAt.set' (t : StoreAt K H A G p f1 p1 S) : SetAt K H A.st p := t.set.same t.g
theorem StoreAt.pk' (t : StoreAt K H A G p f1 p1 S) : PkAt K H A.pk p f1 p1 := t.pk.same t.g
/-- the addresses are apart -/
structure Aps (A : SAd) : Prop where
  ah : A.a ≠ A.h
  an : A.a ≠ A.n
  al : A.a ≠ A.l
  aw : A.a ≠ A.w
  ac : A.a ≠ A.c
  af : A.a ≠ A.f
  ae : A.a ≠ A.e
  hn : A.h ≠ A.n
  hl : A.h ≠ A.l
  hw : A.h ≠ A.w
  hc : A.h ≠ A.c
  hf : A.h ≠ A.f
  he : A.h ≠ A.e
  nl : A.n ≠ A.l
  nw : A.n ≠ A.w
  nc : A.n ≠ A.c
  nf : A.n ≠ A.f
  ne : A.n ≠ A.e
  lw : A.l ≠ A.w
  lc : A.l ≠ A.c
  lf : A.l ≠ A.f
  le : A.l ≠ A.e
  wc : A.w ≠ A.c
  wf : A.w ≠ A.f
  we : A.w ≠ A.e
  cf : A.c ≠ A.f
  ce : A.c ≠ A.e
  fe : A.f ≠ A.e
theorem aps_of {A : SAd} (h : A.own.Nodup) : Aps A := by
  unfold SAd.own at h
  simp only [List.nodup_cons, List.mem_cons, List.not_mem_nil, or_false, not_or] at h
  obtain ⟨⟨h1, h2, h3, h4, h5, h6, h7⟩, ⟨k1, k2, k3, k4, k5, k6⟩, ⟨m1, m2, m3, m4, m5⟩, ⟨n1, n2, n3, n4⟩, ⟨o1, o2, o3⟩, ⟨q1, q2⟩, r1, _⟩ := h
  exact ⟨h1, h2, h3, h4, h5, h6, h7, k1, k2, k3, k4, k5, k6, m1, m2, m3, m4, m5, n1, n2, n3, n4, o1, o2, o3, q1, q2, r1⟩
theorem own_a {A : SAd} : A.a ∈ A.own := by simp [SAd.own]
theorem own_h {A : SAd} : A.h ∈ A.own := by simp [SAd.own]
theorem own_n {A : SAd} : A.n ∈ A.own := by simp [SAd.own]
theorem own_l {A : SAd} : A.l ∈ A.own := by simp [SAd.own]
theorem own_w {A : SAd} : A.w ∈ A.own := by simp [SAd.own]
theorem own_c {A : SAd} : A.c ∈ A.own := by simp [SAd.own]
theorem own_f {A : SAd} : A.f ∈ A.own := by simp [SAd.own]
theorem own_e {A : SAd} : A.e ∈ A.own := by simp [SAd.own]
theorem StoreAt.gupd (t : StoreAt K H A G p f1 p1 S) {x : Addr} {o : HO} (hx : x ∈ A.own) : Same G (L2.upd H x o) := fun b u h => by
  rw [upd_ne (fun z => by have := t.gn x hx; rw [← z, h] at this; cases this)]; exact t.g b u h
theorem StoreAt.u_h (t : StoreAt K H A G p f1 p1 S) (xs : List Int) : StoreAt K (L2.upd H A.h (.lst (xs.map V.int))) A G p f1 p1 { S with heap := xs } := by
  have d := aps_of t.nd
  have tp : TP H (L2.upd H A.h (.lst (xs.map V.int))) := TP.upd t.h fun _ z => nomatch z
  exact ⟨by rw [upd_ne d.ah]; exact t.a, upd_same, by rw [upd_ne d.hn.symm]; exact t.n, by rw [upd_ne d.hl.symm]; exact t.l, by rw [upd_ne d.hw.symm]; exact t.w, by rw [upd_ne d.hc.symm]; exact t.c, by rw [upd_ne d.hf.symm]; exact t.f,
    let ⟨vs, h1, h2⟩ := t.e; ⟨vs, by rw [upd_ne d.he.symm]; exact h1, h2.tp tp⟩, t.nd, t.gupd own_h, t.gn, t.set, t.pk⟩
theorem StoreAt.u_n (t : StoreAt K H A G p f1 p1 S) (xs : List (NK × Int)) : StoreAt K (L2.upd H A.n (.dT (xs.map ndE))) A G p f1 p1 { S with nodes := xs } := by
  have d := aps_of t.nd
  have tp : TP H (L2.upd H A.n (.dT (xs.map ndE))) := TP.upd t.n fun _ z => nomatch z
  exact ⟨by rw [upd_ne d.an]; exact t.a, by rw [upd_ne d.hn]; exact t.h, upd_same, by rw [upd_ne d.nl.symm]; exact t.l, by rw [upd_ne d.nw.symm]; exact t.w, by rw [upd_ne d.nc.symm]; exact t.c, by rw [upd_ne d.nf.symm]; exact t.f,
    let ⟨vs, h1, h2⟩ := t.e; ⟨vs, by rw [upd_ne d.ne.symm]; exact h1, h2.tp tp⟩, t.nd, t.gupd own_n, t.gn, t.set, t.pk⟩
theorem StoreAt.u_l (t : StoreAt K H A G p f1 p1 S) (xs : List Int) : StoreAt K (L2.upd H A.l (.lst (xs.map V.int))) A G p f1 p1 { S with log := xs } := by
  have d := aps_of t.nd
  have tp : TP H (L2.upd H A.l (.lst (xs.map V.int))) := TP.upd t.l fun _ z => nomatch z
  exact ⟨by rw [upd_ne d.al]; exact t.a, by rw [upd_ne d.hl]; exact t.h, by rw [upd_ne d.nl]; exact t.n, upd_same, by rw [upd_ne d.lw.symm]; exact t.w, by rw [upd_ne d.lc.symm]; exact t.c, by rw [upd_ne d.lf.symm]; exact t.f,
    let ⟨vs, h1, h2⟩ := t.e; ⟨vs, by rw [upd_ne d.le.symm]; exact h1, h2.tp tp⟩, t.nd, t.gupd own_l, t.gn, t.set, t.pk⟩
theorem StoreAt.u_w (t : StoreAt K H A G p f1 p1 S) (xs : List Int) : StoreAt K (L2.upd H A.w (.lst (xs.map V.int))) A G p f1 p1 { S with waiting := xs } := by
  have d := aps_of t.nd
  have tp : TP H (L2.upd H A.w (.lst (xs.map V.int))) := TP.upd t.w fun _ z => nomatch z
  exact ⟨by rw [upd_ne d.aw]; exact t.a, by rw [upd_ne d.hw]; exact t.h, by rw [upd_ne d.nw]; exact t.n, by rw [upd_ne d.lw]; exact t.l, upd_same, by rw [upd_ne d.wc.symm]; exact t.c, by rw [upd_ne d.wf.symm]; exact t.f,
    let ⟨vs, h1, h2⟩ := t.e; ⟨vs, by rw [upd_ne d.we.symm]; exact h1, h2.tp tp⟩, t.nd, t.gupd own_w, t.gn, t.set, t.pk⟩
theorem StoreAt.u_c (t : StoreAt K H A G p f1 p1 S) (xs : List Int) : StoreAt K (L2.upd H A.c (.dK (xs.map chE))) A G p f1 p1 { S with changed := xs } := by
  have d := aps_of t.nd
  have tp : TP H (L2.upd H A.c (.dK (xs.map chE))) := TP.upd t.c fun _ z => nomatch z
  exact ⟨by rw [upd_ne d.ac]; exact t.a, by rw [upd_ne d.hc]; exact t.h, by rw [upd_ne d.nc]; exact t.n, by rw [upd_ne d.lc]; exact t.l, by rw [upd_ne d.wc]; exact t.w, upd_same, by rw [upd_ne d.cf.symm]; exact t.f,
    let ⟨vs, h1, h2⟩ := t.e; ⟨vs, by rw [upd_ne d.ce.symm]; exact h1, h2.tp tp⟩, t.nd, t.gupd own_c, t.gn, t.set, t.pk⟩
theorem StoreAt.u_f (t : StoreAt K H A G p f1 p1 S) (xs : List Int) : StoreAt K (L2.upd H A.f (.lst (xs.map V.int))) A G p f1 p1 { S with free := xs } := by
  have d := aps_of t.nd
  have tp : TP H (L2.upd H A.f (.lst (xs.map V.int))) := TP.upd t.f fun _ z => nomatch z
  exact ⟨by rw [upd_ne d.af]; exact t.a, by rw [upd_ne d.hf]; exact t.h, by rw [upd_ne d.nf]; exact t.n, by rw [upd_ne d.lf]; exact t.l, by rw [upd_ne d.wf]; exact t.w, by rw [upd_ne d.cf]; exact t.c, upd_same,
    let ⟨vs, h1, h2⟩ := t.e; ⟨vs, by rw [upd_ne d.fe.symm]; exact h1, h2.tp tp⟩, t.nd, t.gupd own_f, t.gn, t.set, t.pk⟩
theorem StoreAt.u_e (t : StoreAt K H A G p f1 p1 S) {vs : List V} {es : List Ev} (h : EvsAt H vs es) : StoreAt K (L2.upd H A.e (.lst vs)) A G p f1 p1 { S with evs := es } := by
  have d := aps_of t.nd
  obtain ⟨v0, he, _⟩ := t.e
  have tp : TP H (L2.upd H A.e (.lst vs)) := TP.upd he fun _ z => nomatch z
  exact ⟨by rw [upd_ne d.ae]; exact t.a, by rw [upd_ne d.he]; exact t.h, by rw [upd_ne d.ne]; exact t.n, by rw [upd_ne d.le]; exact t.l, by rw [upd_ne d.we]; exact t.w, by rw [upd_ne d.ce]; exact t.c, by rw [upd_ne d.fe]; exact t.f,
    ⟨vs, upd_same, h.tp tp⟩, t.nd, t.gupd own_e, t.gn, t.set, t.pk⟩
/-- a field that is a number -/
theorem StoreAt.u_a (t : StoreAt K H A G p f1 p1 S) {S' : Sx} (e1 : S'.heap = S.heap) (e2 : S'.nodes = S.nodes) (e3 : S'.log = S.log) (e4 : S'.waiting = S.waiting) (e5 : S'.changed = S.changed) (e6 : S'.free = S.free) (e7 : S'.evs = S.evs) :
    StoreAt K (L2.upd H A.a (.ins (He.ga K "Store") A.dx (stF A S'))) A G p f1 p1 S' := by
  have d := aps_of t.nd
  have tp : TP H (L2.upd H A.a (.ins (He.ga K "Store") A.dx (stF A S'))) := TP.upd t.a fun _ z => nomatch z
  exact ⟨upd_same, by rw [upd_ne d.ah.symm, e1]; exact t.h, by rw [upd_ne d.an.symm, e2]; exact t.n, by rw [upd_ne d.al.symm, e3]; exact t.l, by rw [upd_ne d.aw.symm, e4]; exact t.w, by rw [upd_ne d.ac.symm, e5]; exact t.c, by rw [upd_ne d.af.symm, e6]; exact t.f,
    let ⟨vs, h1, h2⟩ := t.e; ⟨vs, by rw [upd_ne d.ae.symm]; exact h1, by rw [e7]; exact h2.tp tp⟩, t.nd, t.gupd own_a, t.gn, t.set, t.pk⟩
theorem StoreAt.sf_h (t : StoreAt K H A G p f1 p1 S) {o : HO} : SF A H A (L2.upd H A.h o) := SF.upd own_h t.h fun _ z => nomatch z
theorem StoreAt.sf_n (t : StoreAt K H A G p f1 p1 S) {o : HO} : SF A H A (L2.upd H A.n o) := SF.upd own_n t.n fun _ z => nomatch z
theorem StoreAt.sf_l (t : StoreAt K H A G p f1 p1 S) {o : HO} : SF A H A (L2.upd H A.l o) := SF.upd own_l t.l fun _ z => nomatch z
theorem StoreAt.sf_w (t : StoreAt K H A G p f1 p1 S) {o : HO} : SF A H A (L2.upd H A.w o) := SF.upd own_w t.w fun _ z => nomatch z
theorem StoreAt.sf_c (t : StoreAt K H A G p f1 p1 S) {o : HO} : SF A H A (L2.upd H A.c o) := SF.upd own_c t.c fun _ z => nomatch z
theorem StoreAt.sf_f (t : StoreAt K H A G p f1 p1 S) {o : HO} : SF A H A (L2.upd H A.f o) := SF.upd own_f t.f fun _ z => nomatch z
theorem StoreAt.sf_e (t : StoreAt K H A G p f1 p1 S) {o : HO} : SF A H A (L2.upd H A.e o) := by obtain ⟨v, h, _⟩ := t.e; exact SF.upd own_e h fun _ z => nomatch z
theorem StoreAt.sf_a (t : StoreAt K H A G p f1 p1 S) {o : HO} : SF A H A (L2.upd H A.a o) := SF.upd own_a t.a fun _ z => nomatch z
abbrev StoreAt.w_h (t : StoreAt K H A G p f1 p1 S) (xs : List Int) := And.intro (t.u_h xs) (t.sf_h (o := .lst (xs.map V.int)))
abbrev StoreAt.w_n (t : StoreAt K H A G p f1 p1 S) (xs : List (NK × Int)) := And.intro (t.u_n xs) (t.sf_n (o := .dT (xs.map ndE)))
abbrev StoreAt.w_l (t : StoreAt K H A G p f1 p1 S) (xs : List Int) := And.intro (t.u_l xs) (t.sf_l (o := .lst (xs.map V.int)))
abbrev StoreAt.w_w (t : StoreAt K H A G p f1 p1 S) (xs : List Int) := And.intro (t.u_w xs) (t.sf_w (o := .lst (xs.map V.int)))
abbrev StoreAt.w_c (t : StoreAt K H A G p f1 p1 S) (xs : List Int) := And.intro (t.u_c xs) (t.sf_c (o := .dK (xs.map chE)))
abbrev StoreAt.w_f (t : StoreAt K H A G p f1 p1 S) (xs : List Int) := And.intro (t.u_f xs) (t.sf_f (o := .lst (xs.map V.int)))
abbrev StoreAt.w_e (t : StoreAt K H A G p f1 p1 S) {vs : List V} {es : List Ev} (h : EvsAt H vs es) := And.intro (t.u_e h) (t.sf_e (o := .lst vs))
abbrev StoreAt.w_taken (t : StoreAt K H A G p f1 p1 S) := And.intro (t.u_a (S' := { S with taken := S.taken + 1 }) rfl rfl rfl rfl rfl rfl rfl) (t.sf_a (o := .ins (He.ga K "Store") A.dx (stF A { S with taken := S.taken + 1 })))
abbrev StoreAt.w_done (t : StoreAt K H A G p f1 p1 S) := And.intro (t.u_a (S' := { S with done := S.done + 1 }) rfl rfl rfl rfl rfl rfl rfl) (t.sf_a (o := .ins (He.ga K "Store") A.dx (stF A { S with done := S.done + 1 })))
abbrev StoreAt.w_oldest (t : StoreAt K H A G p f1 p1 S) := And.intro (t.u_a (S' := { S with oldest := S.oldest + 1 }) rfl rfl rfl rfl rfl rfl rfl) (t.sf_a (o := .ins (He.ga K "Store") A.dx (stF A { S with oldest := S.oldest + 1 })))
abbrev StoreAt.w_top (t : StoreAt K H A G p f1 p1 S) (i : Int) := And.intro (t.u_a (S' := { S with top := i }) rfl rfl rfl rfl rfl rfl rfl) (t.sf_a (o := .ins (He.ga K "Store") A.dx (stF A { S with top := i })))
/-- sizes -/
def Sx.sz (S : Sx) : Nat := S.heap.length + S.nodes.length + S.log.length + S.waiting.length + S.changed.length + S.free.length + S.evs.length
end
local macro_rules | `(tactic| walk_at "lkS") => `(tactic| first
  | exact KR.lkS_settings
  | exact KR.lkS_packing
  | exact KR.lkS_done
  | exact KR.lkS_oldest
  | exact KR.lkS_heap
  | exact KR.lkS_node_places
  | exact KR.lkS_top_level
  | exact KR.lkS_log
  | exact KR.lkS_waiting
  | exact KR.lkS_changed
  | exact KR.lkS_free_row
  | exact KR.lkS_taken_count
  | exact KR.lkS_events)

theorem ne_nil {K : PySem.W.Frag} {H : Hp} {a b : Addr} {xs : List Int} {Q : VK} (h1 : H a = some (.lst (xs.map V.int))) (h2 : H b = some (.lst [])) (q : Q (.bl (decide (xs ≠ []))) H) : rNeN K (.ref a) (.ref b) H Q := by
  refine use_neN (.lst (SqL.of h1) (dp_pyi xs)) (.lst (SqL.of h2) .nil) (nb_list xs) (nb_list []) fun c hc => ?_
  have e : c = decide (xs ≠ []) := by
    rw [Bool.eq_iff_iff, hc, decide_eq_true_iff]
    cases xs with
    | nil => exact ⟨fun z => absurd rfl z, fun z => absurd rfl z⟩
    | cons x xs => exact ⟨fun _ z => (nomatch z), fun _ z => by injection z with z; cases z⟩
  rw [e]
  exact q
@[irreducible] def sp_Store_note (K : PySem.W.Frag) : Sp := fun vs H Q _ => ∃ (A : SAd) (G : Hp) (p : Prt) (f1 p1 : Nat) (S : Sx) (k : Str) (pg : Int) (rv : V) (r : Ro), vs = [.ref A.a, .str k, .int pg, rv] ∧ StoreAt K H A G p f1 p1 S ∧ RoV H rv r ∧ S.evs.length ≤ 99999 ∧
  ∀ H', StoreAt K H' A G p f1 p1 (S.ev k pg r) → SF A H A H' → Q .non H'
theorem use_note {K : PySem.W.Frag} {A : SAd} {a : Addr} {G : Hp} {p : Prt} {f1 p1 : Nat} {S : Sx} {k : Str} {pg : Int} {rv : V} {r : Ro} {H : Hp} {Q : VK} {E : XK} (ea : a = A.a) (t : StoreAt K H A G p f1 p1 S) (hr : RoV H rv r) (hl : S.evs.length ≤ 99999)
  (q : ∀ H', StoreAt K H' A G p f1 p1 (S.ev k pg r) → SF A H A H' → Q .non H') : sp_Store_note K [.ref a, .str k, .int pg, rv] H Q E := by
  subst ea; unfold sp_Store_note; exact ⟨A, G, p, f1, p1, S, k, pg, rv, r, rfl, t, hr, hl, q⟩
theorem b_Store_note {K : PySem.W.Frag} {fd : FuncData} (F : F_Store_note K fd) : Binds K fd P_Store_note [] := FunD.bindsN F fun _ _ _ _ _ _ us hl => match us, hl with | [_, _, _, _], _ => rfl
theorem ok_Store_note (T : Txt K mg D) : FnOk P w K mg base CX0 1 (He.fAd K ("Store", some "note")) (D D_Store_note) P_Store_note (sp_Store_note K) := by
  refine T.d_Store_note.ok sc_Store_note (fun vs H Q E h => ?_) (fun cdv A outer s H vs Q E hr h => ?_)
  · unfold sp_Store_note at h
    first | (obtain ⟨rfl, _⟩ := h; rfl) | (obtain ⟨_, rfl, _⟩ := h; rfl) | (obtain ⟨_, _, rfl, _⟩ := h; rfl) | (obtain ⟨_, _, _, rfl, _⟩ := h; rfl) | (obtain ⟨_, _, _, _, rfl, _⟩ := h; rfl) | (obtain ⟨_, _, _, _, _, rfl, _⟩ := h; rfl) | (obtain ⟨_, _, _, _, _, _, rfl, _⟩ := h; rfl) | (obtain ⟨_, _, _, _, _, _, _, rfl, _⟩ := h; rfl) | (obtain ⟨_, _, _, _, _, _, _, _, rfl, _⟩ := h; rfl) | (obtain ⟨_, _, _, _, _, _, _, _, _, rfl, _⟩ := h; rfl) | (obtain ⟨_, _, _, _, _, _, _, _, _, _, rfl, _⟩ := h; rfl) | (obtain ⟨_, _, _, _, _, _, _, _, _, _, _, rfl, _⟩ := h; rfl)
  · refine ⟨_, PSs.nox (pss_one (ps_expr (pe_bm PySem.F.plainAttrs_list PySem.F.slot_list_append PySem.F.type_list_append mt_append (pe_fldK (K := K) (pv 0) rfl) (pa_cons (pe_ifExp (pt_cmpR op_isN (pv 3) pe_non (nomark _)) (pe_tup (pa_cons (pv 1) (pa_cons (pv 2) pa_nil))) (pe_tup (pa_cons (pv 1) (pa_cons (pv 2) (pa_cons (pv 3) pa_nil))))) pa_nil)))), ?_⟩
    unfold sp_Store_note at h
    obtain ⟨A, G, p, f1, p1, S, k, pg, rv, r, rfl, t, hr', hl, q⟩ := h
    have ta := t.a
    obtain ⟨vs, te, tv⟩ := id t.e
    walk_at "rd"
    refine ⟨.inl ⟨rfl, _, SqL.of te⟩, ?_⟩
    walk_at "rd"
    have fin : ∀ (b : Addr) (G1 : Hp), Same H G1 → RoV G1 rv r → G1 b = some (.tup (evT k pg rv r)) → StoreAt K (L2.upd G1 A.e (.lst (vs ++ [.ref b]))) A G p f1 p1 (S.ev k pg r) ∧ SF A H A (L2.upd G1 A.e (.lst (vs ++ [.ref b]))) := fun b G1 g hv hb =>
      ⟨(t.same g).u_e ((tv.tp g.tp).snoc ⟨b, rv, rfl, hv, hb⟩), (SF.same g).trans (t.same g).sf_e⟩
    have hlen : vs.length ≤ 99999 := by rw [tv.len]; exact hl
    cases r with
    | no =>
      cases (show rv = .non from hr')
      walk_at "rd"
      intro b n1
      generalize eG1 : upd _ b _ = G1
      obtain ⟨g1, c1⟩ := gen_new n1 eG1
      clear eG1
      walk_at "rd"
      refine ⟨_, _, _, rfl, rfl, g1 _ _ te, szlt (by omega), ?_⟩
      walk_at "rd"
      exact q _ (fin _ _ g1 rfl c1).1 (fin _ _ g1 rfl c1).2
    | _ =>
      have hne : rv ≠ .non := by
        intro z
        subst z
        first
        | cases (show V.non = V.int _ from hr')
        | (obtain ⟨_, z, _⟩ := hr'; cases z)
      refine iteF_of (decide_eq_false hne) ?_
      walk_at "rd"
      intro b n1
      generalize eG1 : upd _ b _ = G1
      obtain ⟨g1, c1⟩ := gen_new n1 eG1
      clear eG1
      walk_at "rd"
      refine ⟨_, _, _, rfl, rfl, g1 _ _ te, szlt (by omega), ?_⟩
      walk_at "rd"
      exact q _ (fin _ _ g1 (hr'.tp g1.tp) c1).1 (fin _ _ g1 (hr'.tp g1.tp) c1).2

@[irreducible] def sp_Core_make : Sp := fun vs H Q _ => ∃ (a : Addr) (i : Int), vs = [.ref a, .int i] ∧ Q (.int i) H
theorem use_make {a : Addr} {i : Int} {H : Hp} {Q : VK} {E : XK} (q : Q (.int i) H) : sp_Core_make [.ref a, .int i] H Q E := by unfold sp_Core_make; exact ⟨a, i, rfl, q⟩
theorem b_Core_make {K : PySem.W.Frag} {fd : FuncData} (F : F_Core_make K fd) : Binds K fd P_Core_make [] := FunD.bindsN F fun _ _ _ _ _ _ us hl => match us, hl with | [_, _], _ => rfl
theorem ok_Core_make (T : Txt K mg D) : FnOk P w K mg base CX0 1 (He.fAd K ("Core", some "make")) (D D_Core_make) P_Core_make sp_Core_make := by
  refine T.d_Core_make.ok sc_Core_make (fun vs H Q E h => ?_) (fun cdv A outer s H vs Q E hr h => ?_)
  · unfold sp_Core_make at h
    first | (obtain ⟨rfl, _⟩ := h; rfl) | (obtain ⟨_, rfl, _⟩ := h; rfl) | (obtain ⟨_, _, rfl, _⟩ := h; rfl) | (obtain ⟨_, _, _, rfl, _⟩ := h; rfl) | (obtain ⟨_, _, _, _, rfl, _⟩ := h; rfl) | (obtain ⟨_, _, _, _, _, rfl, _⟩ := h; rfl) | (obtain ⟨_, _, _, _, _, _, rfl, _⟩ := h; rfl) | (obtain ⟨_, _, _, _, _, _, _, rfl, _⟩ := h; rfl) | (obtain ⟨_, _, _, _, _, _, _, _, rfl, _⟩ := h; rfl) | (obtain ⟨_, _, _, _, _, _, _, _, _, rfl, _⟩ := h; rfl) | (obtain ⟨_, _, _, _, _, _, _, _, _, _, rfl, _⟩ := h; rfl) | (obtain ⟨_, _, _, _, _, _, _, _, _, _, _, rfl, _⟩ := h; rfl)
  · refine ⟨_, PSs.nox (pss_one (ps_ret (pv 1))), ?_⟩
    unfold sp_Core_make at h
    obtain ⟨a, i, rfl, q⟩ := h
    walk_at "rd"
    exact q

theorem last_at {xs : List Int} (h : xs ≠ []) : ∃ y, (xs.map V.int)[(xs.map V.int).length - 1]? = some (V.int y) ∧ xs.getLastD 0 = y := by
  have hl : 0 < xs.length := by cases xs with
    | nil => exact absurd rfl h
    | cons _ _ => simp
  refine ⟨xs[xs.length - 1], ?_, ?_⟩
  · rw [List.length_map, List.getElem?_map, List.getElem?_eq_getElem (by omega)]
    rfl
  · rw [List.getLastD_eq_getLast?, List.getLast?_eq_getElem?, List.getElem?_eq_getElem (by omega)]
    rfl
theorem map_snoc {xs : List Int} {y : Int} : xs.map V.int ++ [V.int y] = (xs ++ [y]).map V.int := by rw [List.map_append]; rfl
theorem map_dropLast' (xs : List Int) : (xs.map V.int).dropLast = (xs.dropLast).map V.int := by rw [List.map_dropLast]
@[irreducible] def sp_Core_take (K : PySem.W.Frag) : Sp := fun vs H Q _ => ∃ (A : SAd) (G : Hp) (p : Prt) (f1 p1 : Nat) (S : Sx) (rv : V) (r : Ro), vs = [.ref A.a, rv] ∧ StoreAt K H A G p f1 p1 S ∧ RoV H rv r ∧ S.evs.length ≤ 99999 ∧
  ∀ H', StoreAt K H' A G p f1 p1 (S.takeS r) → SF A H A H' → Q (.int S.takeP) H'
theorem use_take {K : PySem.W.Frag} {A : SAd} {a : Addr} {G : Hp} {p : Prt} {f1 p1 : Nat} {S : Sx} {rv : V} {r : Ro} {H : Hp} {Q : VK} {E : XK} (ea : a = A.a) (t : StoreAt K H A G p f1 p1 S) (hr : RoV H rv r) (hl : S.evs.length ≤ 99999)
  (q : ∀ H', StoreAt K H' A G p f1 p1 (S.takeS r) → SF A H A H' → Q (.int S.takeP) H') : sp_Core_take K [.ref a, rv] H Q E := by
  subst ea; unfold sp_Core_take; exact ⟨A, G, p, f1, p1, S, rv, r, rfl, t, hr, hl, q⟩
theorem b_Core_take {K : PySem.W.Frag} {fd : FuncData} (F : F_Core_take K fd) : Binds K fd P_Core_take [] := FunD.bindsN F fun _ _ _ _ _ _ us hl => match us, hl with | [_, _], _ => rfl
theorem ok_Core_take (T : Txt K mg D) : FnOk P w K mg base CX0 2 (He.fAd K ("Core", some "take")) (D D_Core_take) P_Core_take (sp_Core_take K) := by
  refine T.d_Core_take.ok sc_Core_take (fun vs H Q E h => ?_) (fun cdv A outer s H vs Q E hr h => ?_)
  · unfold sp_Core_take at h
    first | (obtain ⟨rfl, _⟩ := h; rfl) | (obtain ⟨_, rfl, _⟩ := h; rfl) | (obtain ⟨_, _, rfl, _⟩ := h; rfl) | (obtain ⟨_, _, _, rfl, _⟩ := h; rfl) | (obtain ⟨_, _, _, _, rfl, _⟩ := h; rfl) | (obtain ⟨_, _, _, _, _, rfl, _⟩ := h; rfl) | (obtain ⟨_, _, _, _, _, _, rfl, _⟩ := h; rfl) | (obtain ⟨_, _, _, _, _, _, _, rfl, _⟩ := h; rfl) | (obtain ⟨_, _, _, _, _, _, _, _, rfl, _⟩ := h; rfl) | (obtain ⟨_, _, _, _, _, _, _, _, _, rfl, _⟩ := h; rfl) | (obtain ⟨_, _, _, _, _, _, _, _, _, _, rfl, _⟩ := h; rfl) | (obtain ⟨_, _, _, _, _, _, _, _, _, _, _, rfl, _⟩ := h; rfl)
  · refine ⟨_, PSs.nox (pss_cons (ps_if (pt_cmpR (op_neNK (K := K) hr.units) (pe_fldK (K := K) (pv 0) rfl) (pe_lst pa_nil) (nomark _)) (pss_one (ps_set (i := 2) sc_Core_take.nd rfl (Or.inl rfl) (pe_bm0 PySem.F.plainAttrs_list PySem.F.slot_list_pop PySem.F.type_list_pop mt_pop (pe_fldK (K := K) (pv 0) rfl)))) (pss_cons (ps_set (i := 2) sc_Core_take.nd rfl (Or.inl rfl) (pe_meth (pv 0) T.c_Store T.m_Store_make (ok_Core_make T) (hr.mono (by decide)) (b_Core_make T.d_Core_make) .nil pass0 (pa_cons (pe_fldK (K := K) (pv 0) rfl) pa_nil)))
      (pss_one (ps_fldaug (pv 0) pe_int in_add))))
      (pss_cons (ps_expr (pe_meth (pv 0) T.c_Store T.m_Store_note (ok_Store_note T) (hr.mono (by decide)) (b_Store_note T.d_Store_note) .nil pass0 (pa_cons pe_str (pa_cons (pv 2) (pa_cons (pv 1) pa_nil)))))
      (pss_one (ps_ret (pv 2))))), ?_⟩
    unfold sp_Core_take at h
    obtain ⟨A, G, p, f1, p1, S, rv, r, rfl, t, hr', hl, q⟩ := h
    have ta := t.a
    walk_at "rd"
    intro b n1
    generalize eG1 : upd _ b _ = G1
    obtain ⟨g1, c1⟩ := gen_new n1 eG1
    clear eG1
    refine ne_nil (g1 _ _ t.f) c1 ?_
    walk_at "rd"
    have t1 := t.same g1
    have ta1 := t1.a
    refine ite2 (fun c => ?_) (fun c => ?_)
    · have hne : S.free ≠ [] := of_decide_eq_true c
      obtain ⟨y, hy1, hy2⟩ := last_at hne
      walk_at "rd"
      refine ⟨.inl ⟨rfl, _, SqL.of t1.f⟩, ?_⟩
      walk_at "rd"
      refine ⟨_, _, _, rfl, rfl, t1.f, hy1, ?_⟩
      rw [map_dropLast']
      obtain ⟨t2, s2⟩ := t1.w_f S.free.dropLast
      generalize hG2 : L2.upd _ _ _ = G2 at t2 s2 ⊢
      clear hG2
      have ta2 := t2.a
      have e1 : S.takeP = y := by unfold Sx.takeP; rw [if_neg hne, hy2]
      have e2 : S.taking = { S with free := S.free.dropLast } := by unfold Sx.taking; rw [if_neg hne]
      rw [← e2] at t2
      walk_at "rd"
      refine use_note rfl t2 (hr'.tp (g1.tp.trans s2.2.2.2)) (by rw [e2]; exact hl) fun H3 t3 s3 => ?_
      walk_at "rd"
      rw [← e1] at t3 ⊢
      exact q H3 t3 (((SF.same g1).trans s2).trans s3)
    · have hnil : S.free = [] := by
        have := of_decide_eq_false (Bool.not_eq_true _ ▸ c)
        exact Classical.not_not.mp this
      walk_at "rd"
      refine use_make ?_
      walk_at "rd"
      refine ⟨_, _, ta1, lenS, ?_⟩
      rw [pF_taken]
      obtain ⟨t2, s2⟩ := t1.w_taken
      generalize hG2 : L2.upd _ _ _ = G2 at t2 s2 ⊢
      clear hG2
      have ta2 := t2.a
      have e1 : S.takeP = (S.taken : Int) := by unfold Sx.takeP; rw [if_pos hnil]
      have e2 : S.taking = { S with taken := S.taken + 1 } := by unfold Sx.taking; rw [if_pos hnil]
      rw [← e2] at t2
      walk_at "rd"
      refine use_note rfl t2 (hr'.tp (g1.tp.trans s2.2.2.2)) (by rw [e2]; exact hl) fun H3 t3 s3 => ?_
      walk_at "rd"
      rw [← e1] at t3 ⊢
      exact q H3 t3 (((SF.same g1).trans s2).trans s3)

@[irreducible] def sp_Core_give (K : PySem.W.Frag) : Sp := fun vs H Q _ => ∃ (A : SAd) (G : Hp) (p : Prt) (f1 p1 : Nat) (S : Sx) (pg : Int) (rv : V) (r : Ro), vs = [.ref A.a, .int pg, rv] ∧ StoreAt K H A G p f1 p1 S ∧ RoV H rv r ∧ (S.evs.length ≤ 99999 ∧ S.waiting.length ≤ 99999) ∧
  ∀ H', StoreAt K H' A G p f1 p1 (S.give pg r) → SF A H A H' → Q .non H'
theorem use_give {K : PySem.W.Frag} {A : SAd} {a : Addr} {G : Hp} {p : Prt} {f1 p1 : Nat} {S : Sx} {pg : Int} {rv : V} {r : Ro} {H : Hp} {Q : VK} {E : XK} (ea : a = A.a) (t : StoreAt K H A G p f1 p1 S) (hr : RoV H rv r) (hl : S.evs.length ≤ 99999) (hw : S.waiting.length ≤ 99999)
  (q : ∀ H', StoreAt K H' A G p f1 p1 (S.give pg r) → SF A H A H' → Q .non H') : sp_Core_give K [.ref a, .int pg, rv] H Q E := by
  subst ea; unfold sp_Core_give; exact ⟨A, G, p, f1, p1, S, pg, rv, r, rfl, t, hr, ⟨hl, hw⟩, q⟩
theorem b_Core_give {K : PySem.W.Frag} {fd : FuncData} (F : F_Core_give K fd) : Binds K fd P_Core_give [] := FunD.bindsN F fun _ _ _ _ _ _ us hl => match us, hl with | [_, _, _], _ => rfl
theorem ok_Core_give (T : Txt K mg D) : FnOk P w K mg base CX0 2 (He.fAd K ("Core", some "give")) (D D_Core_give) P_Core_give (sp_Core_give K) := by
  refine T.d_Core_give.ok sc_Core_give (fun vs H Q E h => ?_) (fun cdv A outer s H vs Q E hr h => ?_)
  · unfold sp_Core_give at h
    first | (obtain ⟨rfl, _⟩ := h; rfl) | (obtain ⟨_, rfl, _⟩ := h; rfl) | (obtain ⟨_, _, rfl, _⟩ := h; rfl) | (obtain ⟨_, _, _, rfl, _⟩ := h; rfl) | (obtain ⟨_, _, _, _, rfl, _⟩ := h; rfl) | (obtain ⟨_, _, _, _, _, rfl, _⟩ := h; rfl) | (obtain ⟨_, _, _, _, _, _, rfl, _⟩ := h; rfl) | (obtain ⟨_, _, _, _, _, _, _, rfl, _⟩ := h; rfl) | (obtain ⟨_, _, _, _, _, _, _, _, rfl, _⟩ := h; rfl) | (obtain ⟨_, _, _, _, _, _, _, _, _, rfl, _⟩ := h; rfl) | (obtain ⟨_, _, _, _, _, _, _, _, _, _, rfl, _⟩ := h; rfl) | (obtain ⟨_, _, _, _, _, _, _, _, _, _, _, rfl, _⟩ := h; rfl)
  · refine ⟨_, PSs.nox (pss_cons (ps_expr (pe_dpop2 (pe_fldK (K := K) (pv 0) rfl) (pv 1) pe_non ⟨rfl, rfl, rfl, rfl⟩))
      (pss_cons (ps_expr (pe_bm PySem.F.plainAttrs_list PySem.F.slot_list_append PySem.F.type_list_append mt_append (pe_fldK (K := K) (pv 0) rfl) (pa_cons (pv 1) pa_nil)))
      (pss_one (ps_expr (pe_meth (pv 0) T.c_Store T.m_Store_note (ok_Store_note T) (hr.mono (by decide)) (b_Store_note T.d_Store_note) .nil pass0 (pa_cons pe_str (pa_cons (pv 1) (pa_cons (pv 2) pa_nil)))))))), ?_⟩
    unfold sp_Core_give at h
    obtain ⟨A, G, p, f1, p1, S, pg, rv, r, rfl, t, hr', ⟨hl, hw⟩, q⟩ := h
    have ta := t.a
    walk_at "rd"
    refine ⟨.inl ⟨_, .inl t.c⟩, ?_⟩
    walk_at "rd"
    refine ⟨_, Sum.inl pg, t.c, rfl, fun v hv => ?_, fun hv => ?_⟩
    · rw [drop_ch]
      obtain ⟨t1, s1⟩ := t.w_c (cdrop S.changed pg)
      generalize hG1 : L2.upd _ _ _ = G1 at t1 s1 ⊢
      clear hG1
      have ta1 := t1.a
      walk_at "rd"
      refine ⟨.inl ⟨rfl, _, SqL.of t1.w⟩, ?_⟩
      walk_at "rd"
      refine ⟨_, _, _, rfl, rfl, t1.w, szlt (by rw [List.length_map]; exact Nat.le_succ_of_le hw), ?_⟩
      rw [map_snoc]
      obtain ⟨t2, s2⟩ := t1.w_w (S.waiting ++ [pg])
      generalize hG2 : L2.upd _ _ _ = G2 at t2 s2 ⊢
      clear hG2
      have ta2 := t2.a
      walk_at "rd"
      refine use_note rfl t2 (hr'.tp (s1.2.2.2.trans s2.2.2.2)) hl fun H3 t3 s3 => ?_
      walk_at "rd"
      exact q H3 t3 ((s1.trans s2).trans s3)
    · have t1 : StoreAt K H A G p f1 p1 { S with changed := cdrop S.changed pg } := by rw [cdrop_self hv]; exact t
      have s1 : SF A H A H := SF.refl
      have ta1 := t1.a
      walk_at "rd"
      refine ⟨.inl ⟨rfl, _, SqL.of t1.w⟩, ?_⟩
      walk_at "rd"
      refine ⟨_, _, _, rfl, rfl, t1.w, szlt (by rw [List.length_map]; exact Nat.le_succ_of_le hw), ?_⟩
      rw [map_snoc]
      obtain ⟨t2, s2⟩ := t1.w_w (S.waiting ++ [pg])
      generalize hG2 : L2.upd _ _ _ = G2 at t2 s2 ⊢
      clear hG2
      have ta2 := t2.a
      walk_at "rd"
      refine use_note rfl t2 (hr'.tp (s1.2.2.2.trans s2.2.2.2)) hl fun H3 t3 s3 => ?_
      walk_at "rd"
      exact q H3 t3 ((s1.trans s2).trans s3)

@[irreducible] def sp_Core_newest (K : PySem.W.Frag) : Sp := fun vs H Q _ => ∃ (A : SAd) (G : Hp) (p : Prt) (f1 p1 : Nat) (S : Sx), vs = [.ref A.a] ∧ StoreAt K H A G p f1 p1 S ∧ Q (.int ((S.oldest : Int) + S.heap.length - 1)) H
theorem use_newest {K : PySem.W.Frag} {A : SAd} {a : Addr} {G : Hp} {p : Prt} {f1 p1 : Nat} {S : Sx} {H : Hp} {Q : VK} {E : XK} (ea : a = A.a) (t : StoreAt K H A G p f1 p1 S) (q : Q (.int ((S.oldest : Int) + S.heap.length - 1)) H) : sp_Core_newest K [.ref a] H Q E := by
  subst ea; unfold sp_Core_newest; exact ⟨A, G, p, f1, p1, S, rfl, t, q⟩
theorem b_Core_newest {K : PySem.W.Frag} {fd : FuncData} (F : F_Core_newest K fd) : Binds K fd P_Core_newest [] := FunD.bindsN F fun _ _ _ _ _ _ us hl => match us, hl with | [_], _ => rfl
theorem ok_Core_newest (T : Txt K mg D) : FnOk P w K mg base CX0 1 (He.fAd K ("Core", some "newest")) (D D_Core_newest) P_Core_newest (sp_Core_newest K) := by
  refine T.d_Core_newest.ok sc_Core_newest (fun vs H Q E h => ?_) (fun cdv A outer s H vs Q E hr h => ?_)
  · unfold sp_Core_newest at h
    first | (obtain ⟨rfl, _⟩ := h; rfl) | (obtain ⟨_, rfl, _⟩ := h; rfl) | (obtain ⟨_, _, rfl, _⟩ := h; rfl) | (obtain ⟨_, _, _, rfl, _⟩ := h; rfl) | (obtain ⟨_, _, _, _, rfl, _⟩ := h; rfl) | (obtain ⟨_, _, _, _, _, rfl, _⟩ := h; rfl) | (obtain ⟨_, _, _, _, _, _, rfl, _⟩ := h; rfl) | (obtain ⟨_, _, _, _, _, _, _, rfl, _⟩ := h; rfl) | (obtain ⟨_, _, _, _, _, _, _, _, rfl, _⟩ := h; rfl) | (obtain ⟨_, _, _, _, _, _, _, _, _, rfl, _⟩ := h; rfl) | (obtain ⟨_, _, _, _, _, _, _, _, _, _, rfl, _⟩ := h; rfl) | (obtain ⟨_, _, _, _, _, _, _, _, _, _, _, rfl, _⟩ := h; rfl)
  · refine ⟨_, PSs.nox (pss_one (ps_ret (pe_op op_sub (pe_op op_add (pe_fldK (K := K) (pv 0) rfl) (pe_callB (call_lenK (K := K)) (by rfl) T.n_len (by decide +kernel) (pa_cons (pe_fldK (K := K) (pv 0) rfl) pa_nil))) pe_int))), ?_⟩
    unfold sp_Core_newest at h
    obtain ⟨A, G, p, f1, p1, S, rfl, t, q⟩ := h
    have ta := t.a
    have th := t.h
    walk_at "rd"
    rw [List.length_map]
    exact q

@[irreducible] def sp_Core_change (K : PySem.W.Frag) : Sp := fun vs H Q _ => ∃ (A : SAd) (G : Hp) (p : Prt) (f1 p1 : Nat) (S : Sx) (l n : Int), vs = [.ref A.a, .int l, .int n] ∧ StoreAt K H A G p f1 p1 S ∧ S.changed.length ≤ 99999 ∧
  ∀ H', StoreAt K H' A G p f1 p1 (S.change (l, n)) → SF A H A H' → Q .non H'
theorem use_change {K : PySem.W.Frag} {A : SAd} {a : Addr} {G : Hp} {p : Prt} {f1 p1 : Nat} {S : Sx} {k : NK} {i j : Int} {H : Hp} {Q : VK} {E : XK} (ea : a = A.a) (hi : i = k.1) (hj : j = k.2) (t : StoreAt K H A G p f1 p1 S) (hl : S.changed.length ≤ 99999)
  (q : ∀ H', StoreAt K H' A G p f1 p1 (S.change k) → SF A H A H' → Q .non H') : sp_Core_change K [.ref a, .int i, .int j] H Q E := by
  subst ea hi hj; unfold sp_Core_change; exact ⟨A, G, p, f1, p1, S, k.1, k.2, rfl, t, hl, q⟩
theorem b_Core_change {K : PySem.W.Frag} {fd : FuncData} (F : F_Core_change K fd) : Binds K fd P_Core_change [] := FunD.bindsN F fun _ _ _ _ _ _ us hl => match us, hl with | [_, _, _], _ => rfl
theorem ok_Core_change (T : Txt K mg D) : FnOk P w K mg base CX0 1 (He.fAd K ("Core", some "change")) (D D_Core_change) P_Core_change (sp_Core_change K) := by
  refine T.d_Core_change.ok sc_Core_change (fun vs H Q E h => ?_) (fun cdv A outer s H vs Q E hr h => ?_)
  · unfold sp_Core_change at h
    first | (obtain ⟨rfl, _⟩ := h; rfl) | (obtain ⟨_, rfl, _⟩ := h; rfl) | (obtain ⟨_, _, rfl, _⟩ := h; rfl) | (obtain ⟨_, _, _, rfl, _⟩ := h; rfl) | (obtain ⟨_, _, _, _, rfl, _⟩ := h; rfl) | (obtain ⟨_, _, _, _, _, rfl, _⟩ := h; rfl) | (obtain ⟨_, _, _, _, _, _, rfl, _⟩ := h; rfl) | (obtain ⟨_, _, _, _, _, _, _, rfl, _⟩ := h; rfl) | (obtain ⟨_, _, _, _, _, _, _, _, rfl, _⟩ := h; rfl) | (obtain ⟨_, _, _, _, _, _, _, _, _, rfl, _⟩ := h; rfl) | (obtain ⟨_, _, _, _, _, _, _, _, _, _, rfl, _⟩ := h; rfl) | (obtain ⟨_, _, _, _, _, _, _, _, _, _, _, rfl, _⟩ := h; rfl)
  · refine ⟨_, PSs.nox (pss_cons (ps_set (i := 3) sc_Core_change.nd rfl (Or.inl rfl) (pe_dget1 (hu_of hr) (pe_fldK (K := K) (pv 0) rfl) (pe_tup (pa_cons (pv 1) (pa_cons (pv 2) pa_nil))) ⟨rfl, rfl, rfl, rfl⟩))
      (pss_one (ps_if (pt_cmpR op_notN (pv 3) pe_non (nomark _)) (pss_one (ps_dput (hu_of hr) (pe_fldK (K := K) (pv 0) rfl) (pv 3) pe_bl rfl)) pss_nil))), ?_⟩
    unfold sp_Core_change at h
    obtain ⟨A, G, p, f1, p1, S, l, n, rfl, t, hl, q⟩ := h
    have ta := t.a
    walk_at "rd"
    refine ⟨.inr ⟨_, .inl t.n⟩, ?_⟩
    walk_at "rd"
    intro b n1
    generalize eG1 : upd _ b _ = G1
    obtain ⟨g1, c1⟩ := gen_new n1 eG1
    clear eG1
    have t1 := t.same g1
    have ta1 := t1.a
    refine ⟨_, DGet.t (k := nkK (l, n)) t1.n c1, ?_⟩
    rw [val_nd]
    unfold Sx.change at q
    cases hg : aget S.nodes (l, n) with
    | none =>
      rw [hg] at q
      walk_at "rd"
      exact q _ t1 (SF.same g1)
    | some pg =>
      rw [hg] at q
      walk_at "rd"
      refine ⟨_, _, rfl, DPut.k (k := Sum.inl pg) t1.c (szlt (by rw [List.length_map]; exact Nat.le_succ_of_le hl)), ?_⟩
      rw [put_ch]
      obtain ⟨t2, s2⟩ := t1.w_c (cput S.changed pg)
      generalize hG2 : L2.upd _ _ _ = G2 at t2 s2 ⊢
      clear hG2
      have ta2 := t2.a
      walk_at "rd"
      exact q _ t2 ((SF.same g1).trans s2)

theorem StoreAt.out {K : PySem.W.Frag} {H : Hp} {A : SAd} {G : Hp} {p : Prt} {f1 p1 : Nat} {S : Sx} {b : Addr} {o u : HO} (t : StoreAt K H A G p f1 p1 S) (hn : b ∉ A.own) (hg : G b = none) (h : H b = some u) (nt : ∀ ys, u ≠ .tup ys) : StoreAt K (L2.upd H b o) A G p f1 p1 S := by
  have ne : ∀ x ∈ A.own, x ≠ b := fun x hx z => hn (z ▸ hx)
  exact ⟨by rw [upd_ne (ne _ own_a)]; exact t.a, by rw [upd_ne (ne _ own_h)]; exact t.h, by rw [upd_ne (ne _ own_n)]; exact t.n, by rw [upd_ne (ne _ own_l)]; exact t.l, by rw [upd_ne (ne _ own_w)]; exact t.w, by rw [upd_ne (ne _ own_c)]; exact t.c, by rw [upd_ne (ne _ own_f)]; exact t.f,
    let ⟨vs, h1, h2⟩ := t.e; ⟨vs, by rw [upd_ne (ne _ own_e)]; exact h1, h2.tp (TP.upd h nt)⟩, t.nd, fun c w hc => by rw [upd_ne (fun z => by rw [z, hg] at hc; cases hc)]; exact t.g c w hc, t.gn, t.set, t.pk⟩
theorem SF.mut {A A' : SAd} {H H' : Hp} {b : Addr} {o u : HO} (s : SF A H A' H') (hb : H b = none) (h : H' b = some u) (nt : ∀ ys, u ≠ .tup ys) : SF A H A' (L2.upd H' b o) :=
  ⟨s.1, fun c v nc hc => by rw [upd_ne (fun z => by rw [z, hb] at hc; cases hc)]; exact s.2.1 c v nc hc, s.2.2.1, s.2.2.2.trans (TP.upd h nt)⟩
/-- a fresh address is none of the store's -/
theorem StoreAt.fresh {K : PySem.W.Frag} {H : Hp} {A : SAd} {G : Hp} {p : Prt} {f1 p1 : Nat} {S : Sx} {b : Addr} (t : StoreAt K H A G p f1 p1 S) (hb : H b = none) : b ∉ A.own ∧ G b = none := by
  refine ⟨fun z => ?_, ?_⟩
  · unfold SAd.own at z
    simp only [List.mem_cons, List.not_mem_nil, or_false] at z
    obtain ⟨vs, he, _⟩ := t.e
    rcases z with rfl | rfl | rfl | rfl | rfl | rfl | rfl | rfl
    · rw [t.a] at hb; cases hb
    · rw [t.h] at hb; cases hb
    · rw [t.n] at hb; cases hb
    · rw [t.l] at hb; cases hb
    · rw [t.w] at hb; cases hb
    · rw [t.c] at hb; cases hb
    · rw [t.f] at hb; cases hb
    · rw [he] at hb; cases hb
  · cases q : G b with
    | none => rfl
    | some o => rw [t.g b o q] at hb; cases hb
theorem PrL.tp {H H' : Hp} {L : List (Addr × Int × Int)} (h : PrL H L) (t : TP H H') : PrL H' L := fun e he => t _ _ (h e he)
theorem rlv_pow {f a b : Nat} (hf : 2 ≤ f) (h : a ≤ b) {M : Nat} (hM : b < M) : f ^ (rlv f a b) ≤ M := by
  by_cases c : rlv f a b = 0
  · rw [c, Nat.pow_zero]; omega
  · have hi := rlv_is hf h
    have hne := hi.2.2 (rlv f a b) (by omega) (by omega)
    have hp : 0 < f ^ rlv f a b := Nat.pow_pos (by omega)
    by_cases q : f ^ rlv f a b ≤ b
    · omega
    · rw [Nat.div_eq_of_lt (by omega), Nat.div_eq_of_lt (by omega)] at hne
      exact absurd rfl hne
theorem wantL_le (n o : Int) (b : Bool) : (wantL n o b).length ≤ 2 := by
  unfold wantL
  split
  · split
    · simp
    · split <;> simp
  · simp
theorem begunL_succ (f o n : Nat) (top : Int) (ns : List (NK × Int)) (m : Nat) : begunL f o n top ns (m + 1) = begunL f o n top ns m ++ begunAt f o n top ns m := by
  unfold begunL
  rw [List.range_succ, List.flatMap_append]
  simp
theorem begunAt_le (f o n : Nat) (top : Int) (ns : List (NK × Int)) (i : Nat) : (begunAt f o n top ns i).length ≤ 2 := by
  unfold begunAt
  refine Nat.le_trans (List.length_filter_le _ _) ?_
  rw [List.length_map]
  exact wantL_le _ _ _
theorem begunL_le (f o n : Nat) (top : Int) (ns : List (NK × Int)) : ∀ m, (begunL f o n top ns m).length ≤ 2 * m
  | 0 => Nat.le_refl _
  | m + 1 => by
    rw [begunL_succ, List.length_append]
    have := begunL_le f o n top ns m
    have := begunAt_le f o n top ns m
    omega
theorem refsP_append (L M : List (Addr × Int × Int)) : refsP (L ++ M) = refsP L ++ refsP M := by unfold refsP; rw [List.map_append]
theorem merge1 {k : Key} {v : V} : mergeK [] [(k, v)] = [(k, v)] := by kernel_rfl
theorem want_sort (a o : Int) (b : Bool) : sortI (if b = true then cput [a] o else [a]) = wantL a o b := by
  cases b with
  | false => exact (sortI_eq (List.Perm.refl _) (List.pairwise_singleton _ _)).symm
  | true =>
    show sortI (if o ∈ [a] then [a] else [a] ++ [o]) = if a = o then [a] else if a ≤ o then [a, o] else [o, a]
    by_cases e : a = o
    · subst e
      rw [if_pos rfl, if_pos (by simp)]
      exact (sortI_eq (List.Perm.refl _) (List.pairwise_singleton _ _)).symm
    · have h : ¬ o ∈ [a] := by simpa using fun z : o = a => e z.symm
      rw [if_neg e, if_neg h]
      by_cases c : a ≤ o
      · rw [if_pos c]
        exact (sortI_eq (List.Perm.refl _) (by simpa using c)).symm
      · rw [if_neg c]
        exact (sortI_eq (List.Perm.swap _ _ _) (by simpa using (by omega : o ≤ a))).symm
theorem SF.free {A A' : SAd} {H H' : Hp} (s : SF A H A' H') {b : Addr} (no : b ∉ A.own) (n : H' b = none) : H b = none := by
  cases q : H b with
  | none => rfl
  | some o => rw [s.2.1 b o no q] at n; cases n
theorem aput_len (l : List (NK × Int)) (k : NK) (v : Int) : (aput l k v).length ≤ l.length + 1 := by
  unfold aput
  split
  · rw [List.length_map]; omega
  · rw [List.length_append]; simp
theorem cput_len (l : List Int) (p : Int) : (cput l p).length ≤ l.length + 1 := by
  unfold cput
  split
  · omega
  · rw [List.length_append]; simp
theorem sz_ev (S : Sx) (k : Str) (p : Int) (r : Ro) : (S.ev k p r).sz = S.sz + 1 := by
  unfold Sx.ev Sx.sz
  simp only [List.length_append, List.length_cons, List.length_nil]
  omega
theorem sz_mark (S : Sx) (p : Int) : (S.mark p).sz ≤ S.sz + 1 := by
  have := cput_len S.changed p
  unfold Sx.mark Sx.sz
  simp only []
  omega
theorem sz_taking (S : Sx) : S.taking.sz ≤ S.sz := by
  unfold Sx.taking
  split
  · exact Nat.le_refl _
  · unfold Sx.sz
    simp only [List.length_dropLast]
    omega
theorem sz_take (S : Sx) (r : Ro) : (S.takeS r).sz ≤ S.sz + 1 := by
  unfold Sx.takeS
  rw [sz_ev]
  have := sz_taking S
  omega
theorem sz_change (S : Sx) (k : NK) : (S.change k).sz ≤ S.sz + 1 := by
  unfold Sx.change
  split
  · omega
  · exact sz_mark _ _
theorem take_nodes (S : Sx) (r : Ro) : (S.takeS r).nodes = S.nodes := by unfold Sx.takeS Sx.taking Sx.ev; split <;> rfl
theorem sz_begin1 (S : Sx) (k : NK) : (S.begin1 k).sz ≤ S.sz + 3 := by
  unfold Sx.begin1
  refine Nat.le_trans (sz_change _ _) ?_
  have h1 := sz_take S (.nd k.1 k.2)
  have h2 := aput_len S.nodes k S.takeP
  have h3 := take_nodes S (.nd k.1 k.2)
  unfold Sx.sz at h1 ⊢
  simp only [h3] at h1
  simp only []
  omega
theorem sz_begins : ∀ (l : List NK) (S : Sx), (l.foldl Sx.begin1 S).sz ≤ S.sz + 3 * l.length
  | [], S => Nat.le_refl _
  | k :: l, S => by
    have h1 := sz_begins l (S.begin1 k)
    have h2 := sz_begin1 S k
    rw [List.foldl_cons, List.length_cons]
    omega
theorem sz_changes (f : Nat) : ∀ (l : List NK) (S : Sx), (l.foldl (fun T k => T.change (upK f k)) S).sz ≤ S.sz + l.length
  | [], S => Nat.le_refl _
  | k :: l, S => by
    have h1 := sz_changes f l (S.change (upK f k))
    have h2 := sz_change S (upK f k)
    rw [List.foldl_cons, List.length_cons]
    omega
theorem refs_get {L : List (Addr × Int × Int)} {j : Nat} {x : V} (h : (refsP L)[j]? = some x) : ∃ e, L[j]? = some e ∧ x = .ref e.1 := by
  unfold refsP at h
  rw [List.getElem?_map] at h
  cases q : L[j]? with
  | none => rw [q] at h; cases h
  | some e => rw [q] at h; exact ⟨e, rfl, (Option.some.inj h).symm⟩
@[irreducible] def sp_Core_begin_page (K : PySem.W.Frag) : Sp := fun vs H Q _ => ∃ (A : SAd) (G : Hp) (p : Prt) (f1 p1 : Nat) (S : Sx), vs = [.ref A.a] ∧ StoreAt K H A G p f1 p1 S ∧ p.Ok ∧ S.oldest + S.heap.length < 1000000000000000000000000000000 ∧ S.sz ≤ 90000 ∧
  ∀ H', StoreAt K H' A G p f1 p1 (S.beginPage p.fan.toNat) → SF A H A H' → Q .non H'
theorem use_begin_page {K : PySem.W.Frag} {A : SAd} {a : Addr} {G : Hp} {p : Prt} {f1 p1 : Nat} {S : Sx} {H : Hp} {Q : VK} {E : XK} (ea : a = A.a) (t : StoreAt K H A G p f1 p1 S) (ok : p.Ok) (hn : S.oldest + S.heap.length < 1000000000000000000000000000000) (hs : S.sz ≤ 90000)
  (q : ∀ H', StoreAt K H' A G p f1 p1 (S.beginPage p.fan.toNat) → SF A H A H' → Q .non H') : sp_Core_begin_page K [.ref a] H Q E := by
  subst ea; unfold sp_Core_begin_page; exact ⟨A, G, p, f1, p1, S, rfl, t, ok, hn, hs, q⟩
theorem b_Core_begin_page {K : PySem.W.Frag} {fd : FuncData} (F : F_Core_begin_page K fd) : Binds K fd P_Core_begin_page [] := FunD.bindsN F fun _ _ _ _ _ _ us hl => match us, hl with | [_], _ => rfl
theorem ok_Core_begin_page (T : Txt K mg D) : FnOk P w K mg base CX0 3 (He.fAd K ("Core", some "begin_page")) (D D_Core_begin_page) P_Core_begin_page (sp_Core_begin_page K) := by
  refine T.d_Core_begin_page.ok sc_Core_begin_page (fun vs H Q E h => ?_) (fun cdv A outer s H vs Q E hr h => ?_)
  · unfold sp_Core_begin_page at h
    first | (obtain ⟨rfl, _⟩ := h; rfl) | (obtain ⟨_, rfl, _⟩ := h; rfl) | (obtain ⟨_, _, rfl, _⟩ := h; rfl) | (obtain ⟨_, _, _, rfl, _⟩ := h; rfl) | (obtain ⟨_, _, _, _, rfl, _⟩ := h; rfl) | (obtain ⟨_, _, _, _, _, rfl, _⟩ := h; rfl) | (obtain ⟨_, _, _, _, _, _, rfl, _⟩ := h; rfl) | (obtain ⟨_, _, _, _, _, _, _, rfl, _⟩ := h; rfl) | (obtain ⟨_, _, _, _, _, _, _, _, rfl, _⟩ := h; rfl) | (obtain ⟨_, _, _, _, _, _, _, _, _, rfl, _⟩ := h; rfl) | (obtain ⟨_, _, _, _, _, _, _, _, _, _, rfl, _⟩ := h; rfl) | (obtain ⟨_, _, _, _, _, _, _, _, _, _, _, rfl, _⟩ := h; rfl)
  · refine ⟨_, PSs.nox (pss_cons (ps_set (i := 1) sc_Core_begin_page.nd rfl (Or.inl rfl) (pe_op op_add (pe_meth0 (pv 0) T.c_Store T.m_Store_newest (ok_Core_newest T) (hr.mono (by decide)) (b_Core_newest T.d_Core_newest) .nil pass0) pe_int))
      (pss_cons (ps_expr (pe_bm PySem.F.plainAttrs_list PySem.F.slot_list_append PySem.F.type_list_append mt_append (pe_fldK (K := K) (pv 0) rfl) (pa_cons (pe_meth (pv 0) T.c_Store T.m_Store_take (ok_Core_take T) (hr.mono (by decide)) (b_Core_take T.d_Core_take) .nil pass0 (pa_cons (pe_tup (pa_cons pe_str (pa_cons (pv 1) pa_nil))) pa_nil)) pa_nil)))
      (pss_cons (ps_dput (hu_of hr) (pe_fldK (K := K) (pv 0) rfl) (pe_ix (ix_listK (K := K)) (pe_fldK (K := K) (pv 0) rfl) (pe_un un_neg pe_int) (fun _ _ => rfl)) pe_bl rfl)
      (pss_cons (ps_set (i := 2) sc_Core_begin_page.nd rfl (Or.inl rfl) (pe_call (ok_root_level T) (hr.mono (by decide)) rfl T.g_root_level T.d_root_level.kp (b_root_level T.d_root_level) .nil pass0 (pa_cons (pe_fldK (K := K) (pv 0) rfl) (pa_cons (pv 1) (pa_cons (pe_fldK (K := K) (pe_fldK (K := K) (pv 0) rfl) rfl) pa_nil)))))
      (pss_cons (ps_set (i := 3) sc_Core_begin_page.nd rfl (Or.inl rfl) pe_int)
      (pss_cons (ps_set (i := 4) sc_Core_begin_page.nd rfl (Or.inl rfl) (pe_lst pa_nil))
      (pss_cons (ps_for PassesOwn.never rfl (pi_range1 (by rfl) T.n_range (pa_cons (pe_op op_add (pv 2) pe_int) pa_nil)) (pg_name (i := 5) sc_Core_begin_page.nd rfl (Or.inr rfl)) (pss_cons (ps_aug (i := 3) sc_Core_begin_page.nd rfl (Or.inl rfl) (pe_fldK (K := K) (pe_fldK (K := K) (pv 0) rfl) rfl) ip_mul)
      (pss_cons (ps_set (i := 6) sc_Core_begin_page.nd rfl (Or.inl rfl) (pe_disp (pps_cons (pe_op op_fdivW (pv 1) (pv 3)) pe_bl pps_nil) (by rfl) (by rfl) (fun z => by cases z) (by decide)))
      (Evl.pss_cut (ps_if (pt_cmpR op_gt (pv 5) (pe_fldK (K := K) (pv 0) rfl) (nomark _)) (pss_one (ps_dput (hu_of hr) (pv 6) (pe_op op_fdivW (pe_fldK (K := K) (pv 0) rfl) (pv 3)) pe_bl rfl)) pss_nil)
      (pss_one (ps_expr (pe_bm PySem.F.plainAttrs_list PySem.F.slot_list_extend PySem.F.type_list_extend mt_extend (pv 4) (pa_cons (pe_lc (own := [("one", 7)]) rfl sc_Core_begin_page.nd (pi_list (pe_callB (cr_sortDI rfl) (by rfl) T.n_sorted (by decide +kernel) (pa_cons (pv 6) pa_nil))) (blkOk_by (N := N_Core_begin_page) (sc := defScope s_Core_begin_page) (by decide +kernel)) (fun _ _ _ _ _ => (pg_name (i := 7) sc_Core_begin_page.nd rfl (Or.inl rfl))) (fun _ _ _ _ _ => (pts_one (pt_cmp (pc_dnotin (hu_of hr) (pe_tup (pa_cons (pv 5) (pa_cons (pv 7) pa_nil))) (pe_fldK (K := K) (pv 0) rfl))))) (fun _ _ _ _ _ => (pe_tup (pa_cons (pv 5) (pa_cons (pv 7) pa_nil))))) pa_nil))))))))
      (pss_cons (ps_fld (pv 0) (pv 2) rfl)
      (pss_cons (ps_for PassesOwn.never rfl (pi_list (pv 4)) (pg_tup rfl (pgs_cons (pg_name (i := 5) sc_Core_begin_page.nd rfl (Or.inr rfl)) (pgs_cons (pg_name (i := 7) sc_Core_begin_page.nd rfl (Or.inl rfl)) pgs_nil))) (pss_cons (ps_dput (hu_of hr) (pe_fldK (K := K) (pv 0) rfl) (pe_tup (pa_cons (pv 5) (pa_cons (pv 7) pa_nil))) (pe_meth (pv 0) T.c_Store T.m_Store_take (ok_Core_take T) (hr.mono (by decide)) (b_Core_take T.d_Core_take) .nil pass0 (pa_cons (pe_tup (pa_cons pe_str (pa_cons (pv 5) (pa_cons (pv 7) pa_nil)))) pa_nil)) rfl)
      (pss_one (ps_expr (pe_meth (pv 0) T.c_Store T.m_Store_change (ok_Core_change T) (hr.mono (by decide)) (b_Core_change T.d_Core_change) .nil pass0 (pa_cons (pv 5) (pa_cons (pv 7) pa_nil)))))))
      (pss_cons (ps_expr (pe_meth (pv 0) T.c_Store T.m_Store_change (ok_Core_change T) (hr.mono (by decide)) (b_Core_change T.d_Core_change) .nil pass0 (pa_cons pe_int (pa_cons (pe_op op_fdivW (pv 1) (pe_fldK (K := K) (pe_fldK (K := K) (pv 0) rfl) rfl)) pa_nil))))
      (pss_one (ps_for PassesOwn.never rfl (pi_list (pv 4)) (pg_tup rfl (pgs_cons (pg_name (i := 5) sc_Core_begin_page.nd rfl (Or.inr rfl)) (pgs_cons (pg_name (i := 7) sc_Core_begin_page.nd rfl (Or.inl rfl)) pgs_nil))) (pss_one (ps_expr (pe_meth (pv 0) T.c_Store T.m_Store_change (ok_Core_change T) (hr.mono (by decide)) (b_Core_change T.d_Core_change) .nil pass0 (pa_cons (pe_op op_add (pv 5) pe_int) (pa_cons (pe_op op_fdivW (pv 7) (pe_fldK (K := K) (pe_fldK (K := K) (pv 0) rfl) rfl)) pa_nil))))))))))))))))), ?_⟩
    unfold sp_Core_begin_page at h
    obtain ⟨A, Gb, p, f1, p1, S, rfl, t, ok, hn, hs, k⟩ := h
    have ta := t.a
    have hsz := hs
    unfold Sx.sz at hsz
    obtain ⟨sdx, stu, hset, _⟩ := t.set
    walk_at "rd"
    refine use_newest rfl t ?_
    walk_at "rd"
    refine ⟨.inl ⟨rfl, _, SqL.of t.h⟩, ?_⟩
    walk_at "rd"
    intro b0 n1
    generalize eG1 : upd _ b0 _ = G1
    obtain ⟨g1, c1⟩ := gen_new n1 eG1
    clear eG1
    have t1 := t.same g1
    have en : (S.oldest : Int) + S.heap.length - 1 + 1 = ((S.oldest + S.heap.length : Nat) : Int) := by omega
    have c1' : G1 b0 = some (.tup [.str "heap", .int ((S.oldest + S.heap.length : Nat) : Int)]) := by rw [← en]; exact c1
    walk_at "rd"
    refine use_take (r := .hp ((S.oldest + S.heap.length : Nat) : Int)) rfl t1 ⟨b0, rfl, c1'⟩ (by omega) fun G2 t2 s2 => ?_
    have ta2 := t2.a
    have eh2 : (S.takeS (.hp ((S.oldest + S.heap.length : Nat) : Int))).heap = S.heap := by unfold Sx.takeS Sx.taking Sx.ev; split <;> rfl
    have th2 := t2.h
    rw [eh2] at th2
    walk_at "rd"
    refine ⟨_, _, _, rfl, rfl, th2, szlt (by rw [List.length_map]; omega), ?_⟩
    rw [map_snoc]
    obtain ⟨t3, s3⟩ := t2.w_h (S.heap ++ [S.takeP])
    generalize hG3 : L2.upd _ _ _ = G3 at t3 s3 ⊢
    clear hG3
    have ta3 := t3.a
    walk_at "rd"
    refine ⟨_, _, _, _, rfl, rfl, SqL.of t3.h, by rw [← map_snoc]; exact atI_last _ _, ?_⟩
    walk_at "rd"
    have ec3 : (S.takeS (.hp ((S.oldest + S.heap.length : Nat) : Int))).changed = S.changed := by unfold Sx.takeS Sx.taking Sx.ev; split <;> rfl
    have tc3 := t3.c
    refine ⟨_, _, rfl, DPut.k (k := Sum.inl S.takeP) tc3 (szlt (Nat.le_trans (Nat.le_of_eq (by rw [List.length_map]; exact congrArg List.length ec3)) (show S.changed.length ≤ 100000 by omega))), ?_⟩
    rw [put_ch]
    obtain ⟨t4, s4⟩ := t3.w_c (cput (S.takeS (.hp ((S.oldest + S.heap.length : Nat) : Int))).changed S.takeP)
    generalize hG4 : L2.upd _ _ _ = G4 at t4 s4 ⊢
    clear hG4
    have ta4 := t4.a
    generalize hS2 : ({ S.takeS (.hp ((S.oldest + S.heap.length : Nat) : Int)) with heap := S.heap ++ [S.takeP] } : Sx).mark S.takeP = S2
    have t4 : StoreAt K G4 A Gb p f1 p1 S2 := by rw [← hS2]; exact t4
    have eo : S2.oldest = S.oldest := by subst hS2; unfold Sx.mark Sx.takeS Sx.taking Sx.ev; split <;> rfl
    have ent : S2.nodes = S.nodes := by subst hS2; unfold Sx.mark Sx.takeS Sx.taking Sx.ev; split <;> rfl
    have hszS2 : S2.sz ≤ 90010 := by
      subst hS2
      refine Nat.le_trans (sz_mark _ _) ?_
      have h1 := sz_take S (.hp ((S.oldest + S.heap.length : Nat) : Int))
      unfold Sx.sz at h1 ⊢
      rw [eh2] at h1
      simp only [List.length_append, List.length_cons, List.length_nil]
      omega
    have etp : S2.top = S.top := by subst hS2; unfold Sx.mark Sx.takeS Sx.taking Sx.ev; split <;> rfl
    have ta4 := t4.a
    obtain ⟨sdx4, stu4, hset4, _⟩ := t4.set'
    have hf2 : 2 ≤ p.fan.toNat := fan2 ok
    have hfz : ((p.fan.toNat : Nat) : Int) = p.fan := by have := ok.f; omega
    walk_at "rd"
    refine use_root_level (b := S.oldest) (e := S.oldest + S.heap.length) (by rw [eo]) en ok.f (rlv_is hf2 (Nat.le_add_right _ _)) ?_
    rw [Nat.add_sub_cancel]
    generalize hlv : rlv p.fan.toNat S.oldest (S.oldest + S.heap.length) = lv
    have hlvp := rlv_pow hf2 (Nat.le_add_right S.oldest S.heap.length) hn
    rw [hlv] at hlvp
    have hlv2 : lv ≤ 110 := by
      by_cases c : lv ≤ 110
      · exact c
      · have h1 := Nat.pow_le_pow_left hf2 lv
        have h2 := Nat.pow_le_pow_right (show 0 < 2 by decide) (show 110 ≤ lv by omega)
        have h3 : 1000000000000000000000000000000 < 2 ^ 110 := by decide
        omega
    walk_at "rd"
    intro b5 n5
    generalize eG5 : upd _ b5 _ = G5
    obtain ⟨g5, c5⟩ := gen_new n5 eG5
    clear eG5
    obtain ⟨no5, ng5⟩ := t4.fresh n5
    have s04 : SF A H A G4 := (((SF.same g1).trans s2).trans s3).trans s4
    have hb5n := s04.free no5 n5
    have t5 := t4.same g5
    walk_at "rd"
    generalize hN : Int.toNat _ = N
    have hN : N = lv + 1 := by omega
    subst hN
    clear hN
    refine for_range (lo := 0) (n := lv + 1) (fun i σ G' => ∃ (L : List (Addr × Int × Int)) (v1 v2 : Option V), σ = [some (.ref A.a), some (.int ((S.oldest + S.heap.length : Nat) : Int)), some (.int (lv : Int)), some (.int ((p.fan.toNat ^ i : Nat) : Int)), some (.ref b5), v1, v2, none] ∧
      StoreAt K G' A Gb p f1 p1 S2 ∧ SF A H A G' ∧ G' b5 = some (.lst (refsP L)) ∧ PrL G' L ∧ L.map (·.2) = begunL p.fan.toNat S.oldest (S.oldest + S.heap.length) S.top S.nodes i) ⟨[], none, none, ?_, t5, ?_, c5, fun e he => (nomatch he), rfl⟩ ?_ ?_
    · exact congr (congrArg (fun u v : Int => ([some (.ref A.a), some (.int u), some (.int (lv : Int)), some (.int v), some (.ref b5), none, none, none] : L2.St)) en) (show (1 : Int) = ((p.fan.toNat ^ 0 : Nat) : Int) by rw [Nat.pow_zero]; rfl)
    · exact ((((SF.same g1).trans s2).trans s3).trans s4).trans (SF.same g5)
    · rintro i σ G' hi ⟨L, v1, v2, rfl, t6, s6, c6, p6, m6'⟩
      have ta6 := t6.a
      obtain ⟨sdx6, stu6, hset6, _⟩ := t6.set'
      have hpi : p.fan.toNat ^ i ≤ 1000000000000000000000000000000 := Nat.le_trans (Nat.pow_le_pow_right (by omega) (by omega)) hlvp
      have hf8 : p.fan.toNat ≤ 8 := by have := ok.f; omega
      have hpos : 0 < p.fan.toNat ^ (i + 1) := Nat.pow_pos (by omega)
      have hps : ((p.fan.toNat ^ i : Nat) : Int) * p.fan = ((p.fan.toNat ^ (i + 1) : Nat) : Int) := by rw [Nat.pow_succ, ← hfz]; exact (Int.natCast_mul _ _).symm
      have hp1 : p.fan.toNat ^ (i + 1) ≤ 8000000000000000000000000000000 := by rw [Nat.pow_succ]; exact Nat.mul_le_mul hpi hf8
      walk_at "rd"
      dsimp only
      rw [hps]
      walk_at "rd"
      intro W nW
      generalize eW : upd G' W _ = G7
      obtain ⟨g7, c7⟩ := gen_new nW eW
      clear eW
      obtain ⟨noW, ngW⟩ := t6.fresh nW
      have t7 := t6.same g7
      have ta7 := t7.a
      have p7 := p6.tp g7.tp
      have c67 := g7 _ _ c6
      have nWb : b5 ≠ W := ne_of_none c6 nW
      walk_at "rd"
      refine ⟨[(Sum.inl (((S.oldest + S.heap.length : Nat) : Int) / ((p.fan.toNat ^ (i + 1) : Nat) : Int)), .bl true)], rfl, Nat.le_of_ble_eq_true rfl, ?_⟩
      rw [merge1, ← Int.natCast_ediv]
      have t8 := t7.out (o := .dK [(Sum.inl ((S.oldest + S.heap.length) / p.fan.toNat ^ (i + 1) : Nat), .bl true)]) noW ngW c7 fun _ z => nomatch z
      have hWn := s6.free noW nW
      have s8 := ((s6.trans (SF.same g7)).mut (o := .dK [(Sum.inl ((S.oldest + S.heap.length) / p.fan.toNat ^ (i + 1) : Nat), .bl true)]) hWn c7 fun _ z => nomatch z)
      generalize eG8 : L2.upd G7 W _ = G8
      have c8 : G8 W = some (.dK ([(((S.oldest + S.heap.length) / p.fan.toNat ^ (i + 1) : Nat) : Int)].map chE)) := by rw [← eG8]; exact upd_same
      have c68 : G8 b5 = some (.lst (refsP L)) := by rw [← eG8, upd_ne nWb]; exact c67
      have p8 : PrL G8 L := p7.tp (by rw [← eG8]; exact TP.upd c7 fun _ z => nomatch z)
      rw [eG8] at t8 s8
      clear eG8
      have ta8 := t8.a
      generalize ha : (((S.oldest + S.heap.length) / p.fan.toNat ^ (i + 1) : Nat) : Int) = wa at c8
      generalize ho : ((S.oldest / p.fan.toNat ^ (i + 1) : Nat) : Int) = wo
      walk_at "rd"
      refine ⟨fun σ' H' => ∃ (ks : List Int), σ' = [some (.ref A.a), some (.int ((S.oldest + S.heap.length : Nat) : Int)), some (.int (lv : Int)), some (.int ((p.fan.toNat ^ (i + 1) : Nat) : Int)), some (.ref b5), some (.int (0 + (i : Int))), some (.ref W), none] ∧
        sortI ks = wantL wa wo (decide ((i : Int) > S.top)) ∧ H' W = some (.dK (ks.map chE)) ∧ StoreAt K H' A Gb p f1 p1 S2 ∧ SF A H A H' ∧ H' b5 = some (.lst (refsP L)) ∧ PrL H' L, ?_, ?_⟩
      · walk_at "rd"
        refine ite2 (fun c => ?_) (fun c => ?_)
        · have c := of_decide_eq_true c
          have cd : decide ((i : Int) > S.top) = true := decide_eq_true (by rw [← etp]; omega)
          walk_at "rd"
          refine ⟨_, _, rfl, DPut.k (k := Sum.inl ((S2.oldest : Int) / ((p.fan.toNat ^ (i + 1) : Nat) : Int))) c8 (szlt (Nat.le_of_ble_eq_true rfl)), ?_⟩
          rw [put_ch, eo, ← Int.natCast_ediv, ho]
          have t9 := t8.out (o := .dK ((cput [wa] wo).map chE)) noW ngW c8 fun _ z => nomatch z
          have s9 := s8.mut (o := .dK ((cput [wa] wo).map chE)) hWn c8 fun _ z => nomatch z
          refine ⟨cput [wa] wo, rfl, ?_, upd_same, t9, s9, by rw [upd_ne nWb]; exact c68, p8.tp (TP.upd c8 fun _ z => nomatch z)⟩
          have := want_sort wa wo true
          rw [if_pos rfl] at this
          rw [cd, this]
        · have c := of_decide_eq_false (Bool.not_eq_true _ ▸ c)
          have cd : decide ((i : Int) > S.top) = false := decide_eq_false (by rw [← etp]; omega)
          walk_at "rd"
          refine ⟨[wa], rfl, ?_, c8, t8, s8, c68, p8⟩
          have := want_sort wa wo false
          rw [if_neg Bool.false_ne_true] at this
          rw [cd, this]
      · rintro σ' G9 ⟨ks, rfl, hks, c9, t9, s9, c69, p9⟩
        have ta9 := t9.a
        walk_at "rd"
        refine ⟨.inl ⟨rfl, _, SqL.of c69⟩, ?_⟩
        walk_at "rd"
        refine ⟨_, _, ks, rfl, .inl c9, keys_ch ks, fun ys q GA pm pw nq gA cA => ?_⟩
        rw [sortI_eq pm pw, hks] at cA
        clear pm pw
        generalize hwl : wantL wa wo (decide ((i : Int) > S.top)) = wl at cA
        have tA := t9.same gA
        have taA := tA.a
        have c6A := gA _ _ c69
        have pA := p9.tp gA.tp
        walk_at "rd"
        intro D nD
        obtain ⟨noD, ngD⟩ := tA.fresh nD
        have hDn := (s9.trans (SF.same gA)).free noD nD
        have nbD : b5 ≠ D := ne_of_none c6A nD
        have nqD : q ≠ D := ne_of_none cA nD
        refine lc_list (K := K) (a := q) (xs := wl.map V.int) (fun j G => ∃ M : List (Addr × Int × Int), M.map (·.2) = ((wl.take j).map fun one => ((i : Int), one)).filter (fun k => (aget S.nodes k).isNone) ∧ G D = some (.lst (refsP M)) ∧ PrL G M ∧
          StoreAt K G A Gb p f1 p1 S2 ∧ SF A H A G ∧ G b5 = some (.lst (refsP L)) ∧ PrL G L ∧ G q = some (.lst (wl.map V.int)) ∧ M.length ≤ 2) ?_ ?_ ?_ ?_
        · have gD : Same GA (L2.upd GA D (.lst [])) := same_new nD
          exact ⟨[], rfl, upd_same, fun e he => (nomatch he), tA.same gD, (s9.trans (SF.same gA)).trans (SF.same gD), gD _ _ c6A, pA.tp gD.tp, gD _ _ cA, by simp⟩
        · rintro j G _ ⟨M, _, _, _, _, _, _, _, hq, _⟩
          exact SqL.of hq
        · rintro j x G hx ⟨M, m1, m2, m3, m4, m5, m6, m7, m8, m9⟩
          obtain ⟨z, hz, rfl⟩ := map_some hx
          have etk : wl.take (j + 1) = wl.take j ++ [z] := by rw [List.take_succ, hz]; rfl
          refine ⟨rfl, ?_⟩
          have ta' := m4.a
          walk_at "rd"
          intro tq nB
          generalize eGB : upd _ tq _ = GB
          obtain ⟨gB, cB⟩ := gen_new nB eGB
          clear eGB
          have tB := m4.same gB
          have taB := tB.a
          have nDB : D ≠ tq := ne_of_none m2 nB
          walk_at "rd"
          refine ⟨_, _, rfl, DGet.t (k := nkK (0 + (i : Int), z)) tB.n cB, ?_⟩
          rw [val_nd, ent, Int.zero_add]
          walk_at "rd"
          rw [Int.zero_add] at cB
          cases hag : aget S.nodes ((i : Int), z) with
          | none =>
            refine iteT_of rfl ?_
            walk_at "rd"
            intro tr nC
            generalize eGC : upd _ tr _ = GC
            obtain ⟨gC, cC⟩ := gen_new nC eGC
            clear eGC
            have cC : GC tr = some (.tup [.int (i : Int), .int z]) := by simpa using cC
            have nDC : D ≠ tr := ne_of_none (gB _ _ m2) nC
            have gBC := gB.trans gC
            have tpD : TP GC (L2.upd GC D (.lst (refsP M ++ [.ref tr]))) := TP.upd (gBC _ _ m2) fun _ z => nomatch z
            refine ⟨refsP M, gBC _ _ m2, szlt (by unfold refsP; rw [List.length_map]; omega), M ++ [(tr, (i : Int), z)], ?_, ?_, ?_, ?_, ?_, ?_, ?_, ?_, ?_⟩
            · rw [etk, List.map_append, List.map_append, List.filter_append, m1]
              congr 1
              show [((i : Int), z)] = List.filter _ [((i : Int), z)]
              rw [List.filter_cons_of_pos (by rw [hag]; rfl)]
              rfl
            · rw [upd_same, refsP_append]; rfl
            · intro e he
              rcases List.mem_append.mp he with h | h
              · exact tpD _ _ (gBC _ _ (m3 e h))
              · rw [List.mem_singleton.mp h]
                exact tpD _ _ cC
            · exact (m4.same gBC).out noD ngD (gBC _ _ m2) fun _ z => nomatch z
            · exact (m5.trans (SF.same gBC)).mut hDn (gBC _ _ m2) fun _ z => nomatch z
            · rw [upd_ne nbD]; exact gBC _ _ m6
            · exact (m7.tp gBC.tp).tp tpD
            · rw [upd_ne nqD]; exact gBC _ _ m8
            · have h1 : (M ++ [(tr, (i : Int), z)]).length ≤ (wl.take (j + 1)).length := by
                have e1 : (M ++ [(tr, (i : Int), z)]).map (·.2) = ((wl.take (j + 1)).map fun one => ((i : Int), one)).filter (fun k => (aget S.nodes k).isNone) := by
                  rw [etk, List.map_append, List.map_append, List.filter_append, m1]
                  congr 1
                  show [((i : Int), z)] = List.filter _ [((i : Int), z)]
                  rw [List.filter_cons_of_pos (by rw [hag]; rfl)]
                  rfl
                have e2 := congrArg List.length e1
                rw [List.length_map] at e2
                rw [e2]
                refine Nat.le_trans (List.length_filter_le _ _) ?_
                rw [List.length_map]
                exact Nat.le_refl _
              have h2 : (wl.take (j + 1)).length ≤ 2 := by
                rw [List.length_take]
                have := wantL_le wa wo (decide ((i : Int) > S.top))
                rw [hwl] at this
                omega
              omega
          | some pg =>
            refine iteF_of rfl ?_
            refine ⟨M, ?_, gB _ _ m2, m3.tp gB.tp, tB, m5.trans (SF.same gB), gB _ _ m6, m7.tp gB.tp, gB _ _ m8, m9⟩
            rw [etk, List.map_append, List.filter_append, m1]
            show _ = _ ++ List.filter _ [((i : Int), z)]
            rw [List.filter_cons_of_neg (by rw [hag]; exact Bool.false_ne_true), List.filter_nil, List.append_nil]
        · rintro G ⟨M, m1, m2, m3, m4, m5, m6, m7, m8, m9⟩
          walk_at "rd"
          have hLl : L.length ≤ 222 := by
            have e2 := congrArg List.length m6'
            have := begunL_le p.fan.toNat S.oldest (S.oldest + S.heap.length) S.top S.nodes i
            rw [List.length_map] at e2
            omega
          refine ⟨_, _, _, _, rfl, rfl, m6, m2, szl (by unfold refsP; rw [List.length_map, List.length_map]; omega), ?_⟩
          rw [← refsP_append]
          have tpE : TP G (L2.upd G b5 (.lst (refsP (L ++ M)))) := TP.upd m6 fun _ z => nomatch z
          have tE := m4.out (o := .lst (refsP (L ++ M))) no5 ng5 m6 fun _ z => nomatch z
          have sE := m5.mut (o := .lst (refsP (L ++ M))) hb5n m6 fun _ z => nomatch z
          refine ⟨L ++ M, some (.int (0 + (i : Int))), some (.ref W), rfl, tE, sE, upd_same, ?_, ?_⟩
          · intro e he
            rcases List.mem_append.mp he with h | h
            · exact tpE _ _ (m7 e h)
            · exact tpE _ _ (m3 e h)
          · rw [begunL_succ, List.map_append, m6']
            congr 1
            rw [m1, List.length_map, List.take_length, ← hwl, ← ha, ← ho]
            rfl
    · rintro σ G' ⟨L, v1, v2, rfl, t6, s6, c6, p6, m6'⟩
      have ta6 := t6.a
      walk_at "rd"
      rw [pF_top]
      obtain ⟨t7, s7⟩ := t6.w_top (lv : Int)
      generalize hG7 : L2.upd _ _ _ = G7 at t7 s7 ⊢
      clear hG7
      have ta7 := t7.a
      have c7 := s7.2.1 _ _ no5 c6
      have p7 := p6.tp s7.2.2.2
      have s7' := s6.trans s7
      generalize hbg : begunL p.fan.toNat S.oldest (S.oldest + S.heap.length) S.top S.nodes (lv + 1) = bg at m6'
      have hLl : L.length ≤ 222 := by
        have e2 := congrArg List.length m6'
        have := begunL_le p.fan.toNat S.oldest (S.oldest + S.heap.length) S.top S.nodes (lv + 1)
        rw [hbg] at this
        rw [List.length_map] at e2
        omega
      refine ⟨⟨_, SqL.of c7⟩, ?_⟩
      refine for_list (xs := refsP L) (fun j σ G => ∃ v5 v7, σ = [some (.ref A.a), some (.int ((S.oldest + S.heap.length : Nat) : Int)), some (.int (lv : Int)), some (.int ((p.fan.toNat ^ (lv + 1) : Nat) : Int)), some (.ref b5), v5, v2, v7] ∧
        StoreAt K G A Gb p f1 p1 ((bg.take j).foldl Sx.begin1 { S2 with top := (lv : Int) }) ∧ SF A H A G ∧ G b5 = some (.lst (refsP L)) ∧ PrL G L) ⟨v1, none, rfl, t7, s7', c7, p7⟩ ?_ ?_ ?_
      · rintro j σ G _ ⟨v5, v7, _, _, _, h, _⟩
        exact SqL.of h
      · rintro j x σ G hx ⟨v5, v7, rfl, t8, s8, c8, p8⟩
        obtain ⟨e, he, rfl⟩ := refs_get hx
        have hej : bg[j]? = some e.2 := by rw [← m6', List.getElem?_map, he]; rfl
        have etk : bg.take (j + 1) = bg.take j ++ [e.2] := by rw [List.take_succ, hej]; rfl
        have hjl : j < 222 := by
          have := (List.getElem?_eq_some_iff.mp he).1
          omega
        have hsz8 : ((bg.take j).foldl Sx.begin1 { S2 with top := (lv : Int) }).sz ≤ 91000 := by
          have h1 := sz_begins (bg.take j) { S2 with top := (lv : Int) }
          have h2 : (bg.take j).length ≤ j := by rw [List.length_take]; omega
          have h3 : ({ S2 with top := (lv : Int) } : Sx).sz = S2.sz := rfl
          omega
        rw [etk, List.foldl_append]
        generalize (bg.take j).foldl Sx.begin1 { S2 with top := (lv : Int) } = S8 at t8 hsz8 ⊢
        have hsz8' := hsz8
        unfold Sx.sz at hsz8'
        have ta8 := t8.a
        refine ⟨_, _, rfl, SqT.of (p8 e (List.mem_of_getElem? he)), rfl, ?_⟩
        walk_at "rd"
        intro bN n9
        generalize eG9 : upd _ bN _ = G9
        obtain ⟨g9, c9⟩ := gen_new n9 eG9
        clear eG9
        have t9 := t8.same g9
        walk_at "rd"
        refine use_take (r := .nd e.2.1 e.2.2) rfl t9 ⟨bN, rfl, c9⟩ (by omega) fun G10 t10 s10 => ?_
        have ta10 := t10.a
        walk_at "rd"
        intro bK n11
        generalize eG11 : upd _ bK _ = G11
        obtain ⟨g11, c11⟩ := gen_new n11 eG11
        clear eG11
        have t11 := t10.same g11
        have ta11 := t11.a
        have en11 := take_nodes S8 (.nd e.2.1 e.2.2)
        refine ⟨_, _, rfl, DPut.t (k := nkK e.2) t11.n c11 (szlt (by rw [en11, List.length_map]; omega)), ?_⟩
        rw [put_nd, en11]
        obtain ⟨t12, s12⟩ := t11.w_n (aput S8.nodes e.2 S8.takeP)
        generalize hG12 : L2.upd _ _ _ = G12 at t12 s12 ⊢
        clear hG12
        have ta12 := t12.a
        have hsz12 : ({ S8.takeS (.nd e.2.1 e.2.2) with nodes := aput S8.nodes e.2 S8.takeP } : Sx).changed.length ≤ 99999 := by
          have : (S8.takeS (.nd e.2.1 e.2.2)).changed = S8.changed := by unfold Sx.takeS Sx.taking Sx.ev; split <;> rfl
          show (S8.takeS (.nd e.2.1 e.2.2)).changed.length ≤ 99999
          rw [this]
          omega
        walk_at "rd"
        refine use_change (k := e.2) rfl rfl rfl t12 hsz12 fun G13 t13 s13 => ?_
        have sall := (((SF.same g9).trans s10).trans ((SF.same g11).trans s12)).trans s13
        exact ⟨_, _, rfl, t13, s8.trans sall, sall.2.1 _ _ no5 c8, p8.tp sall.2.2.2⟩
      · rintro σ G ⟨v5, v7, rfl, t8, s8, c8, p8⟩
        have ebg : bg.length = (refsP L).length := by rw [← m6']; unfold refsP; rw [List.length_map, List.length_map]
        rw [← ebg, List.take_length] at t8
        have hsz8 : (bg.foldl Sx.begin1 { S2 with top := (lv : Int) }).sz ≤ 91000 := by
          have h1 := sz_begins bg { S2 with top := (lv : Int) }
          have h3 : ({ S2 with top := (lv : Int) } : Sx).sz = S2.sz := rfl
          have h4 : bg.length ≤ 222 := by rw [← m6', List.length_map]; exact hLl
          omega
        generalize hS8 : bg.foldl Sx.begin1 { S2 with top := (lv : Int) } = S8 at t8 hsz8
        have hsz8' := hsz8
        unfold Sx.sz at hsz8'
        have ta8 := t8.a
        obtain ⟨sdx8, stu8, hset8, _⟩ := t8.set'
        obtain ⟨okf0, okf1⟩ := ok.f
        walk_at "rd"
        refine use_change (k := (0, (((S.oldest + S.heap.length) / p.fan.toNat : Nat) : Int))) rfl rfl (by rw [← hfz]; exact (Int.natCast_ediv _ _).symm) t8 (by omega) fun G9 t9 s9 => ?_
        have c9 := s9.2.1 _ _ no5 c8
        have p9 := p8.tp s9.2.2.2
        have hsz9 := sz_change S8 (0, (((S.oldest + S.heap.length) / p.fan.toNat : Nat) : Int))
        generalize hS9 : S8.change (0, (((S.oldest + S.heap.length) / p.fan.toNat : Nat) : Int)) = S9 at t9 hsz9
        walk_at "rd"
        refine for_list (xs := refsP L) (fun j σ G => ∃ v5 v7, σ = [some (.ref A.a), some (.int ((S.oldest + S.heap.length : Nat) : Int)), some (.int (lv : Int)), some (.int ((p.fan.toNat ^ (lv + 1) : Nat) : Int)), some (.ref b5), v5, v2, v7] ∧
          StoreAt K G A Gb p f1 p1 ((bg.take j).foldl (fun T k => T.change (upK p.fan.toNat k)) S9) ∧ SF A H A G ∧ G b5 = some (.lst (refsP L)) ∧ PrL G L) ⟨v5, v7, rfl, t9, s8.trans s9, c9, p9⟩ ?_ ?_ ?_
        · rintro j σ G _ ⟨v5, v7, _, _, _, h, _⟩
          exact SqL.of h
        · rintro j x σ G hx ⟨v5, v7, rfl, tA, sA, cA, pA⟩
          obtain ⟨e, he, rfl⟩ := refs_get hx
          have hej : bg[j]? = some e.2 := by rw [← m6', List.getElem?_map, he]; rfl
          have etk : bg.take (j + 1) = bg.take j ++ [e.2] := by rw [List.take_succ, hej]; rfl
          have hjl : j < 222 := by
            have := (List.getElem?_eq_some_iff.mp he).1
            omega
          have hszA : ((bg.take j).foldl (fun T k => T.change (upK p.fan.toNat k)) S9).sz ≤ 92000 := by
            have h1 := sz_changes p.fan.toNat (bg.take j) S9
            have h2 : (bg.take j).length ≤ j := by rw [List.length_take]; omega
            omega
          rw [etk, List.foldl_append]
          generalize (bg.take j).foldl (fun T k => T.change (upK p.fan.toNat k)) S9 = SA at tA hszA ⊢
          have hszA' := hszA
          unfold Sx.sz at hszA'
          have taA := tA.a
          obtain ⟨sdxA, stuA, hsetA, _⟩ := tA.set'
          refine ⟨_, _, rfl, SqT.of (pA e (List.mem_of_getElem? he)), rfl, ?_⟩
          walk_at "rd"
          refine use_change (k := upK p.fan.toNat e.2) rfl rfl (by unfold upK; rw [hfz]) tA (by omega) fun GB tB sB => ?_
          exact ⟨_, _, rfl, tB, sA.trans sB, sB.2.1 _ _ no5 cA, pA.tp sB.2.2.2⟩
        · rintro σ G ⟨v5, v7, rfl, tA, sA, cA, pA⟩
          rw [← ebg, List.take_length] at tA
          walk_at "rd"
          refine k G ?_ sA
          have ef : S.beginPage p.fan.toNat = bg.foldl (fun T k => T.change (upK p.fan.toNat k)) S9 := by
            rw [← hS9, ← hS8, ← hS2, ← hbg, ← hlv]
            rfl
          rw [ef]
          exact tA

theorem lexLe_lt_iff (a b : NK) : lexLe a b ↔ (a.1 < b.1 ∨ (a.1 = b.1 ∧ a.2 ≤ b.2)) := Iff.rfl
theorem sz_give (S : Sx) (p : Int) (r : Ro) : (S.give p r).sz ≤ S.sz + 2 := by
  unfold Sx.give
  rw [sz_ev]
  have : (cdrop S.changed p).length ≤ S.changed.length := List.length_filter_le _ _
  unfold Sx.sz
  simp only [List.length_append, List.length_cons, List.length_nil]
  omega
theorem give_nodes (S : Sx) (p : Int) (r : Ro) : (S.give p r).nodes = S.nodes := rfl
theorem sz_end1 (S : Sx) (k : NK) : (S.end1 k).sz ≤ S.sz + 2 := by
  unfold Sx.end1
  refine Nat.le_trans (sz_give _ _ _) ?_
  have : (adrop S.nodes k).length ≤ S.nodes.length := List.length_filter_le _ _
  unfold Sx.sz
  simp only []
  omega
theorem sz_ends : ∀ (l : List NK) (S : Sx), (l.foldl Sx.end1 S).sz ≤ S.sz + 2 * l.length
  | [], S => Nat.le_refl _
  | k :: l, S => by
    have h1 := sz_ends l (S.end1 k)
    have h2 := sz_end1 S k
    rw [List.foldl_cons, List.length_cons]
    omega
theorem chg_ends : ∀ (l : List NK) (S : Sx), (l.foldl Sx.end1 S).changed.length ≤ S.changed.length
  | [], S => Nat.le_refl _
  | k :: l, S => by
    rw [List.foldl_cons]
    refine Nat.le_trans (chg_ends l (S.end1 k)) ?_
    show (cdrop S.changed _).length ≤ _
    exact List.length_filter_le _ _
theorem chg_change (S : Sx) (k : NK) : (S.change k).changed.length ≤ S.changed.length + 1 := by
  unfold Sx.change
  split
  · omega
  · exact cput_len _ _
theorem chg_changes (f : Nat) : ∀ (l : List NK) (S : Sx), (l.foldl (fun T k => T.change (upK f k)) S).changed.length ≤ S.changed.length + l.length
  | [], S => Nat.le_refl _
  | k :: l, S => by
    have h1 := chg_changes f l (S.change (upK f k))
    have h2 := chg_change S (upK f k)
    rw [List.foldl_cons, List.length_cons]
    omega
/-- dropping others keeps what stands at k -/
theorem aget_drop {l : List (NK × Int)} {j k : NK} (h : j ≠ k) : aget (adrop l j) k = aget l k := by
  induction l with
  | nil => rfl
  | cons e l ih =>
    unfold aget adrop at ih ⊢
    by_cases c : e.1 = j
    · rw [List.filter_cons_of_neg (by simpa using c), ih, List.find?_cons, decide_eq_false (by rw [c]; exact h)]
    · rw [List.filter_cons_of_pos (by simpa using c), List.find?_cons, List.find?_cons]
      by_cases d : e.1 = k
      · rw [decide_eq_true d]
      · rw [decide_eq_false d]; exact ih
theorem aget_ends {k : NK} : ∀ (l : List NK) (S : Sx), k ∉ l → aget (l.foldl Sx.end1 S).nodes k = aget S.nodes k
  | [], S, _ => rfl
  | j :: l, S, h => by
    rw [List.foldl_cons, aget_ends l _ (fun z => h (List.mem_cons_of_mem _ z))]
    show aget (adrop S.nodes j) k = _
    exact aget_drop fun z => h (by rw [z]; exact List.mem_cons_self)
theorem aget_mem {l : List (NK × Int)} {k : NK} (h : k ∈ l.map (·.1)) : ∃ v, aget l k = some v := by
  induction l with
  | nil => cases h
  | cons e l ih =>
    unfold aget at ih ⊢
    rw [List.find?_cons]
    by_cases c : e.1 = k
    · rw [decide_eq_true c]; exact ⟨_, rfl⟩
    · rw [decide_eq_false c]
      rw [List.map_cons, List.mem_cons] at h
      exact ih (h.resolve_left fun z => c z.symm)
/-- what end_page wants: all that is to end is there, once -/
structure EndOk (S : Sx) (f : Nat) : Prop where
  ne : S.heap ≠ []
  nd : (endedL f S.oldest S.nodes (S.endLv f)).Nodup
  sub : ∀ k ∈ endedL f S.oldest S.nodes (S.endLv f), k ∈ S.nodes.map (·.1)
theorem seq0 {n : Nat} (h : 0 < n) : seqIndex? 0 n = some 0 := by unfold seqIndex?; simp; omega
@[irreducible] def sp_Core_end_page (K : PySem.W.Frag) : Sp := fun vs H Q _ => ∃ (A : SAd) (G : Hp) (p : Prt) (f1 p1 : Nat) (S : Sx), vs = [.ref A.a] ∧ StoreAt K H A G p f1 p1 S ∧ p.Ok ∧ S.oldest + S.heap.length < 1000000000000000000000000000000 ∧ S.sz ≤ 30000 ∧ EndOk S p.fan.toNat ∧
  ∀ H', StoreAt K H' A G p f1 p1 (S.endPage p.fan.toNat) → SF A H A H' → Q .non H'
theorem use_end_page {K : PySem.W.Frag} {A : SAd} {a : Addr} {G : Hp} {p : Prt} {f1 p1 : Nat} {S : Sx} {H : Hp} {Q : VK} {E : XK} (ea : a = A.a) (t : StoreAt K H A G p f1 p1 S) (ok : p.Ok) (hn : S.oldest + S.heap.length < 1000000000000000000000000000000) (hs : S.sz ≤ 30000) (eo : EndOk S p.fan.toNat)
  (q : ∀ H', StoreAt K H' A G p f1 p1 (S.endPage p.fan.toNat) → SF A H A H' → Q .non H') : sp_Core_end_page K [.ref a] H Q E := by
  subst ea; unfold sp_Core_end_page; exact ⟨A, G, p, f1, p1, S, rfl, t, ok, hn, hs, eo, q⟩
theorem b_Core_end_page {K : PySem.W.Frag} {fd : FuncData} (F : F_Core_end_page K fd) : Binds K fd P_Core_end_page [] := FunD.bindsN F fun _ _ _ _ _ _ us hl => match us, hl with | [_], _ => rfl
theorem ok_Core_end_page (T : Txt K mg D) : FnOk P w K mg base CX0 3 (He.fAd K ("Core", some "end_page")) (D D_Core_end_page) P_Core_end_page (sp_Core_end_page K) := by
  refine T.d_Core_end_page.ok sc_Core_end_page (fun vs H Q E h => ?_) (fun cdv A outer s H vs Q E hr h => ?_)
  · unfold sp_Core_end_page at h
    first | (obtain ⟨rfl, _⟩ := h; rfl) | (obtain ⟨_, rfl, _⟩ := h; rfl) | (obtain ⟨_, _, rfl, _⟩ := h; rfl) | (obtain ⟨_, _, _, rfl, _⟩ := h; rfl) | (obtain ⟨_, _, _, _, rfl, _⟩ := h; rfl) | (obtain ⟨_, _, _, _, _, rfl, _⟩ := h; rfl) | (obtain ⟨_, _, _, _, _, _, rfl, _⟩ := h; rfl) | (obtain ⟨_, _, _, _, _, _, _, rfl, _⟩ := h; rfl) | (obtain ⟨_, _, _, _, _, _, _, _, rfl, _⟩ := h; rfl) | (obtain ⟨_, _, _, _, _, _, _, _, _, rfl, _⟩ := h; rfl) | (obtain ⟨_, _, _, _, _, _, _, _, _, _, rfl, _⟩ := h; rfl) | (obtain ⟨_, _, _, _, _, _, _, _, _, _, _, rfl, _⟩ := h; rfl)
  · refine ⟨_, PSs.nox (pss_cons (ps_set (i := 1) sc_Core_end_page.nd rfl (Or.inl rfl) (pe_fldK (K := K) (pv 0) rfl))
      (pss_cons (ps_expr (pe_meth (pv 0) T.c_Store T.m_Store_give (ok_Core_give T) (hr.mono (by decide)) (b_Core_give T.d_Core_give) .nil pass0 (pa_cons (pe_bm PySem.F.plainAttrs_list PySem.F.slot_list_pop PySem.F.type_list_pop mt_popAt (pe_fldK (K := K) (pv 0) rfl) (pa_cons pe_int pa_nil)) (pa_cons (pe_tup (pa_cons pe_str (pa_cons (pv 1) pa_nil))) pa_nil))))
      (pss_cons (ps_fldaug (pv 0) pe_int in_add)
      (Evl.pss_cut (ps_set (i := 2) sc_Core_end_page.nd rfl (Or.inr rfl) (pe_ifExp (pt_cmpR (op_neNK (K := K) hr.units) (pe_fldK (K := K) (pv 0) rfl) (pe_lst pa_nil) (nomark _)) (pe_call (ok_root_level T) (hr.mono (by decide)) rfl T.g_root_level T.d_root_level.kp (b_root_level T.d_root_level) .nil pass0 (pa_cons (pe_fldK (K := K) (pv 0) rfl) (pa_cons (pe_meth0 (pv 0) T.c_Store T.m_Store_newest (ok_Core_newest T) (hr.mono (by decide)) (b_Core_newest T.d_Core_newest) .nil pass0) (pa_cons (pe_fldK (K := K) (pe_fldK (K := K) (pv 0) rfl) rfl) pa_nil)))) (pe_un un_neg pe_int)))
      (pss_cons (ps_lock (ps_setLc (i := 4) (own := [("place", 3)]) rfl sc_Core_end_page.nd rfl rfl (sw_true rfl rfl rfl (by decide +kernel)) (pi_keys (pe_fldK (K := K) (pv 0) rfl)) (blkOk_by (N := N_Core_end_page) (sc := defScope s_Core_end_page) (by decide +kernel)) (fun _ _ _ _ _ => (pg_name (i := 3) sc_Core_end_page.nd rfl (Or.inl rfl))) (fun _ _ _ _ _ => (pts_one (pt_cmpR op_gt (pe_ix (ix_tupK (K := K)) (pv 3) pe_int (fun _ _ => rfl)) (pv 2) (nomark _)))) (fun _ _ _ _ _ => (pv 3))))
      (pss_cons (ps_set (i := 5) sc_Core_end_page.nd rfl (Or.inl rfl) pe_int)
      (pss_cons (ps_for PassesOwn.never rfl (pi_range1 (by rfl) T.n_range (pa_cons (pe_op op_add (pv 2) pe_int) pa_nil)) (pg_name (i := 6) sc_Core_end_page.nd rfl (Or.inl rfl)) (pss_cons (ps_aug (i := 5) sc_Core_end_page.nd rfl (Or.inl rfl) (pe_fldK (K := K) (pe_fldK (K := K) (pv 0) rfl) rfl) ip_mul)
      (pss_one (ps_if (pt_cmpR op_ne (pe_op op_fdivW (pv 1) (pv 5)) (pe_op op_fdivW (pe_fldK (K := K) (pv 0) rfl) (pv 5)) (nomark _)) (pss_one (ps_expr (pe_bm PySem.F.plainAttrs_list PySem.F.slot_list_append PySem.F.type_list_append mt_append (pv 4) (pa_cons (pe_tup (pa_cons (pv 6) (pa_cons (pe_op op_fdivW (pv 1) (pv 5)) pa_nil))) pa_nil)))) pss_nil))))
      (pss_cons (ps_fld (pv 0) (pv 2) rfl)
      (pss_cons (ps_for PassesOwn.never rfl (pi_list (pe_callB (cr_sortP (K := K)) (by rfl) T.n_sorted (by decide +kernel) (pa_cons (pv 4) pa_nil))) (pg_name (i := 3) sc_Core_end_page.nd rfl (Or.inl rfl)) (pss_one (ps_expr (pe_meth (pv 0) T.c_Store T.m_Store_give (ok_Core_give T) (hr.mono (by decide)) (b_Core_give T.d_Core_give) .nil pass0 (pa_cons (pe_dpopT (hu_of hr) (pe_fldK (K := K) (pv 0) rfl) (pv 3) ⟨rfl, rfl, rfl, rfl⟩) (pa_cons (pe_op op_catT (pe_tup (pa_cons pe_str pa_nil)) (pv 3)) pa_nil))))))
      (pss_cons (ps_expr (pe_meth (pv 0) T.c_Store T.m_Store_change (ok_Core_change T) (hr.mono (by decide)) (b_Core_change T.d_Core_change) .nil pass0 (pa_cons pe_int (pa_cons (pe_op op_fdivW (pv 1) (pe_fldK (K := K) (pe_fldK (K := K) (pv 0) rfl) rfl)) pa_nil))))
      (pss_one (ps_for PassesOwn.never rfl (pi_list (pv 4)) (pg_tup rfl (pgs_cons (pg_name (i := 6) sc_Core_end_page.nd rfl (Or.inl rfl)) (pgs_cons (pg_name (i := 7) sc_Core_end_page.nd rfl (Or.inl rfl)) pgs_nil))) (pss_one (ps_expr (pe_meth (pv 0) T.c_Store T.m_Store_change (ok_Core_change T) (hr.mono (by decide)) (b_Core_change T.d_Core_change) .nil pass0 (pa_cons (pe_op op_add (pv 6) pe_int) (pa_cons (pe_op op_fdivW (pv 7) (pe_fldK (K := K) (pe_fldK (K := K) (pv 0) rfl) rfl)) pa_nil))))))))))))))))), ?_⟩
    unfold sp_Core_end_page at h
    obtain ⟨A, Gb, p, f1, p1, S, rfl, t, ok, hn, hs, eo, k⟩ := h
    have ta := t.a
    have hsz := hs
    unfold Sx.sz at hsz
    obtain ⟨h0, hr0, hh⟩ : ∃ x xs, S.heap = x :: xs := by
      cases q : S.heap with
      | nil => exact absurd q eo.ne
      | cons x xs => exact ⟨x, xs, rfl⟩
    have th := t.h
    rw [hh] at th
    walk_at "rd"
    refine ⟨.inl ⟨rfl, _, SqL.of th⟩, ?_⟩
    walk_at "rd"
    refine ⟨_, _, 0, 0, _, rfl, rfl, th, by decide, by decide, seq0 (by simp), rfl, ?_⟩
    have e0 : ((V.int h0 :: hr0.map V.int).eraseIdx 0) = (S.heap.tail).map V.int := by rw [hh]; rfl
    show _
    rw [show (List.map V.int (h0 :: hr0)).eraseIdx 0 = (S.heap.tail).map V.int by rw [hh]; rfl]
    obtain ⟨t1, s1⟩ := t.w_h S.heap.tail
    generalize hG1 : L2.upd _ _ _ = G1 at t1 s1 ⊢
    clear hG1
    have ta1 := t1.a
    walk_at "rd"
    intro b1 n2
    generalize eG2 : upd _ b1 _ = G2
    obtain ⟨g2, c2⟩ := gen_new n2 eG2
    clear eG2
    have t2 := t1.same g2
    walk_at "rd"
    refine use_give (r := .hp S.oldest) rfl t2 ⟨b1, rfl, c2⟩ (by show S.evs.length ≤ 99999; omega) (by show S.waiting.length ≤ 99999; omega) fun G3 t3 s3 => ?_
    generalize hS1 : ({ S with heap := S.heap.tail } : Sx).give h0 (.hp S.oldest) = S1 at t3
    have e1o : S1.oldest = S.oldest := by subst hS1; rfl
    have e1h : S1.heap = S.heap.tail := by subst hS1; rfl
    have e1n : S1.nodes = S.nodes := by subst hS1; rfl
    have hsz1 : S1.sz ≤ 30003 := by
      subst hS1
      refine Nat.le_trans (sz_give _ _ _) ?_
      unfold Sx.sz
      simp only [List.length_tail]
      omega
    have ta3 := t3.a
    walk_at "rd"
    refine ⟨_, _, ta3, lenS, ?_⟩
    rw [pF_oldest]
    obtain ⟨t4, s4⟩ := t3.w_oldest
    generalize hG4 : L2.upd _ _ _ = G4 at t4 s4 ⊢
    clear hG4
    have ta4 := t4.a
    have s04 : SF A H A G4 := ((s1.trans (SF.same g2)).trans s3).trans s4
    generalize hS2 : ({ S1 with oldest := S1.oldest + 1 } : Sx) = S2 at t4
    have e2o : S2.oldest = S.oldest + 1 := by subst hS2; rw [← e1o]
    have e2h : S2.heap = S.heap.tail := by subst hS2; exact e1h
    have e2n : S2.nodes = S.nodes := by subst hS2; exact e1n
    have hsz2 : S2.sz = S1.sz := by subst hS2; rfl
    have ta4 := t4.a
    obtain ⟨sdx4, stu4, hset4, _⟩ := t4.set'
    have hf2 : 2 ≤ p.fan.toNat := fan2 ok
    have hfz : ((p.fan.toNat : Nat) : Int) = p.fan := by have := ok.f; omega
    obtain ⟨okf0, okf1⟩ := ok.f
    generalize hlv : S.endLv p.fan.toNat = lv
    refine ⟨fun σ' H' => σ' = [some (.ref A.a), some (.int S.oldest), some (.int lv), none, none, none, none, none] ∧ StoreAt K H' A Gb p f1 p1 S2 ∧ SF A H A H', ?_, ?_⟩
    · walk_at "rd"
      intro b5 n5
      generalize eG5 : upd _ b5 _ = G5
      obtain ⟨g5, c5⟩ := gen_new n5 eG5
      clear eG5
      refine ne_nil (g5 _ _ t4.h) c5 ?_
      rw [e2h]
      have t5 := t4.same g5
      have ta5 := t5.a
      obtain ⟨sdx5, stu5, hset5, _⟩ := t5.set'
      walk_at "rd"
      refine ite2 (fun c => ?_) (fun c => ?_)
      · have hne : S.heap.tail ≠ [] := of_decide_eq_true c
        have hl2 : 1 ≤ S.heap.tail.length := by cases q : S.heap.tail with
          | nil => exact absurd q hne
          | cons _ _ => simp
        rw [List.length_tail] at hl2
        walk_at "rd"
        refine use_newest rfl t5 ?_
        walk_at "rd"
        refine use_root_level (b := S.oldest + 1) (e := S.oldest + S.heap.length - 1) (by rw [e2o]) (by rw [e2o, e2h, List.length_tail]; omega) ⟨okf0, okf1⟩ (rlv_is hf2 (by omega)) ?_
        rw [Nat.add_sub_cancel]
        walk_at "rd"
        have e : lv = ((rlv p.fan.toNat (S.oldest + 1) (S.oldest + S.heap.length - 1) : Nat) : Int) := by rw [← hlv]; unfold Sx.endLv; rw [if_neg hne]
        rw [e]
        exact ⟨rfl, t5, s04.trans (SF.same g5)⟩
      · have hnil : S.heap.tail = [] := by
          have := of_decide_eq_false (Bool.not_eq_true _ ▸ c)
          exact Classical.not_not.mp this
        walk_at "rd"
        have e : lv = -1 := by rw [← hlv]; unfold Sx.endLv; rw [if_pos hnil]
        rw [e]
        exact ⟨rfl, t5, s04.trans (SF.same g5)⟩
    rintro σ' G6 ⟨rfl, t6, s6⟩
    have ta6 := t6.a
    have hlvp : lv ≤ 110 ∧ -1 ≤ lv ∧ ∀ i : Nat, (i : Int) ≤ lv → p.fan.toNat ^ i ≤ 1000000000000000000000000000000 := by
      rw [← hlv]
      unfold Sx.endLv
      by_cases c : S.heap.tail = []
      · rw [if_pos c]
        exact ⟨by decide, by decide, fun i hi => by omega⟩
      · rw [if_neg c]
        have hl2 : 1 ≤ S.heap.tail.length := by cases q : S.heap.tail with
          | nil => exact absurd q c
          | cons _ _ => simp
        rw [List.length_tail] at hl2
        have hp := rlv_pow hf2 (show S.oldest + 1 ≤ S.oldest + S.heap.length - 1 by omega) (show S.oldest + S.heap.length - 1 < 1000000000000000000000000000000 by omega)
        generalize rlv p.fan.toNat (S.oldest + 1) (S.oldest + S.heap.length - 1) = r at hp
        have hr : r ≤ 110 := by
          by_cases c : r ≤ 110
          · exact c
          · have h1 := Nat.pow_le_pow_left hf2 r
            have h2 := Nat.pow_le_pow_right (show 0 < 2 by decide) (show 110 ≤ r by omega)
            have h3 : 1000000000000000000000000000000 < 2 ^ 110 := by decide
            omega
        exact ⟨by omega, by omega, fun i hi => Nat.le_trans (Nat.pow_le_pow_right (by omega) (by omega)) hp⟩
    obtain ⟨hlv1, hlv0, hlvp⟩ := hlvp
    refine ⟨A.n, .dT (S2.nodes.map ndE), t6.n, True.intro, fun od => ?_⟩
    generalize hGL : L2.upd G6 A.n _ = GL
    have d6 := aps_of t6.nd
    have taL : GL A.a = some (.ins (He.ga K "Store") A.dx (stF A S2)) := by rw [← hGL, upd_ne d6.an]; exact ta6
    have cL : GL A.n = some (.frz od (.dT (S2.nodes.map ndE))) := by rw [← hGL]; exact upd_same
    have fL : ∀ b o, b ≠ A.n → G6 b = some o → GL b = some o := fun b o nb h => by rw [← hGL, upd_ne nb]; exact h
    have nL : ∀ b, GL b = none → G6 b = none := fun b h => by
      by_cases nb : b = A.n
      · rw [nb, cL] at h; cases h
      · rw [← hGL, upd_ne nb] at h; exact h
    clear hGL
    walk_at "rd"
    refine ⟨_, _, rfl, .inr ⟨_, cL, ?_⟩⟩
    intro D nD
    have nD6 := nL D nD
    obtain ⟨noD, ngD⟩ := t6.fresh nD6
    have hDn := s6.free noD nD6
    refine lc_it walk_keysT (fun j G => ∃ M : List (Addr × Int × Int), M.map (·.2) = ((S.nodes.map (·.1)).take j).filter (fun k => decide (k.1 > lv)) ∧ G D = some (.lst (refsP M)) ∧ PrL G M ∧ (∀ b o, b ≠ D → GL b = some o → G b = some o) ∧ M.length ≤ j)
      ⟨[], rfl, upd_same, fun e he => (nomatch he), fun b o nb h => by rw [upd_ne nb]; exact h, Nat.le_refl _⟩ ?_ ?_ ?_
    · rintro j G _ ⟨M, _, _, _, f, _⟩
      exact f _ _ (ne_of_none cL nD) cL
    · rintro j x G G' hj ⟨M, m1, m2, m3, f, m5⟩ ⟨rfl, kk, vv, q, hk, rfl, hq⟩
      rw [List.getElem?_map, e2n] at hk
      obtain ⟨e, he, hke⟩ : ∃ e, S.nodes[j]? = some e ∧ ndE e = (kk, vv) := by
        cases z : S.nodes[j]? with
        | none => rw [z] at hk; cases hk
        | some e => rw [z] at hk; exact ⟨e, rfl, Option.some.inj hk⟩
      have hkk : kk = nkK e.1 := (congrArg Prod.fst hke).symm
      subst hkk
      have hq' : G' q = some (.tup [.int e.1.1, .int e.1.2]) := hq
      have etk : (S.nodes.map (·.1)).take (j + 1) = (S.nodes.map (·.1)).take j ++ [e.1] := by rw [List.take_succ, List.getElem?_map, he]; rfl
      have hjl : j < S.nodes.length := (List.getElem?_eq_some_iff.mp he).1
      refine ⟨rfl, ?_⟩
      walk_at "rd"
      refine iteB (fun c => ?_) (fun c => ?_)
      · have c := of_decide_eq_true c
        walk_at "rd"
        have nDq : q ≠ D := ne_of hq' m2 (fun z => nomatch z)
        have tpD : TP G' (L2.upd G' D (.lst (refsP M ++ [.ref q]))) := TP.upd m2 fun _ z => nomatch z
        refine ⟨refsP M, m2, szlt (by unfold refsP; rw [List.length_map]; omega), M ++ [(q, e.1)], ?_, ?_, ?_, ?_, ?_⟩
        · rw [etk, List.map_append, List.filter_append, m1]
          congr 1
          show [e.1] = List.filter _ [e.1]
          rw [List.filter_cons_of_pos (by exact decide_eq_true c)]
          rfl
        · rw [upd_same, refsP_append]; rfl
        · intro x hx
          rcases List.mem_append.mp hx with h | h
          · exact tpD _ _ (m3 x h)
          · rw [List.mem_singleton.mp h]; exact tpD _ _ hq'
        · intro b o nb h
          rw [upd_ne nb]; exact f b o nb h
        · rw [List.length_append]; simp; omega
      · have c := of_decide_eq_false c
        refine ⟨M, ?_, m2, m3, f, by omega⟩
        rw [etk, List.filter_append, m1]
        show _ = _ ++ List.filter _ [e.1]
        rw [List.filter_cons_of_neg (by rw [decide_eq_false c]; exact Bool.false_ne_true), List.filter_nil, List.append_nil]
    · rintro G ⟨M, m1, m2, m3, f, m5⟩
      refine ⟨f _ _ (ne_of_none cL nD) cL, ?_⟩
      generalize hG7 : L2.upd G A.n _ = G7
      have c7n : G7 A.n = some (.dT (S2.nodes.map ndE)) := by rw [← hG7]; exact upd_same
      have nDn : D ≠ A.n := fun z => by rw [z, cL] at nD; cases nD
      have g7 : Same G6 G7 := fun b o h => by
        by_cases nb : b = A.n
        · rw [nb, t6.n] at h; cases h; rw [nb]; exact c7n
        · rw [← hG7, upd_ne nb]
          exact f _ _ (ne_of_none h nD6) (fL _ _ nb h)
      have c7D : G7 D = some (.lst (refsP M)) := by rw [← hG7, upd_ne nDn]; exact m2
      have p7 : PrL G7 M := fun e he => by
        have h := m3 e he
        have nb : e.1 ≠ A.n := fun z => by
          rw [z, f _ _ (ne_of_none cL nD) cL] at h
          cases h
        rw [← hG7, upd_ne nb]; exact h
      clear hG7
      have t7 := t6.same g7
      have ta7 := t7.a
      have s7 := s6.trans (SF.same g7)
      obtain ⟨sdx7, stu7, hset7, _⟩ := t7.set'
      have em : S2.nodes.length = (S.nodes.map (·.1)).length := by rw [e2n, List.length_map]
      rw [List.length_map, em, List.take_length] at m1
      have m5' : M.length ≤ S.nodes.length := by rw [List.length_map, e2n] at m5; exact m5
      walk_at "rd"
      generalize hN : Int.toNat _ = N
      have hN : N = (lv + 1).toNat := by omega
      subst hN
      clear hN
      refine for_range (lo := 0) (n := (lv + 1).toNat) (fun j σ G => ∃ (L : List (Addr × Int × Int)) (v6 : Option V), σ = [some (.ref A.a), some (.int S.oldest), some (.int lv), none, some (.ref D), some (.int ((p.fan.toNat ^ j : Nat) : Int)), v6, none] ∧
        StoreAt K G A Gb p f1 p1 S2 ∧ SF A H A G ∧ G D = some (.lst (refsP L)) ∧ PrL G L ∧ L.length ≤ S.nodes.length + j ∧
        L.map (·.2) = ((S.nodes.map (·.1)).filter fun k => decide (k.1 > lv)) ++ (List.range j).filterMap fun (i : Nat) => if S.oldest / p.fan.toNat ^ (i + 1) ≠ (S.oldest + 1) / p.fan.toNat ^ (i + 1) then some ((i : Int), ((S.oldest / p.fan.toNat ^ (i + 1) : Nat) : Int)) else none)
        ⟨M, none, congrArg (fun v : Int => ([some (.ref A.a), some (.int S.oldest), some (.int lv), none, some (.ref D), some (.int v), none, none] : L2.St)) (show (1 : Int) = ((p.fan.toNat ^ 0 : Nat) : Int) by rw [Nat.pow_zero]; rfl), t7, s7, c7D, p7, by omega, by rw [m1, List.range_zero, List.filterMap_nil, List.append_nil]⟩ ?_ ?_
      · rintro j σ G8 hj ⟨L, v6, rfl, t8, s8, c8, p8, l8, m8⟩
        have ta8 := t8.a
        obtain ⟨sdx8, stu8, hset8, _⟩ := t8.set'
        have hpi : p.fan.toNat ^ j ≤ 1000000000000000000000000000000 := hlvp j (by omega)
        have hf8 : p.fan.toNat ≤ 8 := by omega
        have hpos : 0 < p.fan.toNat ^ (j + 1) := Nat.pow_pos (by omega)
        have hps : ((p.fan.toNat ^ j : Nat) : Int) * p.fan = ((p.fan.toNat ^ (j + 1) : Nat) : Int) := by rw [Nat.pow_succ, ← hfz]; exact (Int.natCast_mul _ _).symm
        have hp1 : p.fan.toNat ^ (j + 1) ≤ 8000000000000000000000000000000 := by rw [Nat.pow_succ]; exact Nat.mul_le_mul hpi hf8
        have e1 : (S.oldest : Int) / ((p.fan.toNat ^ (j + 1) : Nat) : Int) = ((S.oldest / p.fan.toNat ^ (j + 1) : Nat) : Int) := (Int.natCast_ediv _ _).symm
        have e2 : (S2.oldest : Int) / ((p.fan.toNat ^ (j + 1) : Nat) : Int) = (((S.oldest + 1) / p.fan.toNat ^ (j + 1) : Nat) : Int) := by rw [e2o]; exact (Int.natCast_ediv _ _).symm
        walk_at "rd"
        dsimp only
        rw [hps]
        walk_at "rd"
        refine iteB (fun c => ?_) (fun c => ?_)
        · have c : V.int ((S.oldest : Int) / ((p.fan.toNat ^ (j + 1) : Nat) : Int)) ≠ V.int ((S2.oldest : Int) / ((p.fan.toNat ^ (j + 1) : Nat) : Int)) := fun z => by
            rw [decide_eq_true z] at c
            cases c
          have hq : S.oldest / p.fan.toNat ^ (j + 1) ≠ (S.oldest + 1) / p.fan.toNat ^ (j + 1) := fun z => c (by rw [e1, e2, z])
          walk_at "rd"
          refine ⟨.inl ⟨rfl, _, SqL.of c8⟩, ?_⟩
          walk_at "rd"
          intro bq n9
          generalize eG9 : upd _ bq _ = G9
          obtain ⟨g9, c9⟩ := gen_new n9 eG9
          clear eG9
          have t9 := t8.same g9
          have c89 := g9 _ _ c8
          walk_at "rd"
          refine ⟨_, _, _, rfl, rfl, c89, szlt (by unfold refsP; rw [List.length_map]; omega), ?_⟩
          have c9 : G9 bq = some (.tup [.int (j : Int), .int ((S.oldest / p.fan.toNat ^ (j + 1) : Nat) : Int)]) := by rw [← e1]; simpa using c9
          have eL : refsP L ++ [V.ref bq] = refsP (L ++ [(bq, (j : Int), ((S.oldest / p.fan.toNat ^ (j + 1) : Nat) : Int))]) := by rw [refsP_append]; rfl
          rw [eL]
          have tpD : TP G9 (L2.upd G9 D (.lst (refsP (L ++ [(bq, (j : Int), ((S.oldest / p.fan.toNat ^ (j + 1) : Nat) : Int))])))) := TP.upd c89 fun _ z => nomatch z
          have t10 := t9.out (o := .lst (refsP (L ++ [(bq, (j : Int), ((S.oldest / p.fan.toNat ^ (j + 1) : Nat) : Int))]))) noD ngD c89 fun _ z => nomatch z
          have s10 := (s8.trans (SF.same g9)).mut (o := .lst (refsP (L ++ [(bq, (j : Int), ((S.oldest / p.fan.toNat ^ (j + 1) : Nat) : Int))]))) hDn c89 fun _ z => nomatch z
          refine ⟨L ++ [(bq, (j : Int), ((S.oldest / p.fan.toNat ^ (j + 1) : Nat) : Int))], some (.int (0 + (j : Int))), rfl, t10, s10, upd_same, ?_, ?_, ?_⟩
          · intro x hx
            rcases List.mem_append.mp hx with h | h
            · exact tpD _ _ (g9 _ _ (p8 x h))
            · rw [List.mem_singleton.mp h]; exact tpD _ _ c9
          · rw [List.length_append]; simp; omega
          · rw [List.map_append, m8, List.range_succ, List.filterMap_append, List.append_assoc]
            congr 1
            congr 1
            rw [List.filterMap_cons, if_pos hq]
            rfl
        · have c : V.int ((S.oldest : Int) / ((p.fan.toNat ^ (j + 1) : Nat) : Int)) = V.int ((S2.oldest : Int) / ((p.fan.toNat ^ (j + 1) : Nat) : Int)) := by
            by_cases z : V.int ((S.oldest : Int) / ((p.fan.toNat ^ (j + 1) : Nat) : Int)) = V.int ((S2.oldest : Int) / ((p.fan.toNat ^ (j + 1) : Nat) : Int))
            · exact z
            · rw [decide_eq_false z] at c
              cases c
          have hq : S.oldest / p.fan.toNat ^ (j + 1) = (S.oldest + 1) / p.fan.toNat ^ (j + 1) := by
            injection c with c
            rw [e1, e2] at c
            omega
          walk_at "rd"
          refine ⟨L, some (.int (0 + (j : Int))), rfl, t8, s8, c8, p8, by omega, ?_⟩
          rw [m8, List.range_succ, List.filterMap_append]
          congr 1
          rw [List.filterMap_cons, if_neg (fun z => z hq)]
          simp
      · rintro σ G8 ⟨L, v6, rfl, t8, s8, c8, p8, l8, m8⟩
        have ta8 := t8.a
        walk_at "rd"
        rw [pF_top]
        obtain ⟨t9, s9⟩ := t8.w_top lv
        generalize hG9 : L2.upd _ _ _ = G9 at t9 s9 ⊢
        clear hG9
        have ta9 := t9.a
        have c9 := s9.2.1 _ _ noD c8
        have p9 := p8.tp s9.2.2.2
        have s9' := s8.trans s9
        walk_at "rd"
        refine ⟨_, L, rfl, SqL.of c9, p9, fun Lz q G10 pm pw pp nq g10 c10 => ?_⟩
        obtain ⟨ed, hed⟩ : ∃ ed, endedL p.fan.toNat S.oldest S.nodes lv = ed := ⟨_, rfl⟩
        have med : L.map (·.2) = ed := by rw [m8, ← hed]; rfl
        have m2 : Lz.map (·.2) = sortP ed := by
          refine sortP_eq ?_ pw
          rw [← med]
          exact pm.map _
        have hLn : Lz.length ≤ 30200 := by
          rw [pm.length_eq]
          omega
        have hnd : (sortP ed).Nodup := (sortP_perm ed).nodup_iff.mpr (by have := eo.nd; rw [hlv, hed] at this; exact this)
        have hsub : ∀ k ∈ sortP ed, k ∈ S.nodes.map (·.1) := fun k hk => by
          have := eo.sub
          rw [hlv, hed] at this
          exact this k ((sortP_perm ed).mem_iff.mp hk)
        have t10 := t9.same g10
        have s10 := s9'.trans (SF.same g10)
        have c910 := g10 _ _ c9
        have p910 := p9.tp g10.tp
        obtain ⟨noq, _⟩ := t9.fresh nq
        generalize hS3 : ({ S2 with top := lv } : Sx) = S3 at t10
        have e3n : S3.nodes = S.nodes := by subst hS3; exact e2n
        have hsz3 : S3.sz ≤ 30003 := by
          have : S3.sz = S2.sz := by subst hS3; rfl
          omega
        refine ⟨_, rfl, ⟨_, SqL.of c10⟩, ?_⟩
        clear hs hsz hsz1 hsz2 hn hlv0 hlv1 m5 m5' l8 pm pw hlvp m1 m8
        refine for_list (xs := refsP Lz) (fun j σ G => ∃ v3, σ = [some (.ref A.a), some (.int S.oldest), some (.int lv), v3, some (.ref D), some (.int ((p.fan.toNat ^ (lv + 1).toNat : Nat) : Int)), v6, none] ∧
          StoreAt K G A Gb p f1 p1 (((sortP ed).take j).foldl Sx.end1 S3) ∧ SF A H A G ∧ G D = some (.lst (refsP L)) ∧ PrL G L ∧ G q = some (.lst (refsP Lz)) ∧ PrL G Lz) ⟨none, rfl, t10, s10, c910, p910, c10, pp⟩ ?_ ?_ ?_
        · rintro j σ G _ ⟨v3, _, _, _, _, _, h, _⟩
          exact SqL.of h
        · rintro j x σ G hx ⟨v3, rfl, tA, sA, cA, pA, cqA, pqA⟩
          obtain ⟨e, he, rfl⟩ := refs_get hx
          have hej : (sortP ed)[j]? = some e.2 := by rw [← m2, List.getElem?_map, he]; rfl
          have etk : (sortP ed).take (j + 1) = (sortP ed).take j ++ [e.2] := by rw [List.take_succ, hej]; rfl
          have hjl : j < 30200 := by
            have := (List.getElem?_eq_some_iff.mp he).1
            omega
          have hszA : (((sortP ed).take j).foldl Sx.end1 S3).sz ≤ 90500 := by
            have h1 := sz_ends ((sortP ed).take j) S3
            have h2 : ((sortP ed).take j).length ≤ j := by rw [List.length_take]; omega
            omega
          have hgA : ∃ v, aget (((sortP ed).take j).foldl Sx.end1 S3).nodes e.2 = some v := by
            rw [aget_ends, e3n]
            · exact aget_mem (hsub _ (List.mem_of_getElem? hej))
            · intro z
              obtain ⟨i, hi, hie⟩ := List.getElem_of_mem z
              rw [List.length_take] at hi
              rw [List.getElem_take] at hie
              obtain ⟨hjb, hjv⟩ := List.getElem?_eq_some_iff.mp hej
              have := (List.getElem_inj hnd).mp (hie.trans hjv.symm)
              omega
          rw [etk, List.foldl_append]
          generalize ((sortP ed).take j).foldl Sx.end1 S3 = SA at tA hszA hgA ⊢
          have hszA' := hszA
          unfold Sx.sz at hszA'
          obtain ⟨vg, hvg⟩ := hgA
          have taA := tA.a
          have hte := pqA e (List.mem_of_getElem? he)
          walk_at "rd"
          refine ⟨.inr ⟨_, .inl tA.n⟩, ?_⟩
          walk_at "rd"
          refine ⟨_, nkK e.2, _, .int vg, tA.n, rfl, hte, by rw [val_nd, hvg]; rfl, ?_⟩
          rw [drop_nd]
          obtain ⟨t11, s11⟩ := tA.w_n (adrop SA.nodes e.2)
          generalize hG11 : L2.upd _ _ _ = G11 at t11 s11 ⊢
          clear hG11
          have ta11 := t11.a
          have hte11 := s11.2.2.2 _ _ hte
          walk_at "rd"
          intro b12 n12
          generalize eG12 : upd _ b12 _ = G12
          obtain ⟨g12, c12⟩ := gen_new n12 eG12
          clear eG12
          have t12 := t11.same g12
          have ta12 := t12.a
          have hte12 := g12 _ _ hte11
          walk_at "rd"
          refine ⟨_, _, _, _, rfl, rfl, SqT.of c12, SqT.of hte12, by simp, szl (Nat.le_of_ble_eq_true rfl), (fun z => by cases z), fun _ => ?_⟩
          intro b13 n13
          generalize eG13 : upd _ b13 _ = G13
          obtain ⟨g13, c13⟩ := gen_new n13 eG13
          clear eG13
          have t13 := t12.same g13
          have ta13 := t13.a
          walk_at "rd"
          refine use_give (r := .nd e.2.1 e.2.2) rfl t13 ⟨b13, rfl, c13⟩ (by show SA.evs.length ≤ 99999; omega) (by show SA.waiting.length ≤ 99999; omega) fun G14 t14 s14 => ?_
          have sall := ((s11.trans (SF.same g12)).trans (SF.same g13)).trans s14
          have eE : SA.end1 e.2 = ({ SA with nodes := adrop SA.nodes e.2 } : Sx).give vg (.nd e.2.1 e.2.2) := by unfold Sx.end1; rw [hvg]; rfl
          rw [← eE] at t14
          exact ⟨_, rfl, t14, sA.trans sall, sall.2.1 _ _ noD cA, pA.tp sall.2.2.2, sall.2.1 _ _ noq cqA, pqA.tp sall.2.2.2⟩
        · rintro σ G ⟨v3, rfl, tA, sA, cA, pA, cqA, pqA⟩
          have el : (sortP ed).length = (refsP Lz).length := by rw [← m2]; unfold refsP; rw [List.length_map, List.length_map]
          rw [← el, List.take_length] at tA
          have hszA : ((sortP ed).foldl Sx.end1 S3).sz ≤ 90500 := by
            have h1 := sz_ends (sortP ed) S3
            have h2 : (sortP ed).length ≤ 30200 := by rw [← m2, List.length_map]; exact hLn
            omega
          generalize hS8 : (sortP ed).foldl Sx.end1 S3 = S8 at tA hszA
          have hszA' := hszA
          unfold Sx.sz at hszA'
          have taA := tA.a
          obtain ⟨sdxA, stuA, hsetA, _⟩ := tA.set'
          walk_at "rd"
          refine use_change (k := (0, ((S.oldest / p.fan.toNat : Nat) : Int))) rfl rfl (by rw [← hfz]; exact (Int.natCast_ediv _ _).symm) tA (by omega) fun GB tB sB => ?_
          have cB := sB.2.1 _ _ noD cA
          have pB := pA.tp sB.2.2.2
          have hszB := chg_change S8 (0, ((S.oldest / p.fan.toNat : Nat) : Int))
          have hchg := chg_ends (sortP ed) S3
          rw [hS8] at hchg
          have hchg3 : S3.changed.length ≤ 30003 := by
            have h := hsz3
            unfold Sx.sz at h
            omega
          generalize hS9 : S8.change (0, ((S.oldest / p.fan.toNat : Nat) : Int)) = S9 at tB hszB
          have hed2 : ed.length ≤ 30200 := by rw [← (sortP_perm ed).length_eq, ← m2, List.length_map]; exact hLn
          walk_at "rd"
          refine for_list (xs := refsP L) (fun j σ G => ∃ v6 v7, σ = [some (.ref A.a), some (.int S.oldest), some (.int lv), v3, some (.ref D), some (.int ((p.fan.toNat ^ (lv + 1).toNat : Nat) : Int)), v6, v7] ∧
            StoreAt K G A Gb p f1 p1 ((ed.take j).foldl (fun T k => T.change (upK p.fan.toNat k)) S9) ∧ SF A H A G ∧ G D = some (.lst (refsP L)) ∧ PrL G L) ⟨v6, none, rfl, tB, sA.trans sB, cB, pB⟩ ?_ ?_ ?_
          · rintro j σ G _ ⟨v6, v7, _, _, _, h, _⟩
            exact SqL.of h
          · rintro j x σ G hx ⟨v6, v7, rfl, tC, sC, cC, pC⟩
            obtain ⟨e, he, rfl⟩ := refs_get hx
            have hej : ed[j]? = some e.2 := by rw [← med, List.getElem?_map, he]; rfl
            have etk : ed.take (j + 1) = ed.take j ++ [e.2] := by rw [List.take_succ, hej]; rfl
            have hszC : ((ed.take j).foldl (fun T k => T.change (upK p.fan.toNat k)) S9).changed.length ≤ 99999 := by
              have h1 := chg_changes p.fan.toNat (ed.take j) S9
              have h2 : (ed.take j).length ≤ ed.length := by rw [List.length_take]; omega
              omega
            rw [etk, List.foldl_append]
            generalize (ed.take j).foldl (fun T k => T.change (upK p.fan.toNat k)) S9 = SC at tC hszC ⊢
            have taC := tC.a
            obtain ⟨sdxC, stuC, hsetC, _⟩ := tC.set'
            refine ⟨_, _, rfl, SqT.of (pC e (List.mem_of_getElem? he)), rfl, ?_⟩
            walk_at "rd"
            refine use_change (k := upK p.fan.toNat e.2) rfl rfl (by unfold upK; rw [hfz]) tC hszC fun GD tD sD => ?_
            exact ⟨_, _, rfl, tD, sC.trans sD, sD.2.1 _ _ noD cC, pC.tp sD.2.2.2⟩
          · rintro σ G ⟨v6, v7, rfl, tC, sC, cC, pC⟩
            have el2 : ed.length = (refsP L).length := by rw [← med]; unfold refsP; rw [List.length_map, List.length_map]
            rw [← el2, List.take_length] at tC
            walk_at "rd"
            refine k G ?_ sC
            have ef : S.endPage p.fan.toNat = ed.foldl (fun T k => T.change (upK p.fan.toNat k)) S9 := by
              rw [← hS9, ← hS8, ← hS3, ← hS2, ← hS1, ← hed, ← hlv]
              unfold Sx.endPage
              rw [hh]
              rfl
            rw [ef]
            exact tC

theorem sz_writes : ∀ (l : List Int) (S : Sx), (l.foldl (fun T p => T.ev "write" p .no) S).sz = S.sz + l.length
  | [], S => rfl
  | k :: l, S => by rw [List.foldl_cons, sz_writes l, sz_ev, List.length_cons]; omega
theorem sz_free1 (S : Sx) (p : Int) : (S.free1 p).sz = S.sz + 2 := by
  unfold Sx.free1
  rw [sz_ev]
  unfold Sx.sz
  simp only [List.length_append, List.length_cons, List.length_nil]
  omega
theorem sz_frees : ∀ (l : List Int) (S : Sx), (l.foldl Sx.free1 S).sz = S.sz + 2 * l.length
  | [], S => rfl
  | k :: l, S => by rw [List.foldl_cons, sz_frees l, sz_free1, List.length_cons]; omega
theorem evs_writes : ∀ (l : List Int) (S : Sx), (l.foldl (fun T p => T.ev "write" p .no) S).changed = S.changed ∧ (l.foldl (fun T p => T.ev "write" p .no) S).waiting = S.waiting ∧ (l.foldl (fun T p => T.ev "write" p .no) S).log = S.log
  | [], S => ⟨rfl, rfl, rfl⟩
  | k :: l, S => evs_writes l _
theorem evs_frees : ∀ (l : List Int) (S : Sx), (l.foldl Sx.free1 S).waiting = S.waiting ∧ (l.foldl Sx.free1 S).log = S.log
  | [], S => ⟨rfl, rfl⟩
  | k :: l, S => evs_frees l _
/-- a new object in a field's place -/
theorem StoreAt.nw {K : PySem.W.Frag} {H : Hp} {A : SAd} {G : Hp} {p : Prt} {f1 p1 : Nat} {S : Sx} (t : StoreAt K H A G p f1 p1 S) {x : Addr} {A' : SAd} {S' : Sx} (hx : H x = none) (ho : A'.own.Nodup) (hown : ∀ b ∈ A'.own, b ∈ A.own ∨ b = x) (ea : A'.a = A.a) (es : A'.st = A.st) (ep : A'.pk = A.pk) {ox : HO} (nt : ∀ ys, ox ≠ .tup ys)
    {Z : HO} (hz : Z = .ins (He.ga K "Store") A'.dx (stF A' S'))
    (k : ∀ H', (∀ b o, b ≠ x → b ≠ A.a → H b = some o → H' b = some o) → H' x = some ox → H' A'.a = some Z → TP H H' → Same G H' → (∀ b ∈ A'.own, G b = none) → StoreAt K H' A' G p f1 p1 S') : StoreAt K (L2.upd (L2.upd H x ox) A.a Z) A' G p f1 p1 S' ∧ SF A H A' (L2.upd (L2.upd H x ox) A.a Z) := by
  obtain ⟨nox, ngx⟩ := t.fresh hx
  have nax : A.a ≠ x := fun z => nox (z ▸ own_a)
  have fr : ∀ b o, b ≠ x → b ≠ A.a → H b = some o → (L2.upd (L2.upd H x ox) A.a Z) b = some o := fun b o nb na h => by rw [upd_ne na, upd_ne nb]; exact h
  have tp : TP H (L2.upd (L2.upd H x ox) A.a Z) := fun b ys h => fr b _ (fun z => by rw [z, hx] at h; cases h) (fun z => by rw [z, t.a] at h; cases h) h
  refine ⟨k _ fr (by rw [upd_ne nax.symm]; exact upd_same) (by rw [ea]; exact upd_same) tp (fun b o h => ?_) (fun b hb => ?_), ea, fun b o nb h => fr b o (fun z => by rw [z, hx] at h; cases h) (fun z => nb (by rw [z]; exact own_a)) h, fun b hb => (hown b hb).imp id (fun z => by rw [z]; exact hx), tp⟩
  · exact fr b o (fun z => by rw [z, ngx] at h; cases h) (fun z => by have := t.gn A.a own_a; rw [← z, h] at this; cases this) (t.g b o h)
  · rcases hown b hb with h | h
    · exact t.gn b h
    · rw [h]; exact ngx
theorem own_c' {A : SAd} {x : Addr} (d : A.own.Nodup) (nx : x ∉ A.own) : ({ A with c := x } : SAd).own.Nodup := by
  unfold SAd.own at d nx ⊢
  simp only [List.nodup_cons, List.mem_cons, List.not_mem_nil, or_false, not_or, List.nodup_nil, and_true] at d nx ⊢
  obtain ⟨d1, d2, d3, d4, d5, d6, d7⟩ := d
  obtain ⟨x1, x2, x3, x4, x5, x6, x7, x8⟩ := nx
  have c1 : ∀ {a b : Addr}, a ≠ b → b ≠ a := fun h z => h z.symm
  refine ⟨⟨d1.1, d1.2.1, d1.2.2.1, d1.2.2.2.1, c1 x1, d1.2.2.2.2.2.1, d1.2.2.2.2.2.2⟩, ⟨d2.1, d2.2.1, d2.2.2.1, c1 x2, d2.2.2.2.2.1, d2.2.2.2.2.2⟩, ⟨d3.1, d3.2.1, c1 x3, d3.2.2.2.1, d3.2.2.2.2⟩, ⟨d4.1, c1 x4, d4.2.2.1, d4.2.2.2⟩, ⟨c1 x5, d5.2.1, d5.2.2⟩, ⟨x7, x8⟩, d7.1, not_false⟩
theorem own_w' {A : SAd} {x : Addr} (d : A.own.Nodup) (nx : x ∉ A.own) : ({ A with w := x } : SAd).own.Nodup := by
  unfold SAd.own at d nx ⊢
  simp only [List.nodup_cons, List.mem_cons, List.not_mem_nil, or_false, not_or, List.nodup_nil, and_true] at d nx ⊢
  obtain ⟨d1, d2, d3, d4, d5, d6, d7⟩ := d
  obtain ⟨x1, x2, x3, x4, x5, x6, x7, x8⟩ := nx
  have c1 : ∀ {a b : Addr}, a ≠ b → b ≠ a := fun h z => h z.symm
  refine ⟨⟨d1.1, d1.2.1, d1.2.2.1, c1 x1, d1.2.2.2.2.1, d1.2.2.2.2.2.1, d1.2.2.2.2.2.2⟩, ⟨d2.1, d2.2.1, c1 x2, d2.2.2.2.1, d2.2.2.2.2.1, d2.2.2.2.2.2⟩, ⟨d3.1, c1 x3, d3.2.2.1, d3.2.2.2.1, d3.2.2.2.2⟩, ⟨c1 x4, d4.2.1, d4.2.2.1, d4.2.2.2⟩, ⟨x6, x7, x8⟩, d6, d7.1, not_false⟩
theorem own_l' {A : SAd} {x : Addr} (d : A.own.Nodup) (nx : x ∉ A.own) : ({ A with l := x } : SAd).own.Nodup := by
  unfold SAd.own at d nx ⊢
  simp only [List.nodup_cons, List.mem_cons, List.not_mem_nil, or_false, not_or, List.nodup_nil, and_true] at d nx ⊢
  obtain ⟨d1, d2, d3, d4, d5, d6, d7⟩ := d
  obtain ⟨x1, x2, x3, x4, x5, x6, x7, x8⟩ := nx
  have c1 : ∀ {a b : Addr}, a ≠ b → b ≠ a := fun h z => h z.symm
  refine ⟨⟨d1.1, d1.2.1, c1 x1, d1.2.2.2.1, d1.2.2.2.2.1, d1.2.2.2.2.2.1, d1.2.2.2.2.2.2⟩, ⟨d2.1, c1 x2, d2.2.2.1, d2.2.2.2.1, d2.2.2.2.2.1, d2.2.2.2.2.2⟩, ⟨c1 x3, d3.2.1, d3.2.2.1, d3.2.2.2.1, d3.2.2.2.2⟩, ⟨x5, x6, x7, x8⟩, d5, d6, d7.1, not_false⟩
theorem own_e' {A : SAd} {x : Addr} (d : A.own.Nodup) (nx : x ∉ A.own) : ({ A with e := x } : SAd).own.Nodup := by
  unfold SAd.own at d nx ⊢
  simp only [List.nodup_cons, List.mem_cons, List.not_mem_nil, or_false, not_or, List.nodup_nil, and_true] at d nx ⊢
  obtain ⟨d1, d2, d3, d4, d5, d6, d7⟩ := d
  obtain ⟨x1, x2, x3, x4, x5, x6, x7, x8⟩ := nx
  have c1 : ∀ {a b : Addr}, a ≠ b → b ≠ a := fun h z => h z.symm
  refine ⟨⟨d1.1, d1.2.1, d1.2.2.1, d1.2.2.2.1, d1.2.2.2.2.1, d1.2.2.2.2.2.1, c1 x1⟩, ⟨d2.1, d2.2.1, d2.2.2.1, d2.2.2.2.1, d2.2.2.2.2.1, c1 x2⟩, ⟨d3.1, d3.2.1, d3.2.2.1, d3.2.2.2.1, c1 x3⟩, ⟨d4.1, d4.2.1, d4.2.2.1, c1 x4⟩, ⟨d5.1, d5.2.1, c1 x5⟩, ⟨d6.1, c1 x6⟩, c1 x7, not_false⟩
theorem sub_own {A : SAd} {x : Addr} : (∀ b ∈ ({ A with c := x } : SAd).own, b ∈ A.own ∨ b = x) ∧ (∀ b ∈ ({ A with w := x } : SAd).own, b ∈ A.own ∨ b = x) ∧ (∀ b ∈ ({ A with l := x } : SAd).own, b ∈ A.own ∨ b = x) ∧ (∀ b ∈ ({ A with e := x } : SAd).own, b ∈ A.own ∨ b = x) := by
  unfold SAd.own
  simp only [List.mem_cons, List.not_mem_nil, or_false]
  refine ⟨?_, ?_, ?_, ?_⟩ <;> rintro b (h | h | h | h | h | h | h | h) <;> simp [h]
section
variable {K : PySem.W.Frag} {H : Hp} {A : SAd} {G : Hp} {p : Prt} {f1 p1 : Nat} {S : Sx}
theorem StoreAt.n_c (t : StoreAt K H A G p f1 p1 S) {x : Addr} (hx : H x = none) : StoreAt K (L2.upd (L2.upd H x (.dK [])) A.a (.ins (He.ga K "Store") A.dx (stF { A with c := x } S))) { A with c := x } G p f1 p1 { S with changed := [] } ∧
    SF A H { A with c := x } (L2.upd (L2.upd H x (.dK [])) A.a (.ins (He.ga K "Store") A.dx (stF { A with c := x } S))) := by
  obtain ⟨nox, _⟩ := t.fresh hx
  have d := aps_of t.nd
  have ne : ∀ y ∈ A.own, y ≠ x := fun y hy z => nox (z ▸ hy)
  exact t.nw (ox := .dK []) (S' := { S with changed := [] }) hx (own_c' t.nd nox) (sub_own (x := x)).1 rfl rfl rfl (fun _ z => nomatch z) rfl fun H' fr h1 h2 tp g gn =>
    ⟨h2, fr _ _ (ne _ own_h) d.ah.symm t.h, fr _ _ (ne _ own_n) d.an.symm t.n, fr _ _ (ne _ own_l) d.al.symm t.l, fr _ _ (ne _ own_w) d.aw.symm t.w, h1, fr _ _ (ne _ own_f) d.af.symm t.f, let ⟨vs, e1, e2⟩ := t.e; ⟨vs, fr _ _ (ne _ own_e) d.ae.symm e1, e2.tp tp⟩, own_c' t.nd nox, g, gn, t.set, t.pk⟩
theorem StoreAt.n_w (t : StoreAt K H A G p f1 p1 S) {x : Addr} (hx : H x = none) : StoreAt K (L2.upd (L2.upd H x (.lst [])) A.a (.ins (He.ga K "Store") A.dx (stF { A with w := x } S))) { A with w := x } G p f1 p1 { S with waiting := [] } ∧
    SF A H { A with w := x } (L2.upd (L2.upd H x (.lst [])) A.a (.ins (He.ga K "Store") A.dx (stF { A with w := x } S))) := by
  obtain ⟨nox, _⟩ := t.fresh hx
  have d := aps_of t.nd
  have ne : ∀ y ∈ A.own, y ≠ x := fun y hy z => nox (z ▸ hy)
  exact t.nw (ox := .lst []) (S' := { S with waiting := [] }) hx (own_w' t.nd nox) (sub_own (x := x)).2.1 rfl rfl rfl (fun _ z => nomatch z) rfl fun H' fr h1 h2 tp g gn =>
    ⟨h2, fr _ _ (ne _ own_h) d.ah.symm t.h, fr _ _ (ne _ own_n) d.an.symm t.n, fr _ _ (ne _ own_l) d.al.symm t.l, h1, fr _ _ (ne _ own_c) d.ac.symm t.c, fr _ _ (ne _ own_f) d.af.symm t.f, let ⟨vs, e1, e2⟩ := t.e; ⟨vs, fr _ _ (ne _ own_e) d.ae.symm e1, e2.tp tp⟩, own_w' t.nd nox, g, gn, t.set, t.pk⟩
theorem StoreAt.n_l (t : StoreAt K H A G p f1 p1 S) {x : Addr} (hx : H x = none) : StoreAt K (L2.upd (L2.upd H x (.lst [])) A.a (.ins (He.ga K "Store") A.dx (stF { A with l := x } S))) { A with l := x } G p f1 p1 { S with log := [] } ∧
    SF A H { A with l := x } (L2.upd (L2.upd H x (.lst [])) A.a (.ins (He.ga K "Store") A.dx (stF { A with l := x } S))) := by
  obtain ⟨nox, _⟩ := t.fresh hx
  have d := aps_of t.nd
  have ne : ∀ y ∈ A.own, y ≠ x := fun y hy z => nox (z ▸ hy)
  exact t.nw (ox := .lst []) (S' := { S with log := [] }) hx (own_l' t.nd nox) (sub_own (x := x)).2.2.1 rfl rfl rfl (fun _ z => nomatch z) rfl fun H' fr h1 h2 tp g gn =>
    ⟨h2, fr _ _ (ne _ own_h) d.ah.symm t.h, fr _ _ (ne _ own_n) d.an.symm t.n, h1, fr _ _ (ne _ own_w) d.aw.symm t.w, fr _ _ (ne _ own_c) d.ac.symm t.c, fr _ _ (ne _ own_f) d.af.symm t.f, let ⟨vs, e1, e2⟩ := t.e; ⟨vs, fr _ _ (ne _ own_e) d.ae.symm e1, e2.tp tp⟩, own_l' t.nd nox, g, gn, t.set, t.pk⟩
theorem StoreAt.n_e (t : StoreAt K H A G p f1 p1 S) {x : Addr} (hx : H x = none) : StoreAt K (L2.upd (L2.upd H x (.lst [])) A.a (.ins (He.ga K "Store") A.dx (stF { A with e := x } S))) { A with e := x } G p f1 p1 { S with evs := [] } ∧
    SF A H { A with e := x } (L2.upd (L2.upd H x (.lst [])) A.a (.ins (He.ga K "Store") A.dx (stF { A with e := x } S))) := by
  obtain ⟨nox, _⟩ := t.fresh hx
  have d := aps_of t.nd
  have ne : ∀ y ∈ A.own, y ≠ x := fun y hy z => nox (z ▸ hy)
  exact t.nw (ox := .lst []) (S' := { S with evs := [] }) hx (own_e' t.nd nox) (sub_own (x := x)).2.2.2 rfl rfl rfl (fun _ z => nomatch z) rfl fun H' fr h1 h2 tp g gn =>
    ⟨h2, fr _ _ (ne _ own_h) d.ah.symm t.h, fr _ _ (ne _ own_n) d.an.symm t.n, fr _ _ (ne _ own_l) d.al.symm t.l, fr _ _ (ne _ own_w) d.aw.symm t.w, fr _ _ (ne _ own_c) d.ac.symm t.c, fr _ _ (ne _ own_f) d.af.symm t.f, ⟨[], h1, .nil⟩, own_e' t.nd nox, g, gn, t.set, t.pk⟩
end
@[irreducible] def sp_Core_checkpoint (K : PySem.W.Frag) : Sp := fun vs H Q _ => ∃ (A : SAd) (G : Hp) (p : Prt) (f1 p1 : Nat) (S : Sx), vs = [.ref A.a] ∧ StoreAt K H A G p f1 p1 S ∧ S.sz ≤ 20000 ∧
  ∀ H' A', StoreAt K H' A' G p f1 p1 S.checkpoint → SF A H A' H' → Q .non H'
theorem use_checkpoint {K : PySem.W.Frag} {A : SAd} {a : Addr} {G : Hp} {p : Prt} {f1 p1 : Nat} {S : Sx} {H : Hp} {Q : VK} {E : XK} (ea : a = A.a) (t : StoreAt K H A G p f1 p1 S) (hs : S.sz ≤ 20000)
  (q : ∀ H' A', StoreAt K H' A' G p f1 p1 S.checkpoint → SF A H A' H' → Q .non H') : sp_Core_checkpoint K [.ref a] H Q E := by
  subst ea; unfold sp_Core_checkpoint; exact ⟨A, G, p, f1, p1, S, rfl, t, hs, q⟩
theorem b_Core_checkpoint {K : PySem.W.Frag} {fd : FuncData} (F : F_Core_checkpoint K fd) : Binds K fd P_Core_checkpoint [] := FunD.bindsN F fun _ _ _ _ _ _ us hl => match us, hl with | [_], _ => rfl
theorem ok_Core_checkpoint (T : Txt K mg D) : FnOk P w K mg base CX0 2 (He.fAd K ("Core", some "checkpoint")) (D D_Core_checkpoint) P_Core_checkpoint (sp_Core_checkpoint K) := by
  refine T.d_Core_checkpoint.ok sc_Core_checkpoint (fun vs H Q E h => ?_) (fun cdv A outer s H vs Q E hr h => ?_)
  · unfold sp_Core_checkpoint at h
    first | (obtain ⟨rfl, _⟩ := h; rfl) | (obtain ⟨_, rfl, _⟩ := h; rfl) | (obtain ⟨_, _, rfl, _⟩ := h; rfl) | (obtain ⟨_, _, _, rfl, _⟩ := h; rfl) | (obtain ⟨_, _, _, _, rfl, _⟩ := h; rfl) | (obtain ⟨_, _, _, _, _, rfl, _⟩ := h; rfl) | (obtain ⟨_, _, _, _, _, _, rfl, _⟩ := h; rfl) | (obtain ⟨_, _, _, _, _, _, _, rfl, _⟩ := h; rfl) | (obtain ⟨_, _, _, _, _, _, _, _, rfl, _⟩ := h; rfl) | (obtain ⟨_, _, _, _, _, _, _, _, _, rfl, _⟩ := h; rfl) | (obtain ⟨_, _, _, _, _, _, _, _, _, _, rfl, _⟩ := h; rfl) | (obtain ⟨_, _, _, _, _, _, _, _, _, _, _, rfl, _⟩ := h; rfl)
  · refine ⟨_, PSs.nox (pss_cons (ps_for PassesOwn.never rfl (pi_list (pe_callB (cr_sortDI rfl) (by rfl) T.n_sorted (by decide +kernel) (pa_cons (pe_fldK (K := K) (pv 0) rfl) pa_nil))) (pg_name (i := 1) sc_Core_checkpoint.nd rfl (Or.inl rfl)) (pss_one (ps_expr (pe_meth (pv 0) T.c_Store T.m_Store_note (ok_Store_note T) (hr.mono (by decide)) (b_Store_note T.d_Store_note) .nil pass0 (pa_cons pe_str (pa_cons (pv 1) (pa_cons pe_non pa_nil)))))))
      (pss_cons (ps_fld (pv 0) pe_dnewK rfl)
      (pss_cons (ps_for PassesOwn.never rfl (pi_list (pe_op (op_catSK (K := K)) (pe_fldK (K := K) (pv 0) rfl) (pe_fldK (K := K) (pv 0) rfl))) (pg_name (i := 1) sc_Core_checkpoint.nd rfl (Or.inl rfl)) (pss_cons (ps_expr (pe_bm PySem.F.plainAttrs_list PySem.F.slot_list_append PySem.F.type_list_append mt_append (pe_fldK (K := K) (pv 0) rfl) (pa_cons (pv 1) pa_nil)))
      (pss_one (ps_expr (pe_meth (pv 0) T.c_Store T.m_Store_note (ok_Store_note T) (hr.mono (by decide)) (b_Store_note T.d_Store_note) .nil pass0 (pa_cons pe_str (pa_cons (pv 1) (pa_cons pe_non pa_nil))))))))
      (pss_cons (ps_fld (pv 0) (pe_lst pa_nil) rfl)
      (pss_one (ps_fld (pv 0) (pe_lst pa_nil) rfl)))))), ?_⟩
    unfold sp_Core_checkpoint at h
    obtain ⟨A, Gb, p, f1, p1, S, rfl, t, hs, k⟩ := h
    have ta := t.a
    have hsz := hs
    unfold Sx.sz at hsz
    walk_at "rd"
    refine ⟨_, _, S.changed, rfl, .inl t.c, keys_ch _, fun ys q G1 pm pw nq g1 c1 => ?_⟩
    rw [sortI_eq pm pw] at c1
    clear pm pw
    have hl1 : (sortI S.changed).length = S.changed.length := (sortI_perm _).length_eq
    have t1 := t.same g1
    obtain ⟨noq, _⟩ := t.fresh nq
    walk_at "rd"
    refine for_list (xs := (sortI S.changed).map V.int) (fun j σ G => ∃ v, σ = [some (.ref A.a), v] ∧ StoreAt K G A Gb p f1 p1 (((sortI S.changed).take j).foldl (fun T p => T.ev "write" p .no) S) ∧ SF A H A G ∧ G q = some (.lst ((sortI S.changed).map V.int))) ⟨none, rfl, t1, SF.same g1, c1⟩ ?_ ?_ ?_
    · rintro j σ G _ ⟨v, _, _, _, h⟩
      exact SqL.of h
    · rintro j x σ G hx ⟨v, rfl, t2, s2, c2⟩
      obtain ⟨z, hz, rfl⟩ := map_some hx
      have etk : (sortI S.changed).take (j + 1) = (sortI S.changed).take j ++ [z] := by rw [List.take_succ, hz]; rfl
      have hj := (List.getElem?_eq_some_iff.mp hz).1
      have hsz2 : (((sortI S.changed).take j).foldl (fun T p => T.ev "write" p .no) S).evs.length ≤ 99999 := by
        have h1 := sz_writes ((sortI S.changed).take j) S
        rw [List.length_take] at h1
        generalize ((sortI S.changed).take j).foldl (fun T p => T.ev "write" p .no) S = T at h1
        unfold Sx.sz at h1
        omega
      rw [etk, List.foldl_append]
      have ta2 := t2.a
      walk_at "rd"
      refine use_note (r := .no) rfl t2 rfl hsz2 fun G3 t3 s3 => ?_
      exact ⟨_, rfl, t3, s2.trans s3, s3.2.1 _ _ noq c2⟩
    · rintro σ G ⟨v, rfl, t2, s2, _⟩
      rw [List.length_map, List.take_length] at t2
      have hszT : (((sortI S.changed)).foldl (fun T p => T.ev "write" p .no) S).sz ≤ 40000 := by
        rw [sz_writes, hl1]
        unfold Sx.sz
        omega
      obtain ⟨_, ew, el⟩ := evs_writes (sortI S.changed) S
      generalize hS1 : (sortI S.changed).foldl (fun T p => T.ev "write" p .no) S = S1 at t2 hszT ew el
      have ta2 := t2.a
      walk_at "rd"
      intro q2 nq2
      have taq : (L2.upd G q2 (.dK [])) A.a = some (.ins (He.ga K "Store") A.dx (stF A S1)) := by rw [upd_ne (ne_of_none ta2 nq2)]; exact ta2
      walk_at "rd"
      rw [pF_c]
      obtain ⟨t3, s3⟩ := t2.n_c nq2
      generalize L2.upd (L2.upd _ _ _) _ _ = G3 at t3 s3 ⊢
      have s03 := s2.trans s3
      have ta3 := t3.a
      generalize hS2 : ({ S1 with changed := [] } : Sx) = S2 at t3 ta3
      have hsz2 : S2.sz ≤ 40000 := by
        subst hS2
        have h := hszT
        unfold Sx.sz at h ⊢
        simp only [List.length_nil]
        omega
      have ew2 : S2.waiting = S.waiting := by subst hS2; exact ew
      have el2 : S2.log = S.log := by subst hS2; exact el
      walk_at "rd"
      refine ⟨_, _, _, _, rfl, rfl, SqL.of t3.w, SqL.of t3.l, by rw [List.length_map, List.length_map, ew2, el2]; omega, fun q4 G4 n4 g4 c4 => ?_⟩
      rw [← List.map_append, ew2, el2] at c4
      have t4 := t3.same g4
      have s04 := s03.trans (SF.same g4)
      obtain ⟨noq4, ngq4⟩ := t3.fresh n4
      walk_at "rd"
      refine for_list (xs := (S.waiting ++ S.log).map V.int) (fun j σ G => ∃ v, σ = [some (.ref A.a), v] ∧ StoreAt K G { A with c := q2 } Gb p f1 p1 (((S.waiting ++ S.log).take j).foldl Sx.free1 S2) ∧ SF A H { A with c := q2 } G ∧ G q4 = some (.lst ((S.waiting ++ S.log).map V.int))) ⟨v, rfl, t4, s04, c4⟩ ?_ ?_ ?_
      · rintro j σ G _ ⟨v, _, _, _, h⟩
        exact SqL.of h
      · rintro j x σ G hx ⟨v, rfl, t5, s5, c5⟩
        obtain ⟨z, hz, rfl⟩ := map_some hx
        have etk : (S.waiting ++ S.log).take (j + 1) = (S.waiting ++ S.log).take j ++ [z] := by rw [List.take_succ, hz]; rfl
        have hj := (List.getElem?_eq_some_iff.mp hz).1
        rw [List.length_append] at hj
        have hsz5 : (((S.waiting ++ S.log).take j).foldl Sx.free1 S2).sz ≤ 99000 := by
          rw [sz_frees, List.length_take]
          omega
        rw [etk, List.foldl_append]
        generalize ((S.waiting ++ S.log).take j).foldl Sx.free1 S2 = S5 at t5 hsz5 ⊢
        unfold Sx.sz at hsz5
        have ta5 := t5.a
        walk_at "rd"
        refine ⟨.inl ⟨rfl, _, SqL.of t5.f⟩, ?_⟩
        walk_at "rd"
        refine ⟨_, _, _, rfl, rfl, t5.f, szlt (by rw [List.length_map]; omega), ?_⟩
        rw [map_snoc]
        obtain ⟨t6, s6⟩ := t5.w_f (S5.free ++ [z])
        generalize L2.upd _ _ _ = G6 at t6 s6 ⊢
        have ta6 := t6.a
        walk_at "rd"
        refine use_note (A := { A with c := q2 }) (r := .no) rfl t6 rfl (by show S5.evs.length ≤ 99999; omega) fun G7 t7 s7 => ?_
        exact ⟨_, rfl, t7, (s5.trans s6).trans s7, (s6.trans s7).2.1 _ _ noq4 c5⟩
      · rintro σ G ⟨v, rfl, t5, s5, _⟩
        rw [List.length_map, List.take_length] at t5
        generalize hS3 : (S.waiting ++ S.log).foldl Sx.free1 S2 = S3 at t5
        have ta5 := t5.a
        walk_at "rd"
        intro q6 nq6
        have taq6 : (L2.upd G q6 (.lst [])) A.a = some (.ins (He.ga K "Store") A.dx (stF { A with c := q2 } S3)) := by rw [upd_ne (ne_of_none ta5 nq6)]; exact ta5
        walk_at "rd"
        rw [pF_w]
        obtain ⟨t6, s6⟩ := t5.n_w nq6
        generalize L2.upd (L2.upd _ _ _) _ _ = G6 at t6 s6 ⊢
        have ta6 := t6.a
        walk_at "rd"
        intro q7 nq7
        have taq7 : (L2.upd G6 q7 (.lst [])) A.a = some (.ins (He.ga K "Store") A.dx (stF { ({ A with c := q2 } : SAd) with w := q6 } { S3 with waiting := [] })) := by rw [upd_ne (ne_of_none ta6 nq7)]; exact ta6
        walk_at "rd"
        rw [pF_l]
        obtain ⟨t7, s7⟩ := t6.n_l nq7
        generalize L2.upd (L2.upd _ _ _) _ _ = G7 at t7 s7 ⊢
        walk_at "rd"
        refine k G7 _ ?_ ((s5.trans s6).trans s7)
        have ef : S.checkpoint = { ({ S3 with waiting := [] } : Sx) with log := [] } := by
          rw [← hS3, ← hS2, ← hS1]
          rfl
        rw [ef]
        exact t7

/-- what put_row wants of a store -/
structure RowOk (p : Prt) (S : Sx) : Prop where
  sz : S.sz ≤ 14000
  hn : S.oldest + S.heap.length < 512
  lg : (S.done % p.every.toNat) % p.rec_.toNat ≠ 0 → S.log ≠ []
  hp : (S.rowH p).heap ≠ []
  bz : (S.rowR p).sz ≤ 14100
  bn : (S.rowR p).oldest + (S.rowR p).heap.length < 512
  bh : (S.rowH p).sz ≤ 14300
  en : S.done + 1 = startN p ((S.rowB p).oldest + 1) + p.keep.toNat → EndOk (S.rowB p) p.fan.toNat ∧ (S.rowB p).oldest + (S.rowB p).heap.length < 1000
  es : (S.rowE p).sz ≤ 20000
  ed : (S.rowE p).done = S.done
theorem last_atI {xs : List Int} (h : xs ≠ []) : atI (xs.map V.int) (-1) = some (.int (xs.getLastD 0)) := by
  obtain ⟨y, h1, h2⟩ := last_at h
  have e : xs = xs.dropLast ++ [xs.getLastD 0] := by
    rw [List.getLastD_eq_getLast?, List.getLast?_eq_some_getLast h]
    exact (List.dropLast_concat_getLast h).symm
  rw [e, List.map_append]
  have e2 : (xs.dropLast ++ [xs.getLastD 0]).getLastD 0 = xs.getLastD 0 := by rw [← e]
  rw [e2]
  exact atI_last _ _
theorem RowOk.log {p : Prt} {S : Sx} (r : RowOk p S) : (S.rowL p).log ≠ [] := by
  unfold Sx.rowL
  by_cases c : (S.done % p.every.toNat) % p.rec_.toNat = 0
  · rw [if_pos c]
    intro z
    have : (S.log ++ [S.takeP]).length = 0 := congrArg List.length z
    rw [List.length_append] at this
    simp at this
  · rw [if_neg c]
    exact r.lg c
theorem RowOk.szL {p : Prt} {S : Sx} (r : RowOk p S) : (S.rowL p).sz ≤ 14100 := by
  have h := r.bz
  unfold Sx.rowR at h
  rw [sz_ev] at h
  omega
theorem RowOk.szB {p : Prt} {S : Sx} (r : RowOk p S) : (S.rowB p).sz ≤ 14400 := by
  unfold Sx.rowB
  rw [sz_ev]
  have := sz_mark (S.rowH p) ((S.rowH p).heap.getLastD 0)
  have := r.bh
  omega
@[irreducible] def sp_Core_put_row (K : PySem.W.Frag) : Sp := fun vs H Q _ => ∃ (A : SAd) (G : Hp) (p : Prt) (f1 p1 : Nat) (S : Sx), vs = [.ref A.a] ∧ StoreAt K H A G p f1 p1 S ∧ p.Ok ∧ Cyc p f1 p1 ∧ RowOk p S ∧
  ∀ H' A', StoreAt K H' A' G p f1 p1 (S.putRow p) → SF A H A' H' → Q .non H'
theorem use_put_row {K : PySem.W.Frag} {A : SAd} {a : Addr} {G : Hp} {p : Prt} {f1 p1 : Nat} {S : Sx} {H : Hp} {Q : VK} {E : XK} (ea : a = A.a) (t : StoreAt K H A G p f1 p1 S) (ok : p.Ok) (cy : Cyc p f1 p1) (ro : RowOk p S)
  (q : ∀ H' A', StoreAt K H' A' G p f1 p1 (S.putRow p) → SF A H A' H' → Q .non H') : sp_Core_put_row K [.ref a] H Q E := by
  subst ea; unfold sp_Core_put_row; exact ⟨A, G, p, f1, p1, S, rfl, t, ok, cy, ro, q⟩
theorem b_Core_put_row {K : PySem.W.Frag} {fd : FuncData} (F : F_Core_put_row K fd) : Binds K fd P_Core_put_row [] := FunD.bindsN F fun _ _ _ _ _ _ us hl => match us, hl with | [_], _ => rfl
theorem ok_Core_put_row (T : Txt K mg D) : FnOk P w K mg base CX0 4 (He.fAd K ("Core", some "put_row")) (D D_Core_put_row) P_Core_put_row (sp_Core_put_row K) := by
  refine T.d_Core_put_row.ok sc_Core_put_row (fun vs H Q E h => ?_) (fun cdv A outer s H vs Q E hr h => ?_)
  · unfold sp_Core_put_row at h
    first | (obtain ⟨rfl, _⟩ := h; rfl) | (obtain ⟨_, rfl, _⟩ := h; rfl) | (obtain ⟨_, _, rfl, _⟩ := h; rfl) | (obtain ⟨_, _, _, rfl, _⟩ := h; rfl) | (obtain ⟨_, _, _, _, rfl, _⟩ := h; rfl) | (obtain ⟨_, _, _, _, _, rfl, _⟩ := h; rfl) | (obtain ⟨_, _, _, _, _, _, rfl, _⟩ := h; rfl) | (obtain ⟨_, _, _, _, _, _, _, rfl, _⟩ := h; rfl) | (obtain ⟨_, _, _, _, _, _, _, _, rfl, _⟩ := h; rfl) | (obtain ⟨_, _, _, _, _, _, _, _, _, rfl, _⟩ := h; rfl) | (obtain ⟨_, _, _, _, _, _, _, _, _, _, rfl, _⟩ := h; rfl) | (obtain ⟨_, _, _, _, _, _, _, _, _, _, _, rfl, _⟩ := h; rfl)
  · refine ⟨_, PSs.nox (pss_cons (ps_set (i := 1) sc_Core_put_row.nd rfl (Or.inl rfl) (pe_fldK (K := K) (pv 0) rfl))
      (pss_cons (ps_set (i := 2) sc_Core_put_row.nd rfl (Or.inl rfl) (pe_op op_mod (pv 1) (pe_fldK (K := K) (pe_fldK (K := K) (pv 0) rfl) rfl)))
      (Evl.pss_cut (ps_if (pt_cmpR op_eq (pe_op op_mod (pv 2) (pe_fldK (K := K) (pe_fldK (K := K) (pv 0) rfl) rfl)) pe_int (nomark _)) (pss_one (ps_expr (pe_bm PySem.F.plainAttrs_list PySem.F.slot_list_append PySem.F.type_list_append mt_append (pe_fldK (K := K) (pv 0) rfl) (pa_cons (pe_meth (pv 0) T.c_Store T.m_Store_take (ok_Core_take T) (hr.mono (by decide)) (b_Core_take T.d_Core_take) .nil pass0 (pa_cons (pe_tup (pa_cons pe_str (pa_cons (pe_op op_fdivW (pv 2) (pe_fldK (K := K) (pe_fldK (K := K) (pv 0) rfl) rfl)) pa_nil))) pa_nil)) pa_nil)))) pss_nil)
      (pss_cons (ps_expr (pe_meth (pv 0) T.c_Store T.m_Store_note (ok_Store_note T) (hr.mono (by decide)) (b_Store_note T.d_Store_note) .nil pass0 (pa_cons pe_str (pa_cons (pe_ix (ix_listK (K := K)) (pe_fldK (K := K) (pv 0) rfl) (pe_un un_neg pe_int) (fun _ _ => rfl)) (pa_cons (pv 1) pa_nil)))))
      (Evl.pss_cut (ps_if (pt_cmpR op_eq (pv 1) (pe_meth (pe_fldK (K := K) (pv 0) rfl) T.c_Packing T.m_Packing_start (ok_Packing_start T) (hr.mono (by decide)) (b_Packing_start T.d_Packing_start) .nil pass0 (pa_cons (pe_op op_add (pe_meth0 (pv 0) T.c_Store T.m_Store_newest (ok_Core_newest T) (hr.mono (by decide)) (b_Core_newest T.d_Core_newest) .nil pass0) pe_int) pa_nil)) (nomark _)) (pss_one (ps_expr (pe_meth0 (pv 0) T.c_Store T.m_Store_begin_page (ok_Core_begin_page T) (hr.mono (by decide)) (b_Core_begin_page T.d_Core_begin_page) .nil pass0))) pss_nil)
      (pss_cons (ps_dput (hu_of hr) (pe_fldK (K := K) (pv 0) rfl) (pe_ix (ix_listK (K := K)) (pe_fldK (K := K) (pv 0) rfl) (pe_un un_neg pe_int) (fun _ _ => rfl)) pe_bl rfl)
      (pss_cons (ps_expr (pe_meth (pv 0) T.c_Store T.m_Store_note (ok_Store_note T) (hr.mono (by decide)) (b_Store_note T.d_Store_note) .nil pass0 (pa_cons pe_str (pa_cons (pe_ix (ix_listK (K := K)) (pe_fldK (K := K) (pv 0) rfl) (pe_un un_neg pe_int) (fun _ _ => rfl)) (pa_cons (pv 1) pa_nil)))))
      (Evl.pss_cut (ps_if (pt_cmpR op_eq (pe_op op_add (pe_op op_sub (pv 1) (pe_fldK (K := K) (pe_fldK (K := K) (pv 0) rfl) rfl)) pe_int) (pe_meth (pe_fldK (K := K) (pv 0) rfl) T.c_Packing T.m_Packing_start (ok_Packing_start T) (hr.mono (by decide)) (b_Packing_start T.d_Packing_start) .nil pass0 (pa_cons (pe_op op_add (pe_fldK (K := K) (pv 0) rfl) pe_int) pa_nil)) (nomark _)) (pss_one (ps_expr (pe_meth0 (pv 0) T.c_Store T.m_Store_end_page (ok_Core_end_page T) (hr.mono (by decide)) (b_Core_end_page T.d_Core_end_page) .nil pass0))) pss_nil)
      (pss_cons (ps_fldaug (pv 0) pe_int in_add)
      (pss_one (ps_if (pt_cmpR op_eq (pe_op op_mod (pe_fldK (K := K) (pv 0) rfl) (pe_fldK (K := K) (pe_fldK (K := K) (pv 0) rfl) rfl)) pe_int (nomark _)) (pss_one (ps_expr (pe_meth0 (pv 0) T.c_Store T.m_Store_checkpoint (ok_Core_checkpoint T) (hr.mono (by decide)) (b_Core_checkpoint T.d_Core_checkpoint) .nil pass0))) pss_nil))))))))))), ?_⟩
    unfold sp_Core_put_row at h
    obtain ⟨A, Gb, p, f1, p1, S, rfl, t, ok, cy, ro, k⟩ := h
    have ta := t.a
    have hsz := ro.sz
    unfold Sx.sz at hsz
    obtain ⟨sdx, stu, hset, _⟩ := t.set'
    have e0 := ok.e
    have r0 := ok.r
    have k0 := ok.k
    have ee : ((p.every.toNat : Nat) : Int) = p.every := by omega
    have er : ((p.rec_.toNat : Nat) : Int) = p.rec_ := by omega
    have ek : ((p.keep.toNat : Nat) : Int) = p.keep := by omega
    have em : (S.done : Int) % p.every = ((S.done % p.every.toNat : Nat) : Int) := by rw [← ee]; exact (Int.natCast_emod _ _).symm
    have em2 : (S.done : Int) % p.every % p.rec_ = ((S.done % p.every.toNat % p.rec_.toNat : Nat) : Int) := by rw [em, ← er]; exact (Int.natCast_emod _ _).symm
    have em3 : (S.done : Int) % p.every / p.rec_ = ((S.done % p.every.toNat / p.rec_.toNat : Nat) : Int) := by rw [em, ← er]; exact (Int.natCast_ediv _ _).symm
    walk_at "rd"
    refine ⟨fun σ' H' => σ' = [some (.ref A.a), some (.int S.done), some (.int ((S.done : Int) % p.every))] ∧ StoreAt K H' A Gb p f1 p1 (S.rowL p) ∧ SF A H A H', ?_, ?_⟩
    · walk_at "rd"
      refine iteB (fun c => ?_) (fun c => ?_)
      · have hc : (S.done % p.every.toNat) % p.rec_.toNat = 0 := by
          have c := of_decide_eq_true c
          injection c with c
          rw [em2] at c
          omega
        walk_at "rd"
        refine ⟨.inl ⟨rfl, _, SqL.of t.l⟩, ?_⟩
        walk_at "rd"
        intro b1 n1
        generalize eG1 : upd _ b1 _ = G1
        obtain ⟨g1, c1⟩ := gen_new n1 eG1
        clear eG1
        have t1 := t.same g1
        have c1' : G1 b1 = some (.tup [.str "log", .int ((S.done % p.every.toNat / p.rec_.toNat : Nat) : Int)]) := by rw [← em3]; exact c1
        walk_at "rd"
        refine use_take (r := .lg ((S.done % p.every.toNat / p.rec_.toNat : Nat) : Int)) rfl t1 ⟨b1, rfl, c1'⟩ (by omega) fun G2 t2 s2 => ?_
        have ta2 := t2.a
        have el2 : (S.takeS (.lg ((S.done % p.every.toNat / p.rec_.toNat : Nat) : Int))).log = S.log := by unfold Sx.takeS Sx.taking Sx.ev; split <;> rfl
        have tl2 := t2.l
        rw [el2] at tl2
        walk_at "rd"
        refine ⟨_, _, _, rfl, rfl, tl2, szlt (by rw [List.length_map]; omega), ?_⟩
        rw [map_snoc]
        obtain ⟨t3, s3⟩ := t2.w_l (S.log ++ [S.takeP])
        generalize hG3 : L2.upd _ _ _ = G3 at t3 s3 ⊢
        clear hG3
        have ta3 := t3.a
        have e : S.rowL p = { S.takeS (.lg ((S.done % p.every.toNat / p.rec_.toNat : Nat) : Int)) with log := S.log ++ [S.takeP] } := by unfold Sx.rowL; rw [if_pos hc]
        rw [← e] at t3
        exact ⟨rfl, t3, ((SF.same g1).trans s2).trans s3⟩
      · have hc : ¬ (S.done % p.every.toNat) % p.rec_.toNat = 0 := fun z => by
          have c := of_decide_eq_false c
          refine c (congrArg V.int ?_)
          show (S.done : Int) % p.every % p.rec_ = 0
          rw [em2, z]
          rfl
        have e : S.rowL p = S := by unfold Sx.rowL; rw [if_neg hc]
        rw [e]
        exact ⟨rfl, t, SF.refl⟩
    rintro σ' G1 ⟨rfl, t1, s1⟩
    have ta1 := t1.a
    have hl1 := ro.log
    have hz1 := ro.szL
    generalize hSL : S.rowL p = SL at t1 ta1 hl1 hz1
    have hz1' := hz1
    unfold Sx.sz at hz1'
    walk_at "rd"
    refine ⟨_, _, _, _, rfl, rfl, SqL.of t1.l, last_atI hl1, ?_⟩
    walk_at "rd"
    refine use_note (r := .row S.done) rfl t1 rfl (by omega) fun G2 t2 s2 => ?_
    have eR : SL.ev "record" (SL.log.getLastD 0) (.row S.done) = S.rowR p := by rw [← hSL]; rfl
    rw [eR] at t2
    have s12 := s1.trans s2
    have bz := ro.bz
    have bn := ro.bn
    walk_at "rd"
    refine ⟨fun σ' H' => σ' = [some (.ref A.a), some (.int S.done), some (.int ((S.done : Int) % p.every))] ∧ StoreAt K H' A Gb p f1 p1 (S.rowH p) ∧ SF A H A H', ?_, ?_⟩
    · have ta2 := t2.a
      obtain ⟨kdx2, kt2, kl2, hpk2, _⟩ := t2.pk'
      walk_at "rd"
      refine use_newest rfl t2 ?_
      walk_at "rd"
      refine use_start (n := (S.rowR p).oldest + (S.rowR p).heap.length) (by omega) t2.pk' ok cy fun G3 g3 => ?_
      have t3 := t2.same g3
      have ta3 := t3.a
      walk_at "rd"
      refine iteB (fun c => ?_) (fun c => ?_)
      · have hc : S.done = startN p ((S.rowR p).oldest + (S.rowR p).heap.length) := by
          have c := of_decide_eq_true c
          injection c with c
          omega
        walk_at "rd"
        refine use_begin_page rfl t3 ok (by omega) (by omega) fun G4 t4 s4 => ?_
        have e : S.rowH p = (S.rowR p).beginPage p.fan.toNat := by unfold Sx.rowH; rw [if_pos hc]
        rw [e]
        exact ⟨rfl, t4, (s12.trans (SF.same g3)).trans s4⟩
      · have hc : ¬ S.done = startN p ((S.rowR p).oldest + (S.rowR p).heap.length) := fun z => by
          have c := of_decide_eq_false c
          refine c ?_
          rw [← z]
        have e : S.rowH p = S.rowR p := by unfold Sx.rowH; rw [if_neg hc]
        rw [e]
        exact ⟨rfl, t3, s12.trans (SF.same g3)⟩
    rintro σ' G5 ⟨rfl, t5, s5⟩
    have ta5 := t5.a
    have bh := ro.bh
    have hph := ro.hp
    generalize hSH : S.rowH p = SH at t5 ta5 bh hph
    have bh' := bh
    unfold Sx.sz at bh'
    walk_at "rd"
    refine ⟨_, _, _, _, rfl, rfl, SqL.of t5.h, last_atI hph, ?_⟩
    walk_at "rd"
    have tc5 := t5.c
    refine ⟨_, _, rfl, DPut.k (k := Sum.inl (SH.heap.getLastD 0)) tc5 (szlt (by rw [List.length_map]; omega)), ?_⟩
    rw [put_ch]
    obtain ⟨t6, s6⟩ := t5.w_c (cput SH.changed (SH.heap.getLastD 0))
    generalize hG6 : L2.upd _ _ _ = G6 at t6 s6 ⊢
    clear hG6
    have ta6 := t6.a
    walk_at "rd"
    refine ⟨_, _, _, _, rfl, rfl, SqL.of t6.h, last_atI hph, ?_⟩
    walk_at "rd"
    refine use_note (r := .row S.done) rfl t6 rfl (by show SH.evs.length ≤ 99999; omega) fun G7 t7 s7 => ?_
    have eB : Sx.ev { SH with changed := cput SH.changed (SH.heap.getLastD 0) } "put" (SH.heap.getLastD 0) (.row S.done) = S.rowB p := by rw [← hSH]; rfl
    have t7 : StoreAt K G7 A Gb p f1 p1 (S.rowB p) := by rw [← eB]; exact t7
    have s07 := (s5.trans s6).trans s7
    have hzB := ro.szB
    walk_at "rd"
    refine ⟨fun σ' H' => σ' = [some (.ref A.a), some (.int S.done), some (.int ((S.done : Int) % p.every))] ∧ StoreAt K H' A Gb p f1 p1 (S.rowE p) ∧ SF A H A H', ?_, ?_⟩
    · have ta7 := t7.a
      obtain ⟨sdx7, stu7, hset7, _⟩ := t7.set'
      obtain ⟨kdx7, kt7, kl7, hpk7, _⟩ := t7.pk'
      walk_at "rd"
      refine use_start (n := (S.rowB p).oldest + 1) rfl t7.pk' ok cy fun G8 g8 => ?_
      have t8 := t7.same g8
      have ta8 := t8.a
      walk_at "rd"
      refine iteB (fun c => ?_) (fun c => ?_)
      · have hc : S.done + 1 = startN p ((S.rowB p).oldest + 1) + p.keep.toNat := by
          have c := of_decide_eq_true c
          injection c with c
          omega
        obtain ⟨eo, el⟩ := ro.en hc
        walk_at "rd"
        refine use_end_page rfl t8 ok (by omega) (by omega) eo fun G9 t9 s9 => ?_
        have e : S.rowE p = (S.rowB p).endPage p.fan.toNat := by unfold Sx.rowE; rw [if_pos hc]
        rw [e]
        exact ⟨rfl, t9, (s07.trans (SF.same g8)).trans s9⟩
      · have hc : ¬ S.done + 1 = startN p ((S.rowB p).oldest + 1) + p.keep.toNat := fun z => by
          have c := of_decide_eq_false c
          refine c (congrArg V.int ?_)
          omega
        have e : S.rowE p = S.rowB p := by unfold Sx.rowE; rw [if_neg hc]
        rw [e]
        exact ⟨rfl, t8, s07.trans (SF.same g8)⟩
    rintro σ' G10 ⟨rfl, t10, s10⟩
    have ta10 := t10.a
    have ed := ro.ed
    have es := ro.es
    generalize hSE : S.rowE p = SE at t10 ta10 ed es
    walk_at "rd"
    refine ⟨_, _, ta10, lenS, ?_⟩
    rw [pF_done]
    obtain ⟨t11, s11⟩ := t10.w_done
    generalize hG11 : L2.upd _ _ _ = G11 at t11 s11 ⊢
    clear hG11
    have ta11 := t11.a
    obtain ⟨sdx11, stu11, hset11, _⟩ := t11.set'
    have s011 := s10.trans s11
    have e11 : ({ SE with done := SE.done + 1 } : Sx) = { SE with done := S.done + 1 } := by rw [ed]
    have em11 : ((SE.done + 1 : Nat) : Int) % p.every = (((S.done + 1) % p.every.toNat : Nat) : Int) := by rw [ed, ← ee]; exact (Int.natCast_emod _ _).symm
    walk_at "rd"
    refine iteB (fun c => ?_) (fun c => ?_)
    · have hc : (S.done + 1) % p.every.toNat = 0 := by
        have c := of_decide_eq_true c
        injection c with c
        have c : ((SE.done + 1 : Nat) : Int) % p.every = 0 := c
        rw [em11] at c
        omega
      walk_at "rd"
      refine use_checkpoint rfl t11 (by exact es) fun G12 A' t12 s12 => ?_
      refine k G12 A' ?_ (s011.trans s12)
      have e : S.putRow p = ({ SE with done := SE.done + 1 } : Sx).checkpoint := by unfold Sx.putRow; rw [if_pos hc, hSE, e11]
      rw [e]
      exact t12
    · have hc : ¬ (S.done + 1) % p.every.toNat = 0 := fun z => by
        have c := of_decide_eq_false c
        refine c (congrArg V.int ?_)
        show ((SE.done + 1 : Nat) : Int) % p.every = 0
        rw [em11, z]
        rfl
      have e : S.putRow p = { SE with done := SE.done + 1 } := by unfold Sx.putRow; rw [if_neg hc, hSE, e11]
      refine k G11 A ?_ s011
      rw [e]
      exact t11

@[irreducible] def sp_Book_moment (K : PySem.W.Frag) : Sp := fun vs H Q _ => ∃ (A : SAd) (G : Hp) (p : Prt) (f1 p1 : Nat) (S : Sx), vs = [.ref A.a] ∧ StoreAt K H A G p f1 p1 S ∧ Q (.int S.done) H
theorem use_moment {K : PySem.W.Frag} {A : SAd} {a : Addr} {G : Hp} {p : Prt} {f1 p1 : Nat} {S : Sx} {H : Hp} {Q : VK} {E : XK} (ea : a = A.a) (t : StoreAt K H A G p f1 p1 S) (q : Q (.int S.done) H) : sp_Book_moment K [.ref a] H Q E := by
  subst ea; unfold sp_Book_moment; exact ⟨A, G, p, f1, p1, S, rfl, t, q⟩
theorem inst_Book_moment {K : PySem.W.Frag} : ∀ vs H Q E, sp_Book_moment K vs H Q E → ∃ x dx fs, vs = [.ref x] ∧ H x = some (.ins (He.ga K "Store") dx fs) := by
  intro vs H Q E h
  unfold sp_Book_moment at h
  obtain ⟨A, G, p, f1, p1, S, rfl, t, _⟩ := h
  exact ⟨_, _, _, rfl, t.a⟩
theorem b_Book_moment {K : PySem.W.Frag} {fd : FuncData} (F : F_Book_moment K fd) : Binds K fd P_Book_moment [] := FunD.bindsN F fun _ _ _ _ _ _ us hl => match us, hl with | [_], _ => rfl
theorem ok_Book_moment (T : Txt K mg D) : FnOk P w K mg base CX0 1 (He.fAd K ("Book", some "moment")) (D D_Book_moment) P_Book_moment (sp_Book_moment K) := by
  refine T.d_Book_moment.ok sc_Book_moment (fun vs H Q E h => ?_) (fun cdv A outer s H vs Q E hr h => ?_)
  · unfold sp_Book_moment at h
    first | (obtain ⟨rfl, _⟩ := h; rfl) | (obtain ⟨_, rfl, _⟩ := h; rfl) | (obtain ⟨_, _, rfl, _⟩ := h; rfl) | (obtain ⟨_, _, _, rfl, _⟩ := h; rfl) | (obtain ⟨_, _, _, _, rfl, _⟩ := h; rfl) | (obtain ⟨_, _, _, _, _, rfl, _⟩ := h; rfl) | (obtain ⟨_, _, _, _, _, _, rfl, _⟩ := h; rfl) | (obtain ⟨_, _, _, _, _, _, _, rfl, _⟩ := h; rfl) | (obtain ⟨_, _, _, _, _, _, _, _, rfl, _⟩ := h; rfl) | (obtain ⟨_, _, _, _, _, _, _, _, _, rfl, _⟩ := h; rfl) | (obtain ⟨_, _, _, _, _, _, _, _, _, _, rfl, _⟩ := h; rfl) | (obtain ⟨_, _, _, _, _, _, _, _, _, _, _, rfl, _⟩ := h; rfl)
  · refine ⟨_, PSs.nox (pss_one (ps_ret (pe_fldK (K := K) (pv 0) rfl))), ?_⟩
    unfold sp_Book_moment at h
    obtain ⟨A, Gb, p, f1, p1, S, rfl, t, k⟩ := h
    have ta := t.a
    walk_at "rd"
    exact k
theorem b_Store_moment {K : PySem.W.Frag} {fd : FuncData} (S : SupT_Store_moment K fd) : L2.Binds K fd P_Store_moment [] := by
  obtain ⟨_, _, _, _, _, _, _, _, _, _, rfl, _⟩ := S.ex
  exact Binds.all fun us hl => match us, hl with | [_], _ => rfl
theorem ok_Store_moment (T : Txt K mg D) : FnOk P w K mg base CX0 2 (He.fAd K ("Store", some "moment")) T.su_Store_moment.choose P_Store_moment (sp_Book_moment K) := by
  exact super_ok0 T.su_Store_moment.choose_spec (ok_Book_moment T) (b_Book_moment T.d_Book_moment) (inst_Book_moment) (fun _ _ _ _ _ _ _ _ => pass0) rfl rfl rfl rfl rfl rfl rfl rfl rfl (hfree_of (by decide +kernel)) (by decide +kernel) (by kernel_rfl) (by kernel_rfl) (fun _ _ _ _ => rfl)

@[irreducible] def sp_Book_log_pages (K : PySem.W.Frag) : Sp := fun vs H Q _ => ∃ (A : SAd) (G : Hp) (p : Prt) (f1 p1 : Nat) (S : Sx), vs = [.ref A.a] ∧ StoreAt K H A G p f1 p1 S ∧ S.sz ≤ 40000 ∧ ∀ q H', H q = none → Same H H' → H' q = some (.lst (S.log.map V.int)) → Q (.ref q) H'
theorem use_log_pages {K : PySem.W.Frag} {A : SAd} {a : Addr} {G : Hp} {p : Prt} {f1 p1 : Nat} {S : Sx} {H : Hp} {Q : VK} {E : XK} (ea : a = A.a) (t : StoreAt K H A G p f1 p1 S) (hs : S.sz ≤ 40000) (q : ∀ q H', H q = none → Same H H' → H' q = some (.lst (S.log.map V.int)) → Q (.ref q) H') : sp_Book_log_pages K [.ref a] H Q E := by
  subst ea; unfold sp_Book_log_pages; exact ⟨A, G, p, f1, p1, S, rfl, t, hs, q⟩
theorem inst_Book_log_pages {K : PySem.W.Frag} : ∀ vs H Q E, sp_Book_log_pages K vs H Q E → ∃ x dx fs, vs = [.ref x] ∧ H x = some (.ins (He.ga K "Store") dx fs) := by
  intro vs H Q E h
  unfold sp_Book_log_pages at h
  obtain ⟨A, G, p, f1, p1, S, rfl, t, _⟩ := h
  exact ⟨_, _, _, rfl, t.a⟩
@[irreducible] def sp_Book_waiting_pages (K : PySem.W.Frag) : Sp := fun vs H Q _ => ∃ (A : SAd) (G : Hp) (p : Prt) (f1 p1 : Nat) (S : Sx), vs = [.ref A.a] ∧ StoreAt K H A G p f1 p1 S ∧ S.sz ≤ 40000 ∧ ∀ q H', H q = none → Same H H' → H' q = some (.lst (S.waiting.map V.int)) → Q (.ref q) H'
theorem use_waiting_pages {K : PySem.W.Frag} {A : SAd} {a : Addr} {G : Hp} {p : Prt} {f1 p1 : Nat} {S : Sx} {H : Hp} {Q : VK} {E : XK} (ea : a = A.a) (t : StoreAt K H A G p f1 p1 S) (hs : S.sz ≤ 40000) (q : ∀ q H', H q = none → Same H H' → H' q = some (.lst (S.waiting.map V.int)) → Q (.ref q) H') : sp_Book_waiting_pages K [.ref a] H Q E := by
  subst ea; unfold sp_Book_waiting_pages; exact ⟨A, G, p, f1, p1, S, rfl, t, hs, q⟩
theorem inst_Book_waiting_pages {K : PySem.W.Frag} : ∀ vs H Q E, sp_Book_waiting_pages K vs H Q E → ∃ x dx fs, vs = [.ref x] ∧ H x = some (.ins (He.ga K "Store") dx fs) := by
  intro vs H Q E h
  unfold sp_Book_waiting_pages at h
  obtain ⟨A, G, p, f1, p1, S, rfl, t, _⟩ := h
  exact ⟨_, _, _, rfl, t.a⟩
theorem op_catTK {X : Cx} {K : PySem.W.Frag} (hK : X.K = K := by rfl) : OpR X (binaryOp .Add) (rCatT K) := hK ▸ op_catT
def Sx.hpL (S : Sx) : List (Int × Int) := S.heap.mapIdx fun i x => (((S.oldest + i : Nat) : Int), x)
@[irreducible] def sp_Book_heap_pages (K : PySem.W.Frag) : Sp := fun vs H Q _ => ∃ (A : SAd) (G : Hp) (p : Prt) (f1 p1 : Nat) (S : Sx), vs = [.ref A.a] ∧ StoreAt K H A G p f1 p1 S ∧ S.sz ≤ 40000 ∧ ∀ q H' M, H q = none → Same H H' → H' q = some (.lst (refsP M)) → PrL H' M → M.map (·.2) = S.hpL → Q (.ref q) H'
theorem use_heap_pages {K : PySem.W.Frag} {A : SAd} {a : Addr} {G : Hp} {p : Prt} {f1 p1 : Nat} {S : Sx} {H : Hp} {Q : VK} {E : XK} (ea : a = A.a) (t : StoreAt K H A G p f1 p1 S) (hs : S.sz ≤ 40000)
  (q : ∀ q H' M, H q = none → Same H H' → H' q = some (.lst (refsP M)) → PrL H' M → M.map (·.2) = S.hpL → Q (.ref q) H') : sp_Book_heap_pages K [.ref a] H Q E := by
  subst ea; unfold sp_Book_heap_pages; exact ⟨A, G, p, f1, p1, S, rfl, t, hs, q⟩
theorem inst_Book_heap_pages {K : PySem.W.Frag} : ∀ vs H Q E, sp_Book_heap_pages K vs H Q E → ∃ x dx fs, vs = [.ref x] ∧ H x = some (.ins (He.ga K "Store") dx fs) := by
  intro vs H Q E h
  unfold sp_Book_heap_pages at h
  obtain ⟨A, G, p, f1, p1, S, rfl, t, _⟩ := h
  exact ⟨_, _, _, rfl, t.a⟩
def Sx.sks (S : Sx) : List NK := sortP (S.nodes.map (·.1))
def Sx.ndP (S : Sx) (k : NK) : Int := (aget S.nodes k).getD 0
/-- triples -/
def TrL (H : Hp) (M : List (Addr × NK × Int)) : Prop := ∀ e ∈ M, H e.1 = some (.tup [.int e.2.1.1, .int e.2.1.2, .int e.2.2])
def refsT (M : List (Addr × NK × Int)) : List V := M.map fun e => V.ref e.1
@[irreducible] def sp_Book_node_pages (K : PySem.W.Frag) : Sp := fun vs H Q _ => ∃ (A : SAd) (G : Hp) (p : Prt) (f1 p1 : Nat) (S : Sx), vs = [.ref A.a] ∧ StoreAt K H A G p f1 p1 S ∧ S.sz ≤ 40000 ∧ (S.nodes.map (·.1)).Nodup ∧ ∀ q H' M, H q = none → Same H H' → H' q = some (.lst (refsT M)) → TrL H' M → M.map (·.2) = S.sks.map (fun k => (k, S.ndP k)) → Q (.ref q) H'
theorem use_node_pages {K : PySem.W.Frag} {A : SAd} {a : Addr} {G : Hp} {p : Prt} {f1 p1 : Nat} {S : Sx} {H : Hp} {Q : VK} {E : XK} (ea : a = A.a) (t : StoreAt K H A G p f1 p1 S) (hs : S.sz ≤ 40000) (hn : (S.nodes.map (·.1)).Nodup)
  (q : ∀ q H' M, H q = none → Same H H' → H' q = some (.lst (refsT M)) → TrL H' M → M.map (·.2) = S.sks.map (fun k => (k, S.ndP k)) → Q (.ref q) H') : sp_Book_node_pages K [.ref a] H Q E := by
  subst ea; unfold sp_Book_node_pages; exact ⟨A, G, p, f1, p1, S, rfl, t, hs, hn, q⟩
theorem inst_Book_node_pages {K : PySem.W.Frag} : ∀ vs H Q E, sp_Book_node_pages K vs H Q E → ∃ x dx fs, vs = [.ref x] ∧ H x = some (.ins (He.ga K "Store") dx fs) := by
  intro vs H Q E h
  unfold sp_Book_node_pages at h
  obtain ⟨A, G, p, f1, p1, S, rfl, t, _⟩ := h
  exact ⟨_, _, _, rfl, t.a⟩
def Sx.usesL (S : Sx) : List Int := ((S.heap ++ S.sks.map S.ndP) ++ S.log) ++ S.waiting
@[irreducible] def sp_uses (K : PySem.W.Frag) : Sp := fun vs H Q _ => ∃ (A : SAd) (G : Hp) (p : Prt) (f1 p1 : Nat) (S : Sx), vs = [.ref A.a] ∧ StoreAt K H A G p f1 p1 S ∧ S.sz ≤ 40000 ∧ (S.nodes.map (·.1)).Nodup ∧ ∀ q H', H q = none → Same H H' → H' q = some (.lst (S.usesL.map V.int)) → Q (.ref q) H'
theorem use_uses {K : PySem.W.Frag} {A : SAd} {a : Addr} {G : Hp} {p : Prt} {f1 p1 : Nat} {S : Sx} {H : Hp} {Q : VK} {E : XK} (ea : a = A.a) (t : StoreAt K H A G p f1 p1 S) (hs : S.sz ≤ 40000) (hn : (S.nodes.map (·.1)).Nodup)
  (q : ∀ q H', H q = none → Same H H' → H' q = some (.lst (S.usesL.map V.int)) → Q (.ref q) H') : sp_uses K [.ref a] H Q E := by
  subst ea; unfold sp_uses; exact ⟨A, G, p, f1, p1, S, rfl, t, hs, hn, q⟩
@[irreducible] def sp_Store_step (K : PySem.W.Frag) : Sp := fun vs H Q _ => ∃ (A : SAd) (G : Hp) (p : Prt) (f1 p1 : Nat) (S : Sx), vs = [.ref A.a] ∧ StoreAt K H A G p f1 p1 S ∧ p.Ok ∧ Cyc p f1 p1 ∧ RowOk p { S with evs := [] } ∧ (S.step p).evs.length ≤ 40000 ∧
  ∀ H' A' q vs, StoreAt K H' A' G p f1 p1 (S.step p) → SF A H A' H' → H' q = some (.lst vs) → EvsAt H' vs (S.step p).evs → q ∉ A'.own → Q (.ref q) H'
theorem use_step {K : PySem.W.Frag} {A : SAd} {a : Addr} {G : Hp} {p : Prt} {f1 p1 : Nat} {S : Sx} {H : Hp} {Q : VK} {E : XK} (ea : a = A.a) (t : StoreAt K H A G p f1 p1 S) (ok : p.Ok) (cy : Cyc p f1 p1) (ro : RowOk p { S with evs := [] }) (he : (S.step p).evs.length ≤ 40000)
  (q : ∀ H' A' q vs, StoreAt K H' A' G p f1 p1 (S.step p) → SF A H A' H' → H' q = some (.lst vs) → EvsAt H' vs (S.step p).evs → q ∉ A'.own → Q (.ref q) H') : sp_Store_step K [.ref a] H Q E := by
  subst ea; unfold sp_Store_step; exact ⟨A, G, p, f1, p1, S, rfl, t, ok, cy, ro, he, q⟩
theorem b_Store_step {K : PySem.W.Frag} {fd : FuncData} (F : F_Store_step K fd) : Binds K fd P_Store_step [] := FunD.bindsN F fun _ _ _ _ _ _ us hl => match us, hl with | [_], _ => rfl
theorem ok_Store_step (T : Txt K mg D) : FnOk P w K mg base CX0 5 (He.fAd K ("Store", some "step")) (D D_Store_step) P_Store_step (sp_Store_step K) := by
  refine T.d_Store_step.ok sc_Store_step (fun vs H Q E h => ?_) (fun cdv A outer s H vs Q E hr h => ?_)
  · unfold sp_Store_step at h
    first | (obtain ⟨rfl, _⟩ := h; rfl) | (obtain ⟨_, rfl, _⟩ := h; rfl) | (obtain ⟨_, _, rfl, _⟩ := h; rfl) | (obtain ⟨_, _, _, rfl, _⟩ := h; rfl) | (obtain ⟨_, _, _, _, rfl, _⟩ := h; rfl) | (obtain ⟨_, _, _, _, _, rfl, _⟩ := h; rfl) | (obtain ⟨_, _, _, _, _, _, rfl, _⟩ := h; rfl) | (obtain ⟨_, _, _, _, _, _, _, rfl, _⟩ := h; rfl) | (obtain ⟨_, _, _, _, _, _, _, _, rfl, _⟩ := h; rfl) | (obtain ⟨_, _, _, _, _, _, _, _, _, rfl, _⟩ := h; rfl) | (obtain ⟨_, _, _, _, _, _, _, _, _, _, rfl, _⟩ := h; rfl) | (obtain ⟨_, _, _, _, _, _, _, _, _, _, _, rfl, _⟩ := h; rfl)
  · refine ⟨_, PSs.nox (pss_cons (ps_fld (pv 0) (pe_lst pa_nil) rfl)
      (pss_cons (ps_expr (pe_meth0 (pv 0) T.c_Store T.m_Store_put_row (ok_Core_put_row T) (hr.mono (by decide)) (b_Core_put_row T.d_Core_put_row) .nil pass0))
      (pss_one (ps_ret (pe_callTy (call_listK (K := K)) (by rfl) T.n_list (by decide +kernel) (pa_cons (pe_fldK (K := K) (pv 0) rfl) pa_nil)))))), ?_⟩
    unfold sp_Store_step at h
    obtain ⟨A, Gb, p, f1, p1, S, rfl, t, ok, cy, ro, he, k⟩ := h
    have ta := t.a
    walk_at "rd"
    intro q1 nq1
    have taq1 : (L2.upd H q1 (.lst [])) A.a = some (.ins (He.ga K "Store") A.dx (stF A S)) := by rw [upd_ne (ne_of_none ta nq1)]; exact ta
    walk_at "rd"
    rw [pF_e]
    obtain ⟨t1, s1⟩ := t.n_e nq1
    generalize L2.upd (L2.upd _ _ _) _ _ = G1 at t1 s1 ⊢
    have ta1 := t1.a
    walk_at "rd"
    refine use_put_row (A := { A with e := q1 }) rfl t1 ok cy ro fun G2 A2 t2 s2 => ?_
    have ta2 := t2.a
    have ea2 : A2.a = A.a := s2.1
    rw [ea2] at ta2
    obtain ⟨vs, te2, tv2⟩ := t2.e
    have hvl := tv2.len
    have he : (({ S with evs := [] } : Sx).putRow p).evs.length ≤ 40000 := he
    walk_at "rd"
    intro q3 n3
    generalize eG3 : upd _ q3 _ = G3
    obtain ⟨g3, c3⟩ := gen_new n3 eG3
    clear eG3
    refine k G3 A2 q3 vs ?_ ?_ c3 ?_ ?_
    · exact t2.same g3
    · exact (s1.trans s2).trans (SF.same g3)
    · exact tv2.tp g3.tp
    · exact (t2.fresh n3).1

/-- what Core.__init__ makes -/
structure CoreAt (K : PySem.W.Frag) (H : Hp) (a dx st pk h n l w c f : Addr) : Prop where
  a : H a = some (.ins (He.ga K "Store") dx [("settings", .ref st), ("packing", .ref pk), ("done", .int 0), ("oldest", .int 0), ("heap", .ref h), ("node_places", .ref n), ("top_level", .int (-1)), ("log", .ref l), ("waiting", .ref w), ("changed", .ref c), ("free_row", .ref f), ("taken_count", .int 0)])
  h : H h = some (.lst [])
  n : H n = some (.dT [])
  l : H l = some (.lst [])
  w : H w = some (.lst [])
  c : H c = some (.dK [])
  f : H f = some (.lst [])
@[irreducible] def sp_Core_init (K : PySem.W.Frag) : Sp := fun vs H Q _ => ∃ (a dx st pk : Addr), vs = [.ref a, .ref st, .ref pk] ∧ H a = some (.ins (He.ga K "Store") dx []) ∧
  ∀ H' h n l w c f, SB a H H' → CoreAt K H' a dx st pk h n l w c f → (∀ b ∈ [h, n, l, w, c, f], H b = none) → [a, h, n, l, w, c, f].Nodup → Q .non H'
theorem use_core_init {K : PySem.W.Frag} {a dx st pk : Addr} {H : Hp} {Q : VK} {E : XK} (h : H a = some (.ins (He.ga K "Store") dx []))
  (k : ∀ H' h n l w c f, SB a H H' → CoreAt K H' a dx st pk h n l w c f → (∀ b ∈ [h, n, l, w, c, f], H b = none) → [a, h, n, l, w, c, f].Nodup → Q .non H') : sp_Core_init K [.ref a, .ref st, .ref pk] H Q E := by
  unfold sp_Core_init; exact ⟨a, dx, st, pk, rfl, h, k⟩
theorem b_Core___init__ {K : PySem.W.Frag} {fd : FuncData} (F : F_Core___init__ K fd) : Binds K fd P_Core___init__ [] := FunD.bindsN F fun _ _ _ _ _ _ us hl => match us, hl with | [_, _, _], _ => rfl
theorem ok_Core___init__ (T : Txt K mg D) : FnOk P w K mg base CX0 1 (He.fAd K ("Core", some "__init__")) (D D_Core___init__) P_Core___init__ (sp_Core_init K) := by
  refine T.d_Core___init__.ok sc_Core___init__ (fun vs H Q E h => ?_) (fun cdv A outer s H vs Q E hr h => ?_)
  · unfold sp_Core_init at h
    first | (obtain ⟨rfl, _⟩ := h; rfl) | (obtain ⟨_, rfl, _⟩ := h; rfl) | (obtain ⟨_, _, rfl, _⟩ := h; rfl) | (obtain ⟨_, _, _, rfl, _⟩ := h; rfl) | (obtain ⟨_, _, _, _, rfl, _⟩ := h; rfl) | (obtain ⟨_, _, _, _, _, rfl, _⟩ := h; rfl) | (obtain ⟨_, _, _, _, _, _, rfl, _⟩ := h; rfl) | (obtain ⟨_, _, _, _, _, _, _, rfl, _⟩ := h; rfl) | (obtain ⟨_, _, _, _, _, _, _, _, rfl, _⟩ := h; rfl) | (obtain ⟨_, _, _, _, _, _, _, _, _, rfl, _⟩ := h; rfl) | (obtain ⟨_, _, _, _, _, _, _, _, _, _, rfl, _⟩ := h; rfl) | (obtain ⟨_, _, _, _, _, _, _, _, _, _, _, rfl, _⟩ := h; rfl)
  · refine ⟨_, PSs.nox (pss_cons (ps_fld (pv 0) (pv 1) rfl)
      (pss_cons (ps_fld (pv 0) (pv 2) rfl)
      (pss_cons (ps_fld (pv 0) pe_int rfl)
      (pss_cons (ps_fld (pv 0) pe_int rfl)
      (pss_cons (ps_fld (pv 0) (pe_lst pa_nil) rfl)
      (pss_cons (ps_fld (pv 0) pe_dnewT rfl)
      (pss_cons (ps_fld (pv 0) (pe_un un_neg pe_int) rfl)
      (pss_cons (ps_fld (pv 0) (pe_lst pa_nil) rfl)
      (pss_cons (ps_fld (pv 0) (pe_lst pa_nil) rfl)
      (pss_cons (ps_fld (pv 0) pe_dnewK rfl)
      (pss_cons (ps_fld (pv 0) (pe_lst pa_nil) rfl)
      (pss_one (ps_fld (pv 0) pe_int rfl))))))))))))), ?_⟩
    unfold sp_Core_init at h
    obtain ⟨a, dx, st, pk, rfl, ha, k⟩ := h
    have s0 : SB a H H := fun b o _ h => h
    walk_at "rd"
    generalize eG1 : upd _ _ _ = G1
    obtain ⟨g1, h1⟩ := gen_st eG1
    clear eG1
    try simp only [pf_Settings_0, pf_Settings_1, pf_Settings_2, pf_Settings_3, pf_Settings_4, pf_Settings_5, pf_Packing_0, pf_Packing_1, pf_Packing_2, pf_Packing_3, pf_Packing_4, pf_Packing_5, pf_Store_0, pf_Store_1, pf_Store_2, pf_Store_3, pf_Store_4, pf_Store_5, pf_Store_6, pf_Store_7, pf_Store_8, pf_Store_9, pf_Store_10, pf_Store_11, pf_Store_12, pu_Store_0, pu_Store_1, pu_Store_2, pu_Store_3, pu_Store_4, pu_Store_5, pu_Store_6, pu_Store_7, pu_Store_8, pu_Store_9, pu_Store_10, pu_Store_11, pu_Store_12] at h1
    have s1 : SB a H G1 := fun b o nb h => g1 _ _ nb (s0 b o nb h)
    walk_at "rd"
    generalize eG2 : upd _ _ _ = G2
    obtain ⟨g2, h2⟩ := gen_st eG2
    clear eG2
    try simp only [pf_Settings_0, pf_Settings_1, pf_Settings_2, pf_Settings_3, pf_Settings_4, pf_Settings_5, pf_Packing_0, pf_Packing_1, pf_Packing_2, pf_Packing_3, pf_Packing_4, pf_Packing_5, pf_Store_0, pf_Store_1, pf_Store_2, pf_Store_3, pf_Store_4, pf_Store_5, pf_Store_6, pf_Store_7, pf_Store_8, pf_Store_9, pf_Store_10, pf_Store_11, pf_Store_12, pu_Store_0, pu_Store_1, pu_Store_2, pu_Store_3, pu_Store_4, pu_Store_5, pu_Store_6, pu_Store_7, pu_Store_8, pu_Store_9, pu_Store_10, pu_Store_11, pu_Store_12] at h2
    have s2 : SB a H G2 := fun b o nb h => g2 _ _ nb (s1 b o nb h)
    walk_at "rd"
    generalize eG3 : upd _ _ _ = G3
    obtain ⟨g3, h3⟩ := gen_st eG3
    clear eG3
    try simp only [pf_Settings_0, pf_Settings_1, pf_Settings_2, pf_Settings_3, pf_Settings_4, pf_Settings_5, pf_Packing_0, pf_Packing_1, pf_Packing_2, pf_Packing_3, pf_Packing_4, pf_Packing_5, pf_Store_0, pf_Store_1, pf_Store_2, pf_Store_3, pf_Store_4, pf_Store_5, pf_Store_6, pf_Store_7, pf_Store_8, pf_Store_9, pf_Store_10, pf_Store_11, pf_Store_12, pu_Store_0, pu_Store_1, pu_Store_2, pu_Store_3, pu_Store_4, pu_Store_5, pu_Store_6, pu_Store_7, pu_Store_8, pu_Store_9, pu_Store_10, pu_Store_11, pu_Store_12] at h3
    have s3 : SB a H G3 := fun b o nb h => g3 _ _ nb (s2 b o nb h)
    walk_at "rd"
    generalize eG4 : upd _ _ _ = G4
    obtain ⟨g4, h4⟩ := gen_st eG4
    clear eG4
    try simp only [pf_Settings_0, pf_Settings_1, pf_Settings_2, pf_Settings_3, pf_Settings_4, pf_Settings_5, pf_Packing_0, pf_Packing_1, pf_Packing_2, pf_Packing_3, pf_Packing_4, pf_Packing_5, pf_Store_0, pf_Store_1, pf_Store_2, pf_Store_3, pf_Store_4, pf_Store_5, pf_Store_6, pf_Store_7, pf_Store_8, pf_Store_9, pf_Store_10, pf_Store_11, pf_Store_12, pu_Store_0, pu_Store_1, pu_Store_2, pu_Store_3, pu_Store_4, pu_Store_5, pu_Store_6, pu_Store_7, pu_Store_8, pu_Store_9, pu_Store_10, pu_Store_11, pu_Store_12] at h4
    have s4 : SB a H G4 := fun b o nb h => g4 _ _ nb (s3 b o nb h)
    walk_at "rd"
    intro qh n5
    generalize eG5 : upd _ qh _ = G5
    obtain ⟨g5, cqh5⟩ := gen_new n5 eG5
    clear eG5
    have naqh : qh ≠ a := (ne_of_none h4 n5).symm
    have frqh : H qh = none := by
      cases z : H qh with
      | none => rfl
      | some o => have := s4 qh o naqh z; rw [n5] at this; cases this
    have h5 := g5 _ _ h4
    have s5 : SB a H G5 := fun b o nb h => g5 _ _ (s4 b o nb h)
    walk_at "rd"
    generalize eG6 : upd _ _ _ = G6
    obtain ⟨g6, h6⟩ := gen_st eG6
    clear eG6
    try simp only [pf_Settings_0, pf_Settings_1, pf_Settings_2, pf_Settings_3, pf_Settings_4, pf_Settings_5, pf_Packing_0, pf_Packing_1, pf_Packing_2, pf_Packing_3, pf_Packing_4, pf_Packing_5, pf_Store_0, pf_Store_1, pf_Store_2, pf_Store_3, pf_Store_4, pf_Store_5, pf_Store_6, pf_Store_7, pf_Store_8, pf_Store_9, pf_Store_10, pf_Store_11, pf_Store_12, pu_Store_0, pu_Store_1, pu_Store_2, pu_Store_3, pu_Store_4, pu_Store_5, pu_Store_6, pu_Store_7, pu_Store_8, pu_Store_9, pu_Store_10, pu_Store_11, pu_Store_12] at h6
    have s6 : SB a H G6 := fun b o nb h => g6 _ _ nb (s5 b o nb h)
    have cqh6 := g6 _ _ naqh cqh5
    walk_at "rd"
    intro qn n7
    generalize eG7 : upd _ qn _ = G7
    obtain ⟨g7, cqn7⟩ := gen_new n7 eG7
    clear eG7
    have naqn : qn ≠ a := (ne_of_none h6 n7).symm
    have frqn : H qn = none := by
      cases z : H qn with
      | none => rfl
      | some o => have := s6 qn o naqn z; rw [n7] at this; cases this
    have neqhqn : qh ≠ qn := ne_of_none cqh6 n7
    have cqh7 := g7 _ _ cqh6
    have h7 := g7 _ _ h6
    have s7 : SB a H G7 := fun b o nb h => g7 _ _ (s6 b o nb h)
    walk_at "rd"
    generalize eG8 : upd _ _ _ = G8
    obtain ⟨g8, h8⟩ := gen_st eG8
    clear eG8
    try simp only [pf_Settings_0, pf_Settings_1, pf_Settings_2, pf_Settings_3, pf_Settings_4, pf_Settings_5, pf_Packing_0, pf_Packing_1, pf_Packing_2, pf_Packing_3, pf_Packing_4, pf_Packing_5, pf_Store_0, pf_Store_1, pf_Store_2, pf_Store_3, pf_Store_4, pf_Store_5, pf_Store_6, pf_Store_7, pf_Store_8, pf_Store_9, pf_Store_10, pf_Store_11, pf_Store_12, pu_Store_0, pu_Store_1, pu_Store_2, pu_Store_3, pu_Store_4, pu_Store_5, pu_Store_6, pu_Store_7, pu_Store_8, pu_Store_9, pu_Store_10, pu_Store_11, pu_Store_12] at h8
    have s8 : SB a H G8 := fun b o nb h => g8 _ _ nb (s7 b o nb h)
    have cqh8 := g8 _ _ naqh cqh7
    have cqn8 := g8 _ _ naqn cqn7
    walk_at "rd"
    generalize eG9 : upd _ _ _ = G9
    obtain ⟨g9, h9⟩ := gen_st eG9
    clear eG9
    try simp only [pf_Settings_0, pf_Settings_1, pf_Settings_2, pf_Settings_3, pf_Settings_4, pf_Settings_5, pf_Packing_0, pf_Packing_1, pf_Packing_2, pf_Packing_3, pf_Packing_4, pf_Packing_5, pf_Store_0, pf_Store_1, pf_Store_2, pf_Store_3, pf_Store_4, pf_Store_5, pf_Store_6, pf_Store_7, pf_Store_8, pf_Store_9, pf_Store_10, pf_Store_11, pf_Store_12, pu_Store_0, pu_Store_1, pu_Store_2, pu_Store_3, pu_Store_4, pu_Store_5, pu_Store_6, pu_Store_7, pu_Store_8, pu_Store_9, pu_Store_10, pu_Store_11, pu_Store_12] at h9
    have s9 : SB a H G9 := fun b o nb h => g9 _ _ nb (s8 b o nb h)
    have cqh9 := g9 _ _ naqh cqh8
    have cqn9 := g9 _ _ naqn cqn8
    walk_at "rd"
    intro ql n10
    generalize eG10 : upd _ ql _ = G10
    obtain ⟨g10, cql10⟩ := gen_new n10 eG10
    clear eG10
    have naql : ql ≠ a := (ne_of_none h9 n10).symm
    have frql : H ql = none := by
      cases z : H ql with
      | none => rfl
      | some o => have := s9 ql o naql z; rw [n10] at this; cases this
    have neqhql : qh ≠ ql := ne_of_none cqh9 n10
    have neqnql : qn ≠ ql := ne_of_none cqn9 n10
    have cqh10 := g10 _ _ cqh9
    have cqn10 := g10 _ _ cqn9
    have h10 := g10 _ _ h9
    have s10 : SB a H G10 := fun b o nb h => g10 _ _ (s9 b o nb h)
    walk_at "rd"
    generalize eG11 : upd _ _ _ = G11
    obtain ⟨g11, h11⟩ := gen_st eG11
    clear eG11
    try simp only [pf_Settings_0, pf_Settings_1, pf_Settings_2, pf_Settings_3, pf_Settings_4, pf_Settings_5, pf_Packing_0, pf_Packing_1, pf_Packing_2, pf_Packing_3, pf_Packing_4, pf_Packing_5, pf_Store_0, pf_Store_1, pf_Store_2, pf_Store_3, pf_Store_4, pf_Store_5, pf_Store_6, pf_Store_7, pf_Store_8, pf_Store_9, pf_Store_10, pf_Store_11, pf_Store_12, pu_Store_0, pu_Store_1, pu_Store_2, pu_Store_3, pu_Store_4, pu_Store_5, pu_Store_6, pu_Store_7, pu_Store_8, pu_Store_9, pu_Store_10, pu_Store_11, pu_Store_12] at h11
    have s11 : SB a H G11 := fun b o nb h => g11 _ _ nb (s10 b o nb h)
    have cqh11 := g11 _ _ naqh cqh10
    have cqn11 := g11 _ _ naqn cqn10
    have cql11 := g11 _ _ naql cql10
    walk_at "rd"
    intro qw n12
    generalize eG12 : upd _ qw _ = G12
    obtain ⟨g12, cqw12⟩ := gen_new n12 eG12
    clear eG12
    have naqw : qw ≠ a := (ne_of_none h11 n12).symm
    have frqw : H qw = none := by
      cases z : H qw with
      | none => rfl
      | some o => have := s11 qw o naqw z; rw [n12] at this; cases this
    have neqhqw : qh ≠ qw := ne_of_none cqh11 n12
    have neqnqw : qn ≠ qw := ne_of_none cqn11 n12
    have neqlqw : ql ≠ qw := ne_of_none cql11 n12
    have cqh12 := g12 _ _ cqh11
    have cqn12 := g12 _ _ cqn11
    have cql12 := g12 _ _ cql11
    have h12 := g12 _ _ h11
    have s12 : SB a H G12 := fun b o nb h => g12 _ _ (s11 b o nb h)
    walk_at "rd"
    generalize eG13 : upd _ _ _ = G13
    obtain ⟨g13, h13⟩ := gen_st eG13
    clear eG13
    try simp only [pf_Settings_0, pf_Settings_1, pf_Settings_2, pf_Settings_3, pf_Settings_4, pf_Settings_5, pf_Packing_0, pf_Packing_1, pf_Packing_2, pf_Packing_3, pf_Packing_4, pf_Packing_5, pf_Store_0, pf_Store_1, pf_Store_2, pf_Store_3, pf_Store_4, pf_Store_5, pf_Store_6, pf_Store_7, pf_Store_8, pf_Store_9, pf_Store_10, pf_Store_11, pf_Store_12, pu_Store_0, pu_Store_1, pu_Store_2, pu_Store_3, pu_Store_4, pu_Store_5, pu_Store_6, pu_Store_7, pu_Store_8, pu_Store_9, pu_Store_10, pu_Store_11, pu_Store_12] at h13
    have s13 : SB a H G13 := fun b o nb h => g13 _ _ nb (s12 b o nb h)
    have cqh13 := g13 _ _ naqh cqh12
    have cqn13 := g13 _ _ naqn cqn12
    have cql13 := g13 _ _ naql cql12
    have cqw13 := g13 _ _ naqw cqw12
    walk_at "rd"
    intro qc n14
    generalize eG14 : upd _ qc _ = G14
    obtain ⟨g14, cqc14⟩ := gen_new n14 eG14
    clear eG14
    have naqc : qc ≠ a := (ne_of_none h13 n14).symm
    have frqc : H qc = none := by
      cases z : H qc with
      | none => rfl
      | some o => have := s13 qc o naqc z; rw [n14] at this; cases this
    have neqhqc : qh ≠ qc := ne_of_none cqh13 n14
    have neqnqc : qn ≠ qc := ne_of_none cqn13 n14
    have neqlqc : ql ≠ qc := ne_of_none cql13 n14
    have neqwqc : qw ≠ qc := ne_of_none cqw13 n14
    have cqh14 := g14 _ _ cqh13
    have cqn14 := g14 _ _ cqn13
    have cql14 := g14 _ _ cql13
    have cqw14 := g14 _ _ cqw13
    have h14 := g14 _ _ h13
    have s14 : SB a H G14 := fun b o nb h => g14 _ _ (s13 b o nb h)
    walk_at "rd"
    generalize eG15 : upd _ _ _ = G15
    obtain ⟨g15, h15⟩ := gen_st eG15
    clear eG15
    try simp only [pf_Settings_0, pf_Settings_1, pf_Settings_2, pf_Settings_3, pf_Settings_4, pf_Settings_5, pf_Packing_0, pf_Packing_1, pf_Packing_2, pf_Packing_3, pf_Packing_4, pf_Packing_5, pf_Store_0, pf_Store_1, pf_Store_2, pf_Store_3, pf_Store_4, pf_Store_5, pf_Store_6, pf_Store_7, pf_Store_8, pf_Store_9, pf_Store_10, pf_Store_11, pf_Store_12, pu_Store_0, pu_Store_1, pu_Store_2, pu_Store_3, pu_Store_4, pu_Store_5, pu_Store_6, pu_Store_7, pu_Store_8, pu_Store_9, pu_Store_10, pu_Store_11, pu_Store_12] at h15
    have s15 : SB a H G15 := fun b o nb h => g15 _ _ nb (s14 b o nb h)
    have cqh15 := g15 _ _ naqh cqh14
    have cqn15 := g15 _ _ naqn cqn14
    have cql15 := g15 _ _ naql cql14
    have cqw15 := g15 _ _ naqw cqw14
    have cqc15 := g15 _ _ naqc cqc14
    walk_at "rd"
    intro qf n16
    generalize eG16 : upd _ qf _ = G16
    obtain ⟨g16, cqf16⟩ := gen_new n16 eG16
    clear eG16
    have naqf : qf ≠ a := (ne_of_none h15 n16).symm
    have frqf : H qf = none := by
      cases z : H qf with
      | none => rfl
      | some o => have := s15 qf o naqf z; rw [n16] at this; cases this
    have neqhqf : qh ≠ qf := ne_of_none cqh15 n16
    have neqnqf : qn ≠ qf := ne_of_none cqn15 n16
    have neqlqf : ql ≠ qf := ne_of_none cql15 n16
    have neqwqf : qw ≠ qf := ne_of_none cqw15 n16
    have neqcqf : qc ≠ qf := ne_of_none cqc15 n16
    have cqh16 := g16 _ _ cqh15
    have cqn16 := g16 _ _ cqn15
    have cql16 := g16 _ _ cql15
    have cqw16 := g16 _ _ cqw15
    have cqc16 := g16 _ _ cqc15
    have h16 := g16 _ _ h15
    have s16 : SB a H G16 := fun b o nb h => g16 _ _ (s15 b o nb h)
    walk_at "rd"
    generalize eG17 : upd _ _ _ = G17
    obtain ⟨g17, h17⟩ := gen_st eG17
    clear eG17
    try simp only [pf_Settings_0, pf_Settings_1, pf_Settings_2, pf_Settings_3, pf_Settings_4, pf_Settings_5, pf_Packing_0, pf_Packing_1, pf_Packing_2, pf_Packing_3, pf_Packing_4, pf_Packing_5, pf_Store_0, pf_Store_1, pf_Store_2, pf_Store_3, pf_Store_4, pf_Store_5, pf_Store_6, pf_Store_7, pf_Store_8, pf_Store_9, pf_Store_10, pf_Store_11, pf_Store_12, pu_Store_0, pu_Store_1, pu_Store_2, pu_Store_3, pu_Store_4, pu_Store_5, pu_Store_6, pu_Store_7, pu_Store_8, pu_Store_9, pu_Store_10, pu_Store_11, pu_Store_12] at h17
    have s17 : SB a H G17 := fun b o nb h => g17 _ _ nb (s16 b o nb h)
    have cqh17 := g17 _ _ naqh cqh16
    have cqn17 := g17 _ _ naqn cqn16
    have cql17 := g17 _ _ naql cql16
    have cqw17 := g17 _ _ naqw cqw16
    have cqc17 := g17 _ _ naqc cqc16
    have cqf17 := g17 _ _ naqf cqf16
    walk_at "rd"
    generalize eG18 : upd _ _ _ = G18
    obtain ⟨g18, h18⟩ := gen_st eG18
    clear eG18
    try simp only [pf_Settings_0, pf_Settings_1, pf_Settings_2, pf_Settings_3, pf_Settings_4, pf_Settings_5, pf_Packing_0, pf_Packing_1, pf_Packing_2, pf_Packing_3, pf_Packing_4, pf_Packing_5, pf_Store_0, pf_Store_1, pf_Store_2, pf_Store_3, pf_Store_4, pf_Store_5, pf_Store_6, pf_Store_7, pf_Store_8, pf_Store_9, pf_Store_10, pf_Store_11, pf_Store_12, pu_Store_0, pu_Store_1, pu_Store_2, pu_Store_3, pu_Store_4, pu_Store_5, pu_Store_6, pu_Store_7, pu_Store_8, pu_Store_9, pu_Store_10, pu_Store_11, pu_Store_12] at h18
    have s18 : SB a H G18 := fun b o nb h => g18 _ _ nb (s17 b o nb h)
    have cqh18 := g18 _ _ naqh cqh17
    have cqn18 := g18 _ _ naqn cqn17
    have cql18 := g18 _ _ naql cql17
    have cqw18 := g18 _ _ naqw cqw17
    have cqc18 := g18 _ _ naqc cqc17
    have cqf18 := g18 _ _ naqf cqf17
    refine k G18 qh qn ql qw qc qf s18 ⟨h18, cqh18, cqn18, cql18, cqw18, cqc18, cqf18⟩ ?_ ?_
    · intro b hb
      simp only [List.mem_cons, List.not_mem_nil, or_false] at hb
      rcases hb with rfl | rfl | rfl | rfl | rfl | rfl
      · exact frqh
      · exact frqn
      · exact frql
      · exact frqw
      · exact frqc
      · exact frqf
    · simp only [List.nodup_cons, List.mem_cons, List.not_mem_nil, or_false, not_or, List.nodup_nil, and_true, not_false_iff]
      exact ⟨⟨naqh.symm, naqn.symm, naql.symm, naqw.symm, naqc.symm, naqf.symm⟩, ⟨neqhqn, neqhql, neqhqw, neqhqc, neqhqf⟩, ⟨neqnql, neqnqw, neqnqc, neqnqf⟩, ⟨neqlqw, neqlqc, neqlqf⟩, ⟨neqwqc, neqwqf⟩, neqcqf⟩

@[irreducible] def sp_Store_init (K : PySem.W.Frag) : Sp := fun vs H Q _ => ∃ (a dx st : Addr) (p : Prt), vs = [.ref a, .ref st] ∧ H a = some (.ins (He.ga K "Store") dx []) ∧ SetAt K H st p ∧ p.Ok ∧
  ∀ H' A G f1 p1, A.a = a → A.st = st → SB a H G → Cyc p f1 p1 → StoreAt K H' A G p f1 p1 Sx.new → Q .non H'
theorem use_store_init {K : PySem.W.Frag} {a dx st : Addr} {p : Prt} {H : Hp} {Q : VK} {E : XK} (h : H a = some (.ins (He.ga K "Store") dx [])) (hs : SetAt K H st p) (ok : p.Ok)
  (k : ∀ H' A G f1 p1, A.a = a → A.st = st → SB a H G → Cyc p f1 p1 → StoreAt K H' A G p f1 p1 Sx.new → Q .non H') : sp_Store_init K [.ref a, .ref st] H Q E := by
  unfold sp_Store_init; exact ⟨a, dx, st, p, rfl, h, hs, ok, k⟩
theorem b_Store___init__ {K : PySem.W.Frag} {fd : FuncData} (F : F_Store___init__ K fd) : Binds K fd P_Store___init__ [] := FunD.bindsN F fun _ _ _ _ _ _ us hl => match us, hl with | [_, _], _ => rfl
theorem ok_Store___init__ (T : Txt K mg D) : FnOk P w K mg base CX0 5 (He.fAd K ("Store", some "__init__")) (D D_Store___init__) P_Store___init__ (sp_Store_init K) := by
  refine T.d_Store___init__.ok sc_Store___init__ (fun vs H Q E h => ?_) (fun cdv A outer s H vs Q E hr h => ?_)
  · unfold sp_Store_init at h
    first | (obtain ⟨rfl, _⟩ := h; rfl) | (obtain ⟨_, rfl, _⟩ := h; rfl) | (obtain ⟨_, _, rfl, _⟩ := h; rfl) | (obtain ⟨_, _, _, rfl, _⟩ := h; rfl) | (obtain ⟨_, _, _, _, rfl, _⟩ := h; rfl) | (obtain ⟨_, _, _, _, _, rfl, _⟩ := h; rfl) | (obtain ⟨_, _, _, _, _, _, rfl, _⟩ := h; rfl) | (obtain ⟨_, _, _, _, _, _, _, rfl, _⟩ := h; rfl) | (obtain ⟨_, _, _, _, _, _, _, _, rfl, _⟩ := h; rfl) | (obtain ⟨_, _, _, _, _, _, _, _, _, rfl, _⟩ := h; rfl) | (obtain ⟨_, _, _, _, _, _, _, _, _, _, rfl, _⟩ := h; rfl) | (obtain ⟨_, _, _, _, _, _, _, _, _, _, _, rfl, _⟩ := h; rfl)
  · refine ⟨_, PSs.nox (pss_cons (ps_expr (pe_call (ok_check_settings T) (hr.mono (by decide)) rfl T.g_check_settings T.d_check_settings.kp (b_check_settings T.d_check_settings) .nil pass0 (pa_cons (pv 1) pa_nil)))
      (pss_cons (ps_expr (pe_bmeth T.bm_Book___init__ (ok_Core___init__ T) (hr.mono (by decide)) rfl T.g_Book (b_Core___init__ T.d_Core___init__) pass0 (pa_cons (pv 0) (pa_cons (pv 1) (pa_cons (pe_make T.mk_Packing (ok_Packing___init__ T) (hr.mono (by decide)) rfl T.g_Packing (b_Packing___init__ T.d_Packing___init__) .nil pass0 (pa_cons (pv 1) pa_nil)) pa_nil)))))
      (pss_one (ps_fld (pv 0) (pe_lst pa_nil) rfl)))), ?_⟩
    unfold sp_Store_init at h
    obtain ⟨a, dx, st, p, rfl, ha, hs, ok, k⟩ := h
    obtain ⟨sdx, stu, hb, _⟩ := id hs
    walk_at "rd"
    refine use_check_settings hb ?_
    walk_at "rd"
    intro pk kdx n1 ndpk nepk
    generalize eG1 : upd (upd _ kdx _) pk _ = G1
    obtain ⟨s1, c1⟩ := gen_mk n1 ndpk eG1
    clear eG1
    have hs1 := hs.same s1
    have ha1 := s1 _ _ ha
    walk_at "rd"
    refine use_packing_init c1 hs1 ok fun G2 f1 p1 s2 cy hpk _ => ?_
    have nak : a ≠ pk := ne_of_none ha n1
    have ha2 := s2 _ _ nak ha1
    have hs2 : SetAt K G2 st p := by
      obtain ⟨y1, y2, y3, y4⟩ := hs1
      exact ⟨y1, y2, s2 _ _ (fun z => by rw [z, c1] at y3; injection y3 with y3; injection y3 with y5 y6 y7; cases y7) y3, s2 _ _ (fun z => by rw [z, c1] at y4; cases y4) y4⟩
    walk_at "rd"
    refine use_core_init ha2 fun G3 qh qn ql qw qc qf s3 ca fr nd => ?_
    have ha3 := ca.a
    walk_at "rd"
    intro qe n4
    generalize eG4 : upd _ qe _ = G4
    obtain ⟨g4, c4⟩ := gen_new n4 eG4
    clear eG4
    have ha4 := g4 _ _ ha3
    walk_at "rd"
    generalize eG5 : upd _ _ _ = G5
    obtain ⟨g5, h5⟩ := gen_st eG5
    clear eG5
    try simp only [pf_Settings_0, pf_Settings_1, pf_Settings_2, pf_Settings_3, pf_Settings_4, pf_Settings_5, pf_Packing_0, pf_Packing_1, pf_Packing_2, pf_Packing_3, pf_Packing_4, pf_Packing_5, pf_Store_0, pf_Store_1, pf_Store_2, pf_Store_3, pf_Store_4, pf_Store_5, pf_Store_6, pf_Store_7, pf_Store_8, pf_Store_9, pf_Store_10, pf_Store_11, pf_Store_12, pu_Store_0, pu_Store_1, pu_Store_2, pu_Store_3, pu_Store_4, pu_Store_5, pu_Store_6, pu_Store_7, pu_Store_8, pu_Store_9, pu_Store_10, pu_Store_11, pu_Store_12] at h5
    have nea : qe ≠ a := (ne_of_none ha3 n4).symm
    have nda := nd
    simp only [List.nodup_cons, List.mem_cons, List.not_mem_nil, or_false, not_or, List.nodup_nil, and_true, not_false_iff] at nda
    obtain ⟨⟨a1, a2, a3, a4, a5, a6⟩, _⟩ := nda
    obtain ⟨G, hG⟩ : ∃ G : Hp, G = fun b => if b = a then none else G2 b := ⟨_, rfl⟩
    have Ga : G a = none := by rw [hG]; exact if_pos rfl
    have Gn : ∀ b, b ≠ a → G b = G2 b := fun b nb => by rw [hG]; exact if_neg nb
    have Gs : ∀ b o, G b = some o → b ≠ a ∧ G2 b = some o := fun b o h => by
      have nb : b ≠ a := fun z => by rw [z, Ga] at h; cases h
      exact ⟨nb, by rw [← Gn b nb]; exact h⟩
    clear hG
    have hsG : SetAt K G st p := by
      obtain ⟨y1, y2, y3, y4⟩ := hs2
      refine ⟨y1, y2, ?_, ?_⟩
      · rw [Gn _ (fun z => by rw [z, ha2] at y3; injection y3 with y3; injection y3 with y5 y6 y7; cases y7)]; exact y3
      · rw [Gn _ (fun z => by rw [z, ha2] at y4; cases y4)]; exact y4
    have hpG : PkAt K G pk p f1 p1 := by
      obtain ⟨y1, y2, y3, z1, z2, z3⟩ := hpk
      refine ⟨y1, y2, y3, ?_, ?_, ?_⟩
      · rw [Gn _ nak.symm]; exact z1
      · rw [Gn _ (fun z => by rw [z, ha2] at z2; cases z2)]; exact z2
      · rw [Gn _ (fun z => by rw [z, ha2] at z3; cases z3)]; exact z3
    refine k G5 ⟨a, dx, st, pk, qh, qn, ql, qw, qc, qf, qe⟩ G f1 p1 rfl rfl ?_ cy ?_
    · intro b o nb h
      rw [Gn b nb]
      exact s2 _ _ (ne_of_none h n1) (s1 _ _ h)
    · refine ⟨h5, g5 _ _ (fun z => a1 z.symm) (g4 _ _ ca.h), g5 _ _ (fun z => a2 z.symm) (g4 _ _ ca.n), g5 _ _ (fun z => a3 z.symm) (g4 _ _ ca.l), g5 _ _ (fun z => a4 z.symm) (g4 _ _ ca.w), g5 _ _ (fun z => a5 z.symm) (g4 _ _ ca.c), g5 _ _ (fun z => a6 z.symm) (g4 _ _ ca.f), ⟨[], g5 _ _ nea c4, .nil⟩, ?_, ?_, ?_, ?_, ?_⟩
      · show ([a, qh, qn, ql, qw, qc, qf] ++ [qe]).Nodup
        refine List.nodup_append.mpr ⟨nd, by simp, fun x hx y hy e => ?_⟩
        rw [List.mem_singleton.mp hy] at e
        subst e
        simp only [List.mem_cons, List.not_mem_nil, or_false] at hx
        rcases hx with rfl | rfl | rfl | rfl | rfl | rfl | rfl
        · rw [ca.a] at n4; cases n4
        · rw [ca.h] at n4; cases n4
        · rw [ca.n] at n4; cases n4
        · rw [ca.l] at n4; cases n4
        · rw [ca.w] at n4; cases n4
        · rw [ca.c] at n4; cases n4
        · rw [ca.f] at n4; cases n4
      · intro b o h
        obtain ⟨nb, h⟩ := Gs b o h
        exact g5 _ _ nb (g4 _ _ (s3 _ _ nb h))
      · intro b hb
        by_cases e : b = a
        · rw [e]; exact Ga
        · rw [Gn b e]
          have hb : b ∈ [qh, qn, ql, qw, qc, qf] ∨ b = qe := by
            simp only [SAd.own, List.mem_cons, List.not_mem_nil, or_false] at hb ⊢
            rcases hb with h | h | h | h | h | h | h | h
            · exact absurd h e
            · exact .inl (.inl h)
            · exact .inl (.inr (.inl h))
            · exact .inl (.inr (.inr (.inl h)))
            · exact .inl (.inr (.inr (.inr (.inl h))))
            · exact .inl (.inr (.inr (.inr (.inr (.inl h)))))
            · exact .inl (.inr (.inr (.inr (.inr (.inr h)))))
            · exact .inr h
          rcases hb with h | h
          · exact fr b h
          · cases z : G2 b with
            | none => rfl
            | some o => have := s3 b o e z; rw [h, n4] at this; cases this
      · exact hsG
      · exact hpG

/-! ### the plain law: the nodes' places -/
theorem div_up (n : Nat) {w : Nat} (hw : 0 < w) : (n + 1) / w = n / w ∨ (n + 1) / w = n / w + 1 := by
  have h1 : n / w ≤ (n + 1) / w := Nat.div_le_div_right (by omega)
  have h2 : (n + 1) / w ≤ (n + w) / w := Nat.div_le_div_right (by omega)
  rw [Nat.add_div_right n hw] at h2
  omega
theorem isht_up {f a b n L M : Nat} (h : IsHt f a b L) (k : IsHt f a n M) (hab : a ≤ b) (hbn : b ≤ n) : L ≤ M := by
  by_cases c : L ≤ M
  · exact c
  · have hne := h.2.2 M k.1 (by omega)
    have h1 : a / f ^ M ≤ b / f ^ M := Nat.div_le_div_right hab
    have h2 : b / f ^ M ≤ n / f ^ M := Nat.div_le_div_right hbn
    have := k.2.1
    omega
theorem isht_down {f a b c L M : Nat} (h : IsHt f a b L) (k : IsHt f c b M) (hac : a ≤ c) (hcb : c ≤ b) : M ≤ L := by
  by_cases z : M ≤ L
  · exact z
  · have hne := k.2.2 L h.1 (by omega)
    have h1 : a / f ^ L ≤ c / f ^ L := Nat.div_le_div_right hac
    have h2 : c / f ^ L ≤ b / f ^ L := Nat.div_le_div_right hcb
    have := h.2.1
    omega
theorem isht_over {f a b L j : Nat} (h : IsHt f a b L) (hj : L ≤ j) : a / f ^ j = b / f ^ j := by
  have e : f ^ j = f ^ L * f ^ (j - L) := by rw [← Nat.pow_add]; congr 1; omega
  rw [e, ← Nat.div_div_eq_div_mul, ← Nat.div_div_eq_div_mul, h.2.1]
def nkN (i x : Nat) : NK := ((i : Int), (x : Int))
theorem nkN_inj {i x j y : Nat} (h : nkN i x = nkN j y) : i = j ∧ x = y := by
  unfold nkN at h
  injection h with h1 h2
  omega
/-- the nodes over the heap pages a .. b, the root at level lv -/
structure KeyAt (f a b lv : Nat) (ks : List NK) : Prop where
  nd : ks.Nodup
  iff : ∀ k : NK, k ∈ ks ↔ ∃ i x : Nat, k = nkN i x ∧ i ≤ lv ∧ a / f ^ (i + 1) ≤ x ∧ x ≤ b / f ^ (i + 1)
theorem aget_none {l : List (NK × Int)} {k : NK} : (aget l k).isNone = true ↔ k ∉ l.map (·.1) := by
  induction l with
  | nil => simp [aget]
  | cons e l ih =>
    unfold aget at ih ⊢
    rw [List.find?_cons, List.map_cons, List.mem_cons]
    by_cases c : e.1 = k
    · rw [decide_eq_true c]
      simp [c]
    · rw [decide_eq_false c]
      rw [ih]
      exact ⟨fun h z => z.elim (fun y => c y.symm) h, fun h z => h (.inr z)⟩
theorem mem_want {y N O : Int} {b : Bool} : y ∈ wantL N O b ↔ y = N ∨ (b = true ∧ y = O) := by
  unfold wantL
  cases b with
  | false => simp
  | true =>
    simp only [if_true, true_and]
    by_cases e : N = O
    · rw [if_pos e]; simp [e]
    · rw [if_neg e]
      by_cases c : N ≤ O
      · rw [if_pos c]; simp
      · rw [if_neg c]; simp [or_comm]
theorem want_nd (N O : Int) (b : Bool) : (wantL N O b).Nodup := by
  unfold wantL
  cases b with
  | false => simp
  | true =>
    simp only [if_true]
    by_cases e : N = O
    · rw [if_pos e]; simp
    · rw [if_neg e]
      by_cases c : N ≤ O
      · rw [if_pos c]; simp [e]
      · rw [if_neg c]; simp; omega
theorem mem_begunAt {f o n i : Nat} {top : Int} {ns : List (NK × Int)} {k : NK} : k ∈ begunAt f o n top ns i ↔ ∃ x : Nat, k = nkN i x ∧ (x = n / f ^ (i + 1) ∨ ((i : Int) > top ∧ x = o / f ^ (i + 1))) ∧ k ∉ ns.map (·.1) := by
  unfold begunAt
  rw [List.mem_filter, aget_none, List.mem_map]
  constructor
  · rintro ⟨⟨y, hy, rfl⟩, hn⟩
    rcases mem_want.mp hy with e | ⟨e1, e2⟩
    · exact ⟨n / f ^ (i + 1), by unfold nkN; rw [e], .inl rfl, hn⟩
    · exact ⟨o / f ^ (i + 1), by unfold nkN; rw [e2], .inr ⟨of_decide_eq_true e1, rfl⟩, hn⟩
  · rintro ⟨x, rfl, h, hn⟩
    refine ⟨⟨(x : Int), mem_want.mpr ?_, rfl⟩, hn⟩
    rcases h with rfl | ⟨h1, rfl⟩
    · exact .inl rfl
    · exact .inr ⟨decide_eq_true h1, rfl⟩
theorem begunAt_nd (f o n : Nat) (top : Int) (ns : List (NK × Int)) (i : Nat) : (begunAt f o n top ns i).Nodup := by
  unfold begunAt
  refine List.Pairwise.filter _ ?_
  refine List.pairwise_map.mpr ((want_nd _ _ _).imp fun h z => h ?_)
  exact (Prod.mk.inj z).2
theorem mem_begunL {f o n : Nat} {top : Int} {ns : List (NK × Int)} {m : Nat} {k : NK} : k ∈ begunL f o n top ns m ↔ ∃ i, i < m ∧ k ∈ begunAt f o n top ns i := by
  unfold begunL
  rw [List.mem_flatMap]
  constructor
  · rintro ⟨i, hi, h⟩
    exact ⟨i, List.mem_range.mp hi, h⟩
  · rintro ⟨i, hi, h⟩
    exact ⟨i, List.mem_range.mpr hi, h⟩
theorem begunL_nd (f o n : Nat) (top : Int) (ns : List (NK × Int)) : ∀ m, (begunL f o n top ns m).Nodup
  | 0 => List.nodup_nil
  | m + 1 => by
    rw [begunL_succ]
    refine List.nodup_append.mpr ⟨begunL_nd f o n top ns m, begunAt_nd f o n top ns m, fun k hk j hj e => ?_⟩
    subst e
    obtain ⟨i, hi, hk⟩ := mem_begunL.mp hk
    obtain ⟨x, e1, _⟩ := mem_begunAt.mp hk
    obtain ⟨y, e2, _⟩ := mem_begunAt.mp hj
    have := (nkN_inj (e1.symm.trans e2)).1
    omega
theorem begunL_out {f o n : Nat} {top : Int} {ns : List (NK × Int)} {m : Nat} {k : NK} (h : k ∈ begunL f o n top ns m) : k ∉ ns.map (·.1) := by
  obtain ⟨i, _, h⟩ := mem_begunL.mp h
  obtain ⟨x, _, _, h⟩ := mem_begunAt.mp h
  exact h
theorem keys_begin0 {f o : Nat} : KeyAt f o o 0 (begunL f o o (-1) [] 1) := by
  refine ⟨begunL_nd _ _ _ _ _ _, fun k => ?_⟩
  rw [mem_begunL]
  constructor
  · rintro ⟨i, hi, h⟩
    obtain ⟨x, e, h, _⟩ := mem_begunAt.mp h
    refine ⟨i, x, e, by omega, ?_⟩
    rcases h with h | ⟨_, h⟩ <;> (rw [h]; exact ⟨Nat.le_refl _, Nat.le_refl _⟩)
  · rintro ⟨i, x, e, hi, h1, h2⟩
    exact ⟨i, by omega, mem_begunAt.mpr ⟨x, e, .inl (by omega), by simp⟩⟩
theorem keys_begin {f o b lv lv2 : Nat} {ns : List (NK × Int)} (hf : 2 ≤ f) (h : KeyAt f o b lv (ns.map (·.1))) (h1 : IsHt f o b (lv + 1)) (h2 : IsHt f o (b + 1) (lv2 + 1)) (hob : o ≤ b) :
    KeyAt f o (b + 1) lv2 (ns.map (·.1) ++ begunL f o (b + 1) (lv : Int) ns (lv2 + 1)) := by
  have hlv := isht_up h1 h2 hob (Nat.le_succ b)
  refine ⟨List.nodup_append.mpr ⟨h.nd, begunL_nd _ _ _ _ _ _, fun k hk j hj e => begunL_out hj (e ▸ hk)⟩, fun k => ?_⟩
  rw [List.mem_append]
  constructor
  · rintro (hk | hk)
    · obtain ⟨i, x, e, hi, a1, a2⟩ := (h.iff k).mp hk
      exact ⟨i, x, e, by omega, a1, Nat.le_trans a2 (Nat.div_le_div_right (by omega))⟩
    · obtain ⟨i, hi, hk⟩ := mem_begunL.mp hk
      obtain ⟨x, e, hx, _⟩ := mem_begunAt.mp hk
      have hle : o / f ^ (i + 1) ≤ (b + 1) / f ^ (i + 1) := Nat.div_le_div_right (by omega)
      refine ⟨i, x, e, by omega, ?_⟩
      rcases hx with hx | ⟨_, hx⟩ <;> omega
  · rintro ⟨i, x, e, hi, a1, a2⟩
    by_cases c : k ∈ ns.map (·.1)
    · exact .inl c
    · refine .inr (mem_begunL.mpr ⟨i, by omega, mem_begunAt.mpr ⟨x, e, ?_, c⟩⟩)
      by_cases d : x = (b + 1) / f ^ (i + 1)
      · exact .inl d
      · right
        have hw : 0 < f ^ (i + 1) := Nat.pow_pos (by omega)
        have hx : x ≤ b / f ^ (i + 1) := by
          rcases div_up b hw with q | q <;> omega
        by_cases g : i ≤ lv
        · exact absurd ((h.iff k).mpr ⟨i, x, e, g, a1, hx⟩) c
        · have := isht_over h1 (show lv + 1 ≤ i + 1 by omega)
          exact ⟨by omega, by omega⟩
theorem mem_ended {f n : Nat} {ns : List (NK × Int)} {lv : Nat} {k : NK} : k ∈ endedL f n ns (lv : Int) ↔ (k ∈ ns.map (·.1) ∧ k.1 > lv) ∨ ∃ i : Nat, i ≤ lv ∧ n / f ^ (i + 1) ≠ (n + 1) / f ^ (i + 1) ∧ k = nkN i (n / f ^ (i + 1)) := by
  unfold endedL
  rw [List.mem_append, List.mem_filter, List.mem_filterMap]
  refine or_congr (and_congr Iff.rfl (decide_eq_true_iff)) ?_
  constructor
  · rintro ⟨i, hi, h⟩
    have hi := List.mem_range.mp hi
    by_cases c : n / f ^ (i + 1) ≠ (n + 1) / f ^ (i + 1)
    · rw [if_pos c] at h
      exact ⟨i, by omega, c, (Option.some.inj h).symm⟩
    · rw [if_neg c] at h; cases h
  · rintro ⟨i, hi, c, e⟩
    refine ⟨i, List.mem_range.mpr (by omega), ?_⟩
    rw [if_pos c, e]
    rfl
theorem filterMap_nd {f n : Nat} : ∀ m : Nat, ((List.range m).filterMap fun (i : Nat) => if n / f ^ (i + 1) ≠ (n + 1) / f ^ (i + 1) then some (nkN i (n / f ^ (i + 1))) else none).Nodup
  | 0 => List.nodup_nil
  | m + 1 => by
    rw [List.range_succ, List.filterMap_append]
    refine List.nodup_append.mpr ⟨filterMap_nd m, ?_, fun k hk j hj e => ?_⟩
    · rw [List.filterMap_cons]
      split <;> simp
    · subst e
      obtain ⟨i, hi, h1⟩ := List.mem_filterMap.mp hk
      obtain ⟨i2, hi2, h2⟩ := List.mem_filterMap.mp hj
      have hi := List.mem_range.mp hi
      have hi2 := List.mem_singleton.mp hi2
      have e1 : k = nkN i (n / f ^ (i + 1)) := by
        split at h1
        · exact (Option.some.inj h1).symm
        · cases h1
      have e2 : k = nkN i2 (n / f ^ (i2 + 1)) := by
        split at h2
        · exact (Option.some.inj h2).symm
        · cases h2
      have := (nkN_inj (e1.symm.trans e2)).1
      omega
theorem ended_nd {f n : Nat} {ns : List (NK × Int)} {lv : Nat} (h : (ns.map (·.1)).Nodup) : (endedL f n ns (lv : Int)).Nodup := by
  unfold endedL
  refine List.nodup_append.mpr ⟨List.Pairwise.filter _ h, filterMap_nd _, fun k hk j hj e => ?_⟩
  subst e
  have h1 := of_decide_eq_true (List.mem_filter.mp hk).2
  obtain ⟨i, hi, h2⟩ := List.mem_filterMap.mp hj
  have hi := List.mem_range.mp hi
  split at h2
  · have e := (Option.some.inj h2).symm
    rw [e] at h1
    have h1 : (i : Int) > lv := h1
    omega
  · cases h2
theorem keys_end {f a b lv lv2 : Nat} {ns : List (NK × Int)} (hf : 2 ≤ f) (h : KeyAt f a b lv (ns.map (·.1))) (h1 : IsHt f a b (lv + 1)) (h2 : IsHt f (a + 1) b (lv2 + 1)) (hab : a < b) :
    (∀ k ∈ endedL f a ns (lv2 : Int), k ∈ ns.map (·.1)) ∧ ∀ ks : List NK, ks.Nodup → (∀ k, k ∈ ks ↔ k ∈ ns.map (·.1) ∧ k ∉ endedL f a ns (lv2 : Int)) → KeyAt f (a + 1) b lv2 ks := by
  have hlv := isht_down h1 h2 (Nat.le_succ a) hab
  refine ⟨fun k hk => ?_, fun ks nd hks => ⟨nd, fun k => ?_⟩⟩
  · rcases mem_ended.mp hk with ⟨h, _⟩ | ⟨i, hi, hne, e⟩
    · exact h
    · exact (h.iff k).mpr ⟨i, _, e, by omega, Nat.le_refl _, Nat.div_le_div_right (by omega)⟩
  · rw [hks k]
    constructor
    · rintro ⟨hk, hn⟩
      obtain ⟨i, x, e, hi, a1, a2⟩ := (h.iff k).mp hk
      have hi2 : i ≤ lv2 := by
        by_cases c : i ≤ lv2
        · exact c
        · refine absurd (mem_ended.mpr (.inl ⟨hk, ?_⟩)) hn
          rw [e]
          show (i : Int) > lv2
          omega
      refine ⟨i, x, e, hi2, ?_, a2⟩
      have hw : 0 < f ^ (i + 1) := Nat.pow_pos (by omega)
      rcases div_up a hw with q | q
      · omega
      · by_cases c : x = a / f ^ (i + 1)
        · refine absurd (mem_ended.mpr (.inr ⟨i, hi2, by omega, ?_⟩)) hn
          rw [e, c]
        · omega
    · rintro ⟨i, x, e, hi, a1, a2⟩
      have hle : a / f ^ (i + 1) ≤ (a + 1) / f ^ (i + 1) := Nat.div_le_div_right (by omega)
      refine ⟨(h.iff k).mpr ⟨i, x, e, by omega, by omega, a2⟩, fun z => ?_⟩
      rcases mem_ended.mp z with ⟨_, z⟩ | ⟨j, hj, hne, z⟩
      · rw [e] at z
        have z : (i : Int) > lv2 := z
        omega
      · obtain ⟨e1, e2⟩ := nkN_inj (e.symm.trans z)
        subst e1
        omega
/-! ### the plain law: whose page is whose -/
def numsL (n : Nat) : List Int := (List.range n).map fun i : Nat => (i : Int)
theorem numsL_succ (n : Nat) : numsL (n + 1) = numsL n ++ [(n : Int)] := by unfold numsL; rw [List.range_succ, List.map_append]; rfl
theorem mem_numsL {n : Nat} {c : Int} : c ∈ numsL n ↔ 0 ≤ c ∧ c < n := by
  unfold numsL
  rw [List.mem_map]
  constructor
  · rintro ⟨i, hi, rfl⟩
    have := List.mem_range.mp hi
    omega
  · rintro ⟨h1, h2⟩
    exact ⟨c.toNat, List.mem_range.mpr (by omega), by omega⟩
theorem numsL_nd (n : Nat) : (numsL n).Nodup := by
  unfold numsL
  exact List.pairwise_map.mpr (List.nodup_range.imp fun h z => h (by omega))
/-- every page is in one place, those at x are in hand -/
structure Own (S : Sx) (x : List Int) : Prop where
  pm : ∀ c : Int, x.count c + S.heap.count c + (S.nodes.map (·.2)).count c + S.log.count c + S.waiting.count c + S.free.count c = (numsL S.taken).count c
  cn : S.changed.Nodup
  cs : ∀ c ∈ S.changed, 0 ≤ c ∧ c < S.taken
theorem Own.rng {S : Sx} {x : List Int} (h : Own S x) {c : Int} (hc : 0 < x.count c + S.heap.count c + (S.nodes.map (·.2)).count c) : 0 ≤ c ∧ c < S.taken := by
  have := h.pm c
  have h2 : 0 < (numsL S.taken).count c := by omega
  exact mem_numsL.mp (List.count_pos_iff.mp h2)
theorem last_split {l : List Int} (h : l ≠ []) : l.dropLast ++ [l.getLastD 0] = l := by
  have e : l.getLastD 0 = l.getLast h := by rw [List.getLastD_eq_getLast?, List.getLast?_eq_some_getLast h]; rfl
  rw [e]
  exact List.dropLast_concat_getLast h
theorem own_ev {S : Sx} {x : List Int} (h : Own S x) (k : Str) (p : Int) (r : Ro) : Own (S.ev k p r) x := ⟨h.pm, h.cn, h.cs⟩
theorem own_take {S : Sx} {x : List Int} (h : Own S x) (r : Ro) : Own (S.takeS r) (S.takeP :: x) := by
  unfold Sx.takeS
  refine own_ev ?_ _ _ _
  unfold Sx.taking Sx.takeP
  by_cases c : S.free = []
  · rw [if_pos c, if_pos c]
    refine ⟨fun d => ?_, h.cn, fun d hd => ?_⟩
    · have := h.pm d
      rw [numsL_succ, List.count_append, List.count_cons, ← this]
      have e : [(S.taken : Int)].count d = if ((S.taken : Int) == d) = true then 1 else 0 := by rw [List.count_cons]; simp
      rw [e]
      dsimp only
      omega
    · have := h.cs d hd
      show 0 ≤ d ∧ d < ((S.taken + 1 : Nat) : Int)
      omega
  · rw [if_neg c, if_neg c]
    refine ⟨fun d => ?_, h.cn, h.cs⟩
    have := h.pm d
    have e : S.free.count d = S.free.dropLast.count d + [S.free.getLastD 0].count d := by rw [← List.count_append, last_split c]
    have e2 : [S.free.getLastD 0].count d = if (S.free.getLastD 0 == d) = true then 1 else 0 := by rw [List.count_cons]; simp
    rw [List.count_cons]
    dsimp only
    omega
theorem take_taken (S : Sx) (r : Ro) : (S.takeS r).taken ≤ S.taken + 1 := by unfold Sx.takeS Sx.taking Sx.ev; split <;> simp
theorem take_evs (S : Sx) (r : Ro) : (S.takeS r).evs.length = S.evs.length + 1 := by unfold Sx.takeS Sx.taking Sx.ev; split <;> simp
theorem take_same (S : Sx) (r : Ro) : (S.takeS r).heap = S.heap ∧ (S.takeS r).nodes = S.nodes ∧ (S.takeS r).log = S.log ∧ (S.takeS r).done = S.done ∧ (S.takeS r).oldest = S.oldest ∧ (S.takeS r).top = S.top := by
  unfold Sx.takeS Sx.taking Sx.ev; split <;> exact ⟨rfl, rfl, rfl, rfl, rfl, rfl⟩
theorem count_snoc (l : List Int) (q d : Int) : (l ++ [q]).count d = l.count d + if (q == d) = true then 1 else 0 := by rw [List.count_append, List.count_cons]; simp
theorem own_heap {S : Sx} {x : List Int} {q : Int} (h : Own S (q :: x)) : Own { S with heap := S.heap ++ [q] } x := by
  refine ⟨fun d => ?_, h.cn, h.cs⟩
  have := h.pm d
  rw [List.count_cons] at this
  dsimp only
  rw [count_snoc]
  omega
theorem own_log {S : Sx} {x : List Int} {q : Int} (h : Own S (q :: x)) : Own { S with log := S.log ++ [q] } x := by
  refine ⟨fun d => ?_, h.cn, h.cs⟩
  have := h.pm d
  rw [List.count_cons] at this
  dsimp only
  rw [count_snoc]
  omega
theorem aput_new {l : List (NK × Int)} {k : NK} {v : Int} (h : k ∉ l.map (·.1)) : aput l k v = l ++ [(k, v)] := by
  unfold aput
  rw [if_neg]
  intro z
  obtain ⟨e, he, z⟩ := List.any_eq_true.mp z
  exact h (List.mem_map.mpr ⟨e, he, of_decide_eq_true z⟩)
theorem own_node {S : Sx} {x : List Int} {q : Int} {k : NK} (h : Own S (q :: x)) (hk : k ∉ S.nodes.map (·.1)) : Own { S with nodes := aput S.nodes k q } x := by
  refine ⟨fun d => ?_, h.cn, h.cs⟩
  have := h.pm d
  rw [List.count_cons] at this
  dsimp only
  rw [aput_new hk, List.map_append]
  show _ + _ + List.count d (S.nodes.map (·.2) ++ [q]) + _ + _ + _ = _
  rw [count_snoc]
  omega
theorem cput_nd {l : List Int} {p : Int} (h : l.Nodup) : (cput l p).Nodup := by
  unfold cput
  split
  · exact h
  · refine List.nodup_append.mpr ⟨h, by simp, fun a ha b hb e => ?_⟩
    rw [List.mem_singleton.mp hb] at e
    subst e
    contradiction
theorem mem_cput {l : List Int} {p c : Int} (h : c ∈ cput l p) : c ∈ l ∨ c = p := by
  unfold cput at h
  split at h
  · exact .inl h
  · rcases List.mem_append.mp h with h | h
    · exact .inl h
    · exact .inr (List.mem_singleton.mp h)
theorem own_mark {S : Sx} {x : List Int} {q : Int} (h : Own S x) (hq : 0 ≤ q ∧ q < S.taken) : Own (S.mark q) x := by
  refine ⟨h.pm, cput_nd h.cn, fun c hc => ?_⟩
  rcases mem_cput hc with hc | rfl
  · exact h.cs c hc
  · exact hq
theorem aget_in {l : List (NK × Int)} {k : NK} {v : Int} (h : aget l k = some v) : v ∈ l.map (·.2) := by
  unfold aget at h
  obtain ⟨e, he, rfl⟩ := Option.map_eq_some_iff.mp h
  exact List.mem_map.mpr ⟨e, List.mem_of_find?_eq_some he, rfl⟩
theorem own_change {S : Sx} {x : List Int} (h : Own S x) (k : NK) : Own (S.change k) x := by
  unfold Sx.change
  split
  · exact h
  · rename_i v hv
    refine own_mark h (h.rng (c := v) ?_)
    have : 0 < (S.nodes.map (·.2)).count v := List.count_pos_iff.mpr (aget_in hv)
    omega
theorem change_same (S : Sx) (k : NK) : (S.change k).heap = S.heap ∧ (S.change k).nodes = S.nodes ∧ (S.change k).log = S.log ∧ (S.change k).done = S.done ∧ (S.change k).oldest = S.oldest ∧ (S.change k).top = S.top ∧ (S.change k).taken = S.taken ∧ (S.change k).evs = S.evs := by
  unfold Sx.change
  split <;> exact ⟨rfl, rfl, rfl, rfl, rfl, rfl, rfl, rfl⟩
theorem own_give {S : Sx} {x : List Int} {q : Int} (h : Own S (q :: x)) (r : Ro) : Own (S.give q r) x := by
  unfold Sx.give
  refine own_ev (S := { S with changed := cdrop S.changed q, waiting := S.waiting ++ [q] }) ⟨fun d => ?_, List.Pairwise.filter _ h.cn, fun c hc => h.cs c (List.mem_filter.mp hc).1⟩ _ _ _
  have := h.pm d
  rw [List.count_cons] at this
  dsimp only
  rw [count_snoc]
  omega
theorem own_pop {S : Sx} {x : List Int} (h : Own S x) (hh : S.heap ≠ []) : Own { S with heap := S.heap.tail } (S.heap.headD 0 :: x) := by
  refine ⟨fun d => ?_, h.cn, h.cs⟩
  have := h.pm d
  cases q : S.heap with
  | nil => exact absurd q hh
  | cons y ys =>
    rw [q, List.count_cons] at this
    rw [List.count_cons]
    show List.count d x + (if (y == d) = true then 1 else 0) + List.count d ys + List.count d (S.nodes.map (·.2)) + List.count d S.log + List.count d S.waiting + List.count d S.free = List.count d (numsL S.taken)
    omega
theorem drop_count {k : NK} {v d : Int} : ∀ {l : List (NK × Int)}, (l.map (·.1)).Nodup → aget l k = some v → (l.map (·.2)).count d = ((adrop l k).map (·.2)).count d + if (v == d) = true then 1 else 0
  | [], _, h => by cases h
  | e :: l, nd, h => by
    rw [List.map_cons, List.nodup_cons] at nd
    unfold aget at h
    rw [List.find?_cons] at h
    by_cases c : e.1 = k
    · rw [decide_eq_true c] at h
      have h : e.2 = v := Option.some.inj h
      have e1 : adrop (e :: l) k = l := by
        unfold adrop
        rw [List.filter_cons_of_neg (by simpa using c)]
        refine List.filter_eq_self.mpr fun y hy => decide_eq_true fun z => nd.1 ?_
        rw [c, ← z]
        exact List.mem_map.mpr ⟨y, hy, rfl⟩
      rw [e1, List.map_cons, List.count_cons, h]
    · rw [decide_eq_false c] at h
      have ih := drop_count (d := d) nd.2 h
      have e1 : adrop (e :: l) k = e :: adrop l k := by
        unfold adrop
        rw [List.filter_cons_of_pos (by simpa using c)]
      rw [e1, List.map_cons, List.map_cons, List.count_cons, List.count_cons, ih]
      omega
theorem aget_memP {l : List (NK × Int)} {k : NK} (h : k ∈ l.map (·.1)) : ∃ v, aget l k = some v := by
  cases q : aget l k with
  | some v => exact ⟨v, rfl⟩
  | none => exact absurd h (aget_none.mp (by rw [q]; rfl))
theorem own_drop {S : Sx} {x : List Int} {k : NK} {v : Int} (h : Own S x) (nd : (S.nodes.map (·.1)).Nodup) (hv : aget S.nodes k = some v) : Own { S with nodes := adrop S.nodes k } (v :: x) := by
  refine ⟨fun d => ?_, h.cn, h.cs⟩
  have := h.pm d
  have e := drop_count (d := d) nd hv
  rw [List.count_cons]
  dsimp only
  omega
theorem adrop_keys (l : List (NK × Int)) (k : NK) : (adrop l k).map (·.1) = (l.map (·.1)).filter fun j => decide (j ≠ k) := by
  unfold adrop
  rw [List.filter_map]
  rfl
/-! the doings as a whole -/
theorem own_begin1 {S : Sx} {x : List Int} {k : NK} (h : Own S x) (hk : k ∉ S.nodes.map (·.1)) : Own (S.begin1 k) x := by
  unfold Sx.begin1
  refine own_change ?_ _
  have e := (take_same S (.nd k.1 k.2)).2.1
  have h2 := own_node (k := k) (own_take h (.nd k.1 k.2)) (by rw [e]; exact hk)
  rw [e] at h2
  exact h2
/-- what stays -/
structure Stay (S T : Sx) : Prop where
  heap : T.heap = S.heap
  log : T.log = S.log
  done : T.done = S.done
  oldest : T.oldest = S.oldest
  top : T.top = S.top
theorem Stay.trans {S T U : Sx} (a : Stay S T) (b : Stay T U) : Stay S U := ⟨b.heap.trans a.heap, b.log.trans a.log, b.done.trans a.done, b.oldest.trans a.oldest, b.top.trans a.top⟩
theorem stay_change (S : Sx) (k : NK) : Stay S (S.change k) := by
  obtain ⟨h1, h2, h3, h4, h5, h6, _⟩ := change_same S k
  exact ⟨h1, h3, h4, h5, h6⟩
theorem begin1_facts (S : Sx) (k : NK) : Stay S (S.begin1 k) ∧ (S.begin1 k).nodes = aput S.nodes k S.takeP ∧ (S.begin1 k).taken ≤ S.taken + 1 ∧ (S.begin1 k).evs.length = S.evs.length + 1 := by
  unfold Sx.begin1
  generalize hT : ({ S.takeS (.nd k.1 k.2) with nodes := aput S.nodes k S.takeP } : Sx) = T
  obtain ⟨h1, h2, h3, h4, h5, h6⟩ := take_same S (.nd k.1 k.2)
  have s := stay_change T k
  have c := change_same T k
  refine ⟨Stay.trans (T := T) ?_ s, ?_, ?_, ?_⟩
  · subst hT; exact ⟨h1, h3, h4, h5, h6⟩
  · rw [c.2.1]; subst hT; rfl
  · rw [c.2.2.2.2.2.2.1]; subst hT; exact take_taken S (.nd k.1 k.2)
  · rw [c.2.2.2.2.2.2.2]; subst hT; exact take_evs S (.nd k.1 k.2)
theorem begins_facts : ∀ (l : List NK) (S : Sx) (x : List Int), Own S x → l.Nodup → (∀ k ∈ l, k ∉ S.nodes.map (·.1)) →
    Own (l.foldl Sx.begin1 S) x ∧ Stay S (l.foldl Sx.begin1 S) ∧ (l.foldl Sx.begin1 S).nodes.map (·.1) = S.nodes.map (·.1) ++ l ∧ (l.foldl Sx.begin1 S).taken ≤ S.taken + l.length ∧ (l.foldl Sx.begin1 S).evs.length = S.evs.length + l.length
  | [], S, x, h, _, _ => ⟨h, ⟨rfl, rfl, rfl, rfl, rfl⟩, by simp, Nat.le_refl _, rfl⟩
  | k :: l, S, x, h, nd, hn => by
    have hk := hn k List.mem_cons_self
    rw [List.nodup_cons] at nd
    obtain ⟨f1, f2, f3, f4⟩ := begin1_facts S k
    have e : (S.begin1 k).nodes.map (·.1) = S.nodes.map (·.1) ++ [k] := by rw [f2, aput_new hk, List.map_append]; rfl
    obtain ⟨g1, g2, g3, g4, g5⟩ := begins_facts l (S.begin1 k) x (own_begin1 h hk) nd.2 (fun j hj z => by
      rw [e] at z
      rcases List.mem_append.mp z with z | z
      · exact hn j (List.mem_cons_of_mem _ hj) z
      · rw [List.mem_singleton.mp z] at hj; exact nd.1 hj)
    rw [List.foldl_cons, List.length_cons]
    refine ⟨g1, f1.trans g2, ?_, by omega, by omega⟩
    rw [g3, e, List.append_assoc]
    rfl
theorem changes_facts (g : NK → NK) : ∀ (l : List NK) (S : Sx) (x : List Int), Own S x →
    Own (l.foldl (fun T k => T.change (g k)) S) x ∧ Stay S (l.foldl (fun T k => T.change (g k)) S) ∧ (l.foldl (fun T k => T.change (g k)) S).nodes = S.nodes ∧ (l.foldl (fun T k => T.change (g k)) S).taken = S.taken ∧ (l.foldl (fun T k => T.change (g k)) S).evs = S.evs
  | [], S, x, h => ⟨h, ⟨rfl, rfl, rfl, rfl, rfl⟩, rfl, rfl, rfl⟩
  | k :: l, S, x, h => by
    obtain ⟨c1, c2, c3, c4, c5, c6, c7, c8⟩ := change_same S (g k)
    obtain ⟨g1, g2, g3, g4, g5⟩ := changes_facts g l (S.change (g k)) x (own_change h (g k))
    rw [List.foldl_cons]
    exact ⟨g1, (stay_change S (g k)).trans g2, g3.trans c2, g4.trans c7, g5.trans c8⟩
theorem end1_facts {S : Sx} {x : List Int} {k : NK} (h : Own S x) (nd : (S.nodes.map (·.1)).Nodup) (hk : k ∈ S.nodes.map (·.1)) :
    Own (S.end1 k) x ∧ Stay S (S.end1 k) ∧ (S.end1 k).nodes = adrop S.nodes k ∧ (S.end1 k).taken = S.taken ∧ (S.end1 k).evs.length = S.evs.length + 1 := by
  obtain ⟨v, hv⟩ := aget_memP hk
  unfold Sx.end1
  rw [hv]
  refine ⟨own_give (own_drop h nd hv) _, ⟨rfl, rfl, rfl, rfl, rfl⟩, rfl, rfl, ?_⟩
  unfold Sx.give Sx.ev
  simp
theorem ends_facts : ∀ (l : List NK) (S : Sx) (x : List Int), Own S x → (S.nodes.map (·.1)).Nodup → l.Nodup → (∀ k ∈ l, k ∈ S.nodes.map (·.1)) →
    Own (l.foldl Sx.end1 S) x ∧ Stay S (l.foldl Sx.end1 S) ∧ ((l.foldl Sx.end1 S).nodes.map (·.1)).Nodup ∧ (∀ k, k ∈ (l.foldl Sx.end1 S).nodes.map (·.1) ↔ k ∈ S.nodes.map (·.1) ∧ k ∉ l) ∧ (l.foldl Sx.end1 S).taken = S.taken ∧ (l.foldl Sx.end1 S).evs.length = S.evs.length + l.length
  | [], S, x, h, nd, _, _ => ⟨h, ⟨rfl, rfl, rfl, rfl, rfl⟩, nd, fun k => by simp, rfl, rfl⟩
  | k :: l, S, x, h, nd, ln, hs => by
    rw [List.nodup_cons] at ln
    obtain ⟨f1, f2, f3, f4, f5⟩ := end1_facts h nd (hs k List.mem_cons_self)
    have ek : (S.end1 k).nodes.map (·.1) = (S.nodes.map (·.1)).filter fun j => decide (j ≠ k) := by rw [f3, adrop_keys]
    have nd1 : ((S.end1 k).nodes.map (·.1)).Nodup := by rw [ek]; exact List.Pairwise.filter _ nd
    obtain ⟨g1, g2, g3, g4, g5, g6⟩ := ends_facts l (S.end1 k) x f1 nd1 ln.2 (fun j hj => by
      rw [ek, List.mem_filter]
      exact ⟨hs j (List.mem_cons_of_mem _ hj), decide_eq_true fun z => ln.1 (z ▸ hj)⟩)
    rw [List.foldl_cons, List.length_cons]
    refine ⟨g1, f2.trans g2, g3, fun j => ?_, g5.trans f4, by omega⟩
    rw [g4 j, ek, List.mem_filter, decide_eq_true_iff, List.mem_cons, not_or, and_assoc]
theorem frees_eq : ∀ (l : List Int) (S : Sx), (l.foldl Sx.free1 S).free = S.free ++ l ∧ (l.foldl Sx.free1 S).heap = S.heap ∧ (l.foldl Sx.free1 S).nodes = S.nodes ∧ (l.foldl Sx.free1 S).taken = S.taken ∧ (l.foldl Sx.free1 S).changed = S.changed ∧ (l.foldl Sx.free1 S).done = S.done ∧ (l.foldl Sx.free1 S).oldest = S.oldest ∧ (l.foldl Sx.free1 S).top = S.top
  | [], S => ⟨by simp, rfl, rfl, rfl, rfl, rfl, rfl, rfl⟩
  | q :: l, S => by
    obtain ⟨h1, h2, h3, h4, h5, h6, h7, h8⟩ := frees_eq l (S.free1 q)
    rw [List.foldl_cons]
    refine ⟨?_, h2, h3, h4, h5, h6, h7, h8⟩
    rw [h1]
    show (S.free ++ [q]) ++ l = _
    rw [List.append_assoc]
    rfl
theorem frees_evs : ∀ (l : List Int) (S : Sx), (l.foldl Sx.free1 S).evs.length = S.evs.length + l.length
  | [], S => rfl
  | q :: l, S => by
    rw [List.foldl_cons, frees_evs l (S.free1 q), List.length_cons]
    unfold Sx.free1 Sx.ev
    simp only [List.length_append, List.length_cons, List.length_nil]
    omega
theorem writes_eq : ∀ (l : List Int) (S : Sx), ∃ es, l.foldl (fun T p => T.ev "write" p .no) S = { S with evs := es } ∧ es.length = S.evs.length + l.length
  | [], S => ⟨S.evs, rfl, rfl⟩
  | q :: l, S => by
    obtain ⟨es, e, el⟩ := writes_eq l (S.ev "write" q .no)
    refine ⟨es, by rw [List.foldl_cons, e]; rfl, ?_⟩
    rw [el, List.length_cons]
    unfold Sx.ev
    simp only [List.length_append, List.length_cons, List.length_nil]
    omega
theorem checkpoint_facts {S : Sx} (h : Own S []) : Own S.checkpoint [] ∧ S.checkpoint.heap = S.heap ∧ S.checkpoint.nodes = S.nodes ∧ S.checkpoint.taken = S.taken ∧ S.checkpoint.done = S.done ∧ S.checkpoint.oldest = S.oldest ∧ S.checkpoint.top = S.top ∧ S.checkpoint.evs.length = S.evs.length + S.changed.length + S.waiting.length + S.log.length := by
  obtain ⟨es, e, el⟩ := writes_eq (sortI S.changed) S
  have ec : S.checkpoint = { (S.waiting ++ S.log).foldl Sx.free1 { ({ S with evs := es } : Sx) with changed := [] } with waiting := [], log := [] } := by
    unfold Sx.checkpoint
    rw [e]
  obtain ⟨h1, h2, h3, h4, h5, h6, h7, h8⟩ := frees_eq (S.waiting ++ S.log) { ({ S with evs := es } : Sx) with changed := [] }
  have h9 := frees_evs (S.waiting ++ S.log) { ({ S with evs := es } : Sx) with changed := [] }
  rw [ec]
  generalize (S.waiting ++ S.log).foldl Sx.free1 { ({ S with evs := es } : Sx) with changed := [] } = T at h1 h2 h3 h4 h5 h6 h7 h8 h9
  refine ⟨⟨fun d => ?_, ?_, fun c hc => ?_⟩, h2, h3, h4, h6, h7, h8, ?_⟩
  · have := h.pm d
    dsimp only
    rw [h1, h2, h3, h4]
    dsimp only
    rw [List.count_append, List.count_append]
    simp only [List.count_nil] at this ⊢
    omega
  · dsimp only
    rw [h5]
    exact List.nodup_nil
  · dsimp only at hc
    rw [h5] at hc
    cases hc
  · dsimp only at h9 ⊢
    rw [h9, el, (sortI_perm S.changed).length_eq, List.length_append]
    omega
/-! ### the plain law: how many pages -/
theorem nd_sub_len {α : Type} [DecidableEq α] : ∀ {l m : List α}, l.Nodup → (∀ x ∈ l, x ∈ m) → l.length ≤ m.length
  | [], m, _, _ => Nat.zero_le _
  | a :: l, m, nd, h => by
    rw [List.nodup_cons] at nd
    have ha := h a List.mem_cons_self
    have ih := nd_sub_len (m := m.erase a) nd.2 fun x hx => (List.mem_erase_of_ne (fun z : x = a => nd.1 (by rw [← z]; exact hx))).mpr (h x (List.mem_cons_of_mem _ hx))
    rw [List.length_erase_of_mem ha] at ih
    have := List.length_pos_of_mem ha
    rw [List.length_cons]
    omega
/-- no fresh page, or the list is empty -/
def Tf (T0 : Nat) (S : Sx) : Prop := S.taken = T0 ∨ S.free = []
theorem tf_take {T0 : Nat} {S : Sx} (h : Tf T0 S) (r : Ro) : Tf T0 (S.takeS r) := by
  unfold Tf Sx.takeS Sx.taking Sx.ev at *
  by_cases c : S.free = []
  · rw [if_pos c]; exact .inr c
  · rw [if_neg c]; exact .inl (h.resolve_right c)
theorem tf_of {T0 : Nat} {S T : Sx} (h : Tf T0 S) (e1 : T.taken = S.taken) (e2 : T.free = S.free) : Tf T0 T := by unfold Tf at *; rw [e1, e2]; exact h
theorem change_more (S : Sx) (k : NK) : (S.change k).free = S.free ∧ (S.change k).waiting = S.waiting := by
  unfold Sx.change
  split <;> exact ⟨rfl, rfl⟩
theorem take_wait (S : Sx) (r : Ro) : (S.takeS r).waiting = S.waiting := by unfold Sx.takeS Sx.taking Sx.ev; split <;> rfl
theorem tf_change {T0 : Nat} {S : Sx} (h : Tf T0 S) (k : NK) : Tf T0 (S.change k) := tf_of h (change_same S k).2.2.2.2.2.2.1 (change_more S k).1
theorem tf_begin1 {T0 : Nat} {S : Sx} (h : Tf T0 S) (k : NK) : Tf T0 (S.begin1 k) := by
  have e : S.begin1 k = ({ S.takeS (.nd k.1 k.2) with nodes := aput S.nodes k S.takeP } : Sx).change k := rfl
  rw [e]
  refine tf_change (tf_of (tf_take h (.nd k.1 k.2)) ?_ ?_) k <;> rfl
theorem begin1_wait (S : Sx) (k : NK) : (S.begin1 k).waiting = S.waiting := by
  have e : S.begin1 k = ({ S.takeS (.nd k.1 k.2) with nodes := aput S.nodes k S.takeP } : Sx).change k := rfl
  rw [e, (change_more _ k).2]
  exact take_wait S (.nd k.1 k.2)
theorem tf_begins {T0 : Nat} : ∀ (l : List NK) {S : Sx}, Tf T0 S → Tf T0 (l.foldl Sx.begin1 S) ∧ (l.foldl Sx.begin1 S).waiting = S.waiting
  | [], S, h => ⟨h, rfl⟩
  | k :: l, S, h => by
    obtain ⟨h1, h2⟩ := tf_begins l (tf_begin1 h k)
    exact ⟨h1, h2.trans (begin1_wait S k)⟩
theorem tf_changes {T0 : Nat} (g : NK → NK) : ∀ (l : List NK) {S : Sx}, Tf T0 S → Tf T0 (l.foldl (fun T k => T.change (g k)) S) ∧ (l.foldl (fun T k => T.change (g k)) S).waiting = S.waiting
  | [], S, h => ⟨h, rfl⟩
  | k :: l, S, h => by
    obtain ⟨h1, h2⟩ := tf_changes g l (tf_change h (g k))
    exact ⟨h1, h2.trans (change_more S (g k)).2⟩
theorem changes_wait (g : NK → NK) : ∀ (l : List NK) (S : Sx), (l.foldl (fun T k => T.change (g k)) S).waiting = S.waiting
  | [], S => rfl
  | k :: l, S => (changes_wait g l (S.change (g k))).trans (change_more S (g k)).2
theorem tf_beginPage {T0 : Nat} {S : Sx} {f : Nat} (h : Tf T0 S) : Tf T0 (S.beginPage f) ∧ (S.beginPage f).waiting = S.waiting := by
  unfold Sx.beginPage
  dsimp only
  generalize begunL f S.oldest (S.oldest + S.heap.length) S.top S.nodes (rlv f S.oldest (S.oldest + S.heap.length) + 1) = bg
  generalize (rlv f S.oldest (S.oldest + S.heap.length) : Nat) = lv
  generalize ((0 : Int), (((S.oldest + S.heap.length) / f : Nat) : Int)) = k0
  generalize (Ro.hp ((S.oldest + S.heap.length : Nat) : Int)) = r
  have h1 := tf_take h r
  obtain ⟨h2, w2⟩ := tf_begins bg (S := { ({ S.takeS r with heap := S.heap ++ [S.takeP] } : Sx).mark S.takeP with top := (lv : Int) }) (tf_of h1 rfl rfl)
  obtain ⟨h3, w3⟩ := tf_changes (upK f) bg (tf_change h2 k0)
  refine ⟨h3, ?_⟩
  rw [w3, (change_more _ k0).2, w2]
  exact take_wait S r
theorem end1_wait (S : Sx) (k : NK) : (S.end1 k).waiting.length = S.waiting.length + 1 := by
  unfold Sx.end1 Sx.give Sx.ev
  simp
theorem ends_wait : ∀ (l : List NK) (S : Sx), (l.foldl Sx.end1 S).waiting.length = S.waiting.length + l.length
  | [], S => rfl
  | k :: l, S => by
    rw [List.foldl_cons, ends_wait l (S.end1 k), end1_wait, List.length_cons]
    omega
theorem endPage_wait (S : Sx) (f : Nat) : (S.endPage f).waiting.length = S.waiting.length + 1 + (endedL f S.oldest S.nodes (S.endLv f)).length := by
  unfold Sx.endPage
  dsimp only
  generalize S.endLv f = lv
  generalize endedL f S.oldest S.nodes lv = ed
  rw [changes_wait, (change_more _ _).2, ends_wait, (sortP_perm ed).length_eq]
  unfold Sx.give Sx.ev
  simp
theorem check_wait (S : Sx) : S.checkpoint.waiting = [] ∧ S.checkpoint.log = [] := ⟨rfl, rfl⟩
/-- the nodes over so many pages -/
theorem div_gap {a b d : Nat} (hd : 0 < d) (hab : a ≤ b) : b / d ≤ a / d + (b - a) / d + 1 := by
  have h1 : b / d < a / d + (b - a) / d + 2 := by
    rw [Nat.div_lt_iff_lt_mul hd]
    have e1 := Nat.lt_mul_div_succ a hd
    have e2 := Nat.lt_mul_div_succ (b - a) hd
    have e : (a / d + (b - a) / d + 2) * d = d * (a / d + 1) + d * ((b - a) / d + 1) := by
      rw [Nat.mul_comm, ← Nat.mul_add]
      congr 1
      omega
    omega
  omega
def capN (i : Nat) : Nat := 100 / 2 ^ (i + 1) + 2
def lvlL (f a b i : Nat) : List NK := (List.range (b / f ^ (i + 1) - a / f ^ (i + 1) + 1)).map fun j => nkN i (a / f ^ (i + 1) + j)
theorem lvl_cap {f a b : Nat} (hf : 2 ≤ f) (hab : a ≤ b) (hb : b - a ≤ 100) (i : Nat) : (lvlL f a b i).length ≤ capN i := by
  unfold lvlL capN
  rw [List.length_map, List.length_range]
  have hw : 0 < f ^ (i + 1) := Nat.pow_pos (by omega)
  have h1 := div_gap hw hab
  have h2 : (b - a) / f ^ (i + 1) ≤ 100 / 2 ^ (i + 1) := by
    have h3 : (b - a) / f ^ (i + 1) ≤ (b - a) / 2 ^ (i + 1) := Nat.div_le_div_left (Nat.pow_le_pow_left hf _) (Nat.pow_pos (by decide))
    exact Nat.le_trans h3 (Nat.div_le_div_right hb)
  generalize 100 / 2 ^ (i + 1) = l at h2 ⊢
  generalize (b - a) / f ^ (i + 1) = j at h1 h2
  generalize b / f ^ (i + 1) = y at h1 ⊢
  generalize a / f ^ (i + 1) = z at h1 ⊢
  omega
theorem lvls_cap {f a b : Nat} (hf : 2 ≤ f) (hab : a ≤ b) (hb : b - a ≤ 100) : ∀ m, ((List.range m).flatMap (lvlL f a b)).length ≤ ((List.range m).map capN).sum
  | 0 => Nat.le_refl _
  | m + 1 => by
    have h1 := lvls_cap hf hab hb m
    have h2 := lvl_cap hf hab hb m
    rw [List.range_succ, List.flatMap_append, List.length_append, List.map_append, List.sum_append]
    simp only [List.flatMap_cons, List.flatMap_nil, List.append_nil, List.map_cons, List.map_nil, List.sum_cons, List.sum_nil]
    omega
theorem cap_mono : ∀ {m k : Nat}, m ≤ k → ((List.range m).map capN).sum ≤ ((List.range k).map capN).sum := by
  intro m k h
  induction k with
  | zero => rw [Nat.le_zero.mp h]; exact Nat.le_refl _
  | succ k ih =>
    by_cases c : m = k + 1
    · rw [c]; exact Nat.le_refl _
    · have := ih (by omega)
      rw [List.range_succ, List.map_append, List.sum_append]
      omega
theorem KeyAt.len {f a b lv : Nat} {ks : List NK} (h : KeyAt f a b lv ks) (hf : 2 ≤ f) (hab : a ≤ b) (hb : b - a ≤ 100) (hl : lv ≤ 8) : ks.length ≤ 115 := by
  have h1 := nd_sub_len (m := (List.range (lv + 1)).flatMap (lvlL f a b)) h.nd fun k hk => by
    obtain ⟨i, x, e, hi, a1, a2⟩ := (h.iff k).mp hk
    refine List.mem_flatMap.mpr ⟨i, List.mem_range.mpr (by omega), List.mem_map.mpr ⟨x - a / f ^ (i + 1), List.mem_range.mpr (by omega), ?_⟩⟩
    rw [e, show a / f ^ (i + 1) + (x - a / f ^ (i + 1)) = x by omega]
  have h2 := lvls_cap hf hab hb (lv + 1)
  have h3 := cap_mono (show lv + 1 ≤ 9 by omega)
  have h4 : ((List.range 9).map capN).sum = 115 := by decide
  omega
theorem two_len (g h : Nat → NK) : ∀ m, ((List.range m).flatMap fun i => [g i, h i]).length = 2 * m
  | 0 => rfl
  | m + 1 => by
    rw [List.range_succ, List.flatMap_append, List.length_append, two_len g h m]
    simp only [List.flatMap_cons, List.flatMap_nil, List.append_nil, List.length_cons, List.length_nil]
    omega
theorem ended_len {f a b lv lv2 : Nat} {ns : List (NK × Int)} (hf : 2 ≤ f) (h : KeyAt f a b lv (ns.map (·.1))) (h1 : IsHt f a b (lv + 1)) (h2 : IsHt f (a + 1) b (lv2 + 1)) (hab : a < b) (en : (endedL f a ns (lv2 : Int)).Nodup) :
    (endedL f a ns (lv2 : Int)).length ≤ 2 * (lv + 1) := by
  have hlv := isht_down h1 h2 (Nat.le_succ a) hab
  have := nd_sub_len (m := (List.range (lv + 1)).flatMap fun i => [nkN i (a / f ^ (i + 1)), nkN i (a / f ^ (i + 1) + 1)]) en fun k hk => by
    rcases mem_ended.mp hk with ⟨hk, hl⟩ | ⟨i, hi, _, e⟩
    · obtain ⟨i, x, e, hi, a1, a2⟩ := (h.iff k).mp hk
      have hl : (i : Int) > lv2 := by rw [e] at hl; exact hl
      have ho := isht_over h2 (show lv2 + 1 ≤ i + 1 by omega)
      have hw : 0 < f ^ (i + 1) := Nat.pow_pos (by omega)
      refine List.mem_flatMap.mpr ⟨i, List.mem_range.mpr (by omega), ?_⟩
      rcases div_up a hw with q | q
      · rw [e, show x = a / f ^ (i + 1) by omega]; exact List.mem_cons_self
      · by_cases c : x = a / f ^ (i + 1)
        · rw [e, c]; exact List.mem_cons_self
        · rw [e, show x = a / f ^ (i + 1) + 1 by omega]; exact List.mem_cons_of_mem _ List.mem_cons_self
    · exact List.mem_flatMap.mpr ⟨i, List.mem_range.mpr (by omega), by rw [e]; exact List.mem_cons_self⟩
  rw [two_len] at this
  exact this
/-! ### the plain law: the rows -/
theorem numsL_len (n : Nat) : (numsL n).length = n := by unfold numsL; rw [List.length_map, List.length_range]
theorem Own.perm {S : Sx} (h : Own S []) : (S.heap ++ ((S.nodes.map (·.2)) ++ (S.log ++ (S.waiting ++ S.free)))).Perm (numsL S.taken) := by
  refine List.perm_iff_count.mpr fun d => ?_
  have := h.pm d
  simp only [List.count_append, List.count_nil] at this ⊢
  omega
theorem Own.len {S : Sx} (h : Own S []) : S.heap.length + S.nodes.length + S.log.length + S.waiting.length + S.free.length = S.taken := by
  have := h.perm.length_eq
  simp only [List.length_append, List.length_map, numsL_len] at this
  omega
theorem Own.chg {S : Sx} {x : List Int} (h : Own S x) : S.changed.length ≤ S.taken := by
  have := nd_sub_len (m := numsL S.taken) h.cn fun c hc => mem_numsL.mpr (h.cs c hc)
  rw [numsL_len] at this
  exact this
theorem Own.sz {S : Sx} (h : Own S []) : S.sz ≤ 2 * S.taken + S.evs.length := by
  have h1 := h.len
  have h2 := h.chg
  unfold Sx.sz
  omega
theorem beginPage_facts {S : Sx} {f : Nat} (h : Own S []) : Own (S.beginPage f) [] ∧
    (S.beginPage f).taken ≤ S.taken + 1 + (begunL f S.oldest (S.oldest + S.heap.length) S.top S.nodes (rlv f S.oldest (S.oldest + S.heap.length) + 1)).length ∧
    (S.beginPage f).evs.length = S.evs.length + 1 + (begunL f S.oldest (S.oldest + S.heap.length) S.top S.nodes (rlv f S.oldest (S.oldest + S.heap.length) + 1)).length ∧
    (S.beginPage f).heap.length = S.heap.length + 1 ∧ (S.beginPage f).log = S.log ∧ (S.beginPage f).done = S.done ∧ (S.beginPage f).oldest = S.oldest ∧ (S.beginPage f).top = (rlv f S.oldest (S.oldest + S.heap.length) : Nat) ∧
    (S.beginPage f).nodes.map (·.1) = S.nodes.map (·.1) ++ begunL f S.oldest (S.oldest + S.heap.length) S.top S.nodes (rlv f S.oldest (S.oldest + S.heap.length) + 1) := by
  unfold Sx.beginPage
  dsimp only
  generalize hbg : begunL f S.oldest (S.oldest + S.heap.length) S.top S.nodes (rlv f S.oldest (S.oldest + S.heap.length) + 1) = bg
  have hbn : bg.Nodup := by rw [← hbg]; exact begunL_nd _ _ _ _ _ _
  have hbo : ∀ k ∈ bg, k ∉ S.nodes.map (·.1) := fun k hk => by rw [← hbg] at hk; exact begunL_out hk
  generalize (rlv f S.oldest (S.oldest + S.heap.length) : Nat) = lv
  generalize ((0 : Int), (((S.oldest + S.heap.length) / f : Nat) : Int)) = k0
  generalize (Ro.hp ((S.oldest + S.heap.length : Nat) : Int)) = r
  clear hbg
  obtain ⟨a1, a2, a3, a4, a5, a6⟩ := take_same S r
  have o1 := own_take h r
  have o2 := own_heap o1
  rw [a1] at o2
  generalize hT : ({ S.takeS r with heap := S.heap ++ [S.takeP] } : Sx) = T at o2 ⊢
  have tT : T.taken ≤ S.taken + 1 := by subst hT; exact take_taken S r
  have eT : T.evs.length = S.evs.length + 1 := by subst hT; exact take_evs S r
  have o3 := own_mark (q := S.takeP) o2 (o2.rng (by
    have : 0 < T.heap.count S.takeP := List.count_pos_iff.mpr (by subst hT; exact List.mem_append_right _ List.mem_cons_self)
    omega))
  generalize hU : ({ T.mark S.takeP with top := (lv : Int) } : Sx) = U
  have oU : Own U [] := by subst hU; exact ⟨o3.pm, o3.cn, o3.cs⟩
  have nU : U.nodes = S.nodes := by subst hU hT; exact a2
  obtain ⟨b1, b2, b3, b4, b5⟩ := begins_facts bg U [] oU hbn (by rw [nU]; exact hbo)
  generalize bg.foldl Sx.begin1 U = V at b1 b2 b3 b4 b5
  obtain ⟨c1, c2, c3, c4, c5, c6, c7, c8⟩ := change_same V k0
  obtain ⟨d1, d2, d3, d4, d5⟩ := changes_facts (upK f) bg (V.change k0) [] (own_change b1 k0)
  have st := (b2.trans (stay_change V k0)).trans d2
  have tU : U.taken = T.taken := by subst hU; rfl
  have eU : U.evs = T.evs := by subst hU; rfl
  refine ⟨d1, ?_, ?_, ?_, ?_, ?_, ?_, ?_, ?_⟩
  · rw [d4, c7]; omega
  · rw [d5, c8, b5, eU, eT]
  · rw [st.heap]; subst hU hT; simp [Sx.mark]
  · rw [st.log]; subst hU hT; exact a3
  · rw [st.done]; subst hU hT; exact a4
  · rw [st.oldest]; subst hU hT; exact a5
  · rw [st.top]; subst hU; rfl
  · rw [d3, c2, b3, nU]
theorem endPage_facts {S : Sx} {f : Nat} (h : Own S []) (hh : S.heap ≠ []) (nd : (S.nodes.map (·.1)).Nodup) (en : (endedL f S.oldest S.nodes (S.endLv f)).Nodup) (es : ∀ k ∈ endedL f S.oldest S.nodes (S.endLv f), k ∈ S.nodes.map (·.1)) :
    Own (S.endPage f) [] ∧ (S.endPage f).taken = S.taken ∧ (S.endPage f).evs.length = S.evs.length + 1 + (endedL f S.oldest S.nodes (S.endLv f)).length ∧ (S.endPage f).heap = S.heap.tail ∧ (S.endPage f).log = S.log ∧ (S.endPage f).done = S.done ∧
    (S.endPage f).oldest = S.oldest + 1 ∧ (S.endPage f).top = S.endLv f ∧ ((S.endPage f).nodes.map (·.1)).Nodup ∧ ∀ k, k ∈ (S.endPage f).nodes.map (·.1) ↔ k ∈ S.nodes.map (·.1) ∧ k ∉ endedL f S.oldest S.nodes (S.endLv f) := by
  unfold Sx.endPage
  dsimp only
  generalize hlv : S.endLv f = lv at en es
  generalize hen : endedL f S.oldest S.nodes lv = ed at en es
  generalize ((0 : Int), ((S.oldest / f : Nat) : Int)) = k0
  generalize (Ro.hp (S.oldest : Int)) = r
  have o1 := own_give (own_pop h hh) r
  generalize hU : ({ ({ S with heap := S.heap.tail } : Sx).give (S.heap.headD 0) r with oldest := S.oldest + 1, top := lv } : Sx) = U
  have oU : Own U [] := by subst hU; exact ⟨o1.pm, o1.cn, o1.cs⟩
  have nU : U.nodes = S.nodes := by subst hU; rfl
  obtain ⟨b1, b2, b3, b4, b5, b6⟩ := ends_facts (sortP ed) U [] oU (by rw [nU]; exact nd) ((sortP_perm ed).nodup_iff.mpr en) (fun k hk => by rw [nU]; exact es k ((sortP_perm ed).mem_iff.mp hk))
  generalize (sortP ed).foldl Sx.end1 U = V at b1 b2 b3 b4 b5 b6
  obtain ⟨c1, c2, c3, c4, c5, c6, c7, c8⟩ := change_same V k0
  obtain ⟨d1, d2, d3, d4, d5⟩ := changes_facts (upK f) ed (V.change k0) [] (own_change b1 k0)
  have st := (b2.trans (stay_change V k0)).trans d2
  refine ⟨d1, ?_, ?_, ?_, ?_, ?_, ?_, ?_, ?_, fun k => ?_⟩
  · rw [d4, c7, b5]; subst hU; rfl
  · rw [d5, c8, b6, (sortP_perm ed).length_eq]
    subst hU
    unfold Sx.give Sx.ev
    simp only [List.length_append, List.length_cons, List.length_nil]
  · rw [st.heap]; subst hU; rfl
  · rw [st.log]; subst hU; rfl
  · rw [st.done]; subst hU; rfl
  · rw [st.oldest]; subst hU; rfl
  · rw [st.top]; subst hU; rfl
  · rw [d3, c2]; exact b3
  · rw [d3, c2, b4 k, nU, (sortP_perm ed).mem_iff]
structure Inv2 (p : Prt) (S : Sx) (n : Nat) : Prop where
  dn : S.done = n
  own : Own S []
  tk : S.taken ≤ 1000
  wt : S.waiting.length ≤ 19 * (n % p.every.toNat)
  ll : S.log.length ≤ n % p.every.toNat
  ob : S.oldest + S.heap.length = if n = 0 then 0 else pgN p (n - 1) + 1
  ol : S.oldest = pgN p (n - p.keep.toNat)
  lg : n % p.every.toNat ≠ 0 → S.log ≠ []
  k0 : n = 0 → S.nodes = [] ∧ S.top = -1
  kk : 0 < n → ∃ lv : Nat, S.top = lv ∧ IsHt p.fan.toNat S.oldest (pgN p (n - 1)) (lv + 1) ∧ KeyAt p.fan.toNat S.oldest (pgN p (n - 1)) lv (S.nodes.map (·.1))
theorem rowL_facts {p : Prt} {S : Sx} {n : Nat} (I : Inv2 p S n) : Own (({ S with evs := [] } : Sx).rowL p) [] ∧ (({ S with evs := [] } : Sx).rowL p).taken ≤ S.taken + 1 ∧ (({ S with evs := [] } : Sx).rowL p).evs.length ≤ 1 ∧
    (({ S with evs := [] } : Sx).rowL p).heap = S.heap ∧ (({ S with evs := [] } : Sx).rowL p).nodes = S.nodes ∧ (({ S with evs := [] } : Sx).rowL p).done = S.done ∧ (({ S with evs := [] } : Sx).rowL p).oldest = S.oldest ∧ (({ S with evs := [] } : Sx).rowL p).top = S.top ∧ (({ S with evs := [] } : Sx).rowL p).log ≠ [] ∧ Tf S.taken (({ S with evs := [] } : Sx).rowL p) ∧ (({ S with evs := [] } : Sx).rowL p).waiting = S.waiting ∧ (({ S with evs := [] } : Sx).rowL p).log.length ≤ S.log.length + 1 := by
  have h0 : Own ({ S with evs := [] } : Sx) [] := ⟨I.own.pm, I.own.cn, I.own.cs⟩
  have hd := I.dn
  have hl := I.lg
  unfold Sx.rowL
  by_cases c : (({ S with evs := [] } : Sx).done % p.every.toNat) % p.rec_.toNat = 0
  · rw [if_pos c]
    generalize hT : ({ S with evs := [] } : Sx) = T at h0 ⊢
    generalize (Ro.lg ((T.done % p.every.toNat / p.rec_.toNat : Nat) : Int)) = r
    obtain ⟨a1, a2, a3, a4, a5, a6⟩ := take_same T r
    have o2 := own_log (own_take h0 r)
    rw [a3] at o2
    have t1 := take_taken T r
    have t2 := take_evs T r
    have et : T.taken = S.taken := by subst hT; rfl
    have ee : T.evs.length = 0 := by subst hT; rfl
    have tfT : Tf S.taken (T.takeS r) := tf_take (by subst hT; exact .inl rfl) r
    refine ⟨o2, ?_, ?_, ?_, ?_, ?_, ?_, ?_, ?_, tfT, ?_, ?_⟩
    · show (T.takeS r).taken ≤ _; omega
    · show (T.takeS r).evs.length ≤ _; omega
    · show (T.takeS r).heap = _; rw [a1]; subst hT; rfl
    · show (T.takeS r).nodes = _; rw [a2]; subst hT; rfl
    · show (T.takeS r).done = _; rw [a4]; subst hT; rfl
    · show (T.takeS r).oldest = _; rw [a5]; subst hT; rfl
    · show (T.takeS r).top = _; rw [a6]; subst hT; rfl
    · show T.log ++ [T.takeP] ≠ []; simp
    · show (T.takeS r).waiting = _; rw [take_wait]; subst hT; rfl
    · show (T.log ++ [T.takeP]).length ≤ _; subst hT; simp
  · rw [if_neg c]
    refine ⟨h0, Nat.le_succ _, Nat.zero_le _, rfl, rfl, rfl, rfl, rfl, hl fun z => c ?_, .inl rfl, rfl, Nat.le_succ _⟩
    show S.done % p.every.toNat % p.rec_.toNat = 0
    rw [hd, z, Nat.zero_mod]
theorem pg_next {p : Prt} (ok : p.Ok) {n : Nat} (h : 0 < n) : (n = startN p (pgN p (n - 1) + 1) → pgN p n = pgN p (n - 1) + 1) ∧ (n ≠ startN p (pgN p (n - 1) + 1) → pgN p n = pgN p (n - 1)) := by
  obtain ⟨h1, h2⟩ := pgN_on ok (n - 1)
  refine ⟨fun e => ?_, fun e => ?_⟩
  · generalize pgN p (n - 1) + 1 = m at e
    rw [e]
    exact pgN_start ok m
  · exact pgN_eq ok ⟨by omega, by omega⟩
theorem pg_gap {p : Prt} (ok : p.Ok) (a : Nat) : ∀ k, pgN p (a + k) ≤ pgN p a + k
  | 0 => Nat.le_refl _
  | k + 1 => by
    have h1 := pg_gap ok a k
    obtain ⟨h2, h3⟩ := pg_next ok (show 0 < a + (k + 1) by omega)
    rw [show a + (k + 1) - 1 = a + k by omega] at h2 h3
    by_cases c : a + (k + 1) = startN p (pgN p (a + k) + 1)
    · rw [h2 c]; omega
    · rw [h3 c]; omega
theorem lv_small {f a b : Nat} (hf : 2 ≤ f) (h : a ≤ b) (hb : b < 511) : rlv f a b ≤ 8 := by
  have h1 := rlv_pow hf h (show b < 511 from hb)
  by_cases c : rlv f a b ≤ 8
  · exact c
  · have h2 := Nat.pow_le_pow_left hf (rlv f a b)
    have h3 := Nat.pow_le_pow_right (show 0 < 2 by decide) (show 9 ≤ rlv f a b by omega)
    have h4 : (2 : Nat) ^ 9 = 512 := by decide
    omega
theorem start_zero (p : Prt) : startN p 0 = 0 := rfl
theorem rowH_facts {p : Prt} {S : Sx} {n : Nat} (ok : p.Ok) (I : Inv2 p S n) (hn : n < 500) : Own (({ S with evs := [] } : Sx).rowH p) [] ∧ (({ S with evs := [] } : Sx).rowH p).taken ≤ 1000 ∧ (({ S with evs := [] } : Sx).rowH p).evs.length ≤ 23 ∧
    (({ S with evs := [] } : Sx).rowH p).done = n ∧ (({ S with evs := [] } : Sx).rowH p).oldest = S.oldest ∧ (({ S with evs := [] } : Sx).rowH p).log ≠ [] ∧ (({ S with evs := [] } : Sx).rowH p).oldest + (({ S with evs := [] } : Sx).rowH p).heap.length = pgN p n + 1 ∧
    ∃ lv : Nat, (({ S with evs := [] } : Sx).rowH p).top = lv ∧ IsHt p.fan.toNat S.oldest (pgN p n) (lv + 1) ∧ KeyAt p.fan.toNat S.oldest (pgN p n) lv ((({ S with evs := [] } : Sx).rowH p).nodes.map (·.1)) ∧
    lv ≤ 8 ∧ (({ S with evs := [] } : Sx).rowH p).waiting = S.waiting ∧ (({ S with evs := [] } : Sx).rowH p).log.length ≤ S.log.length + 1 := by
  have hf2 : 2 ≤ p.fan.toNat := fan2 ok
  have hd := I.dn
  have hob := I.ob
  have hol := I.ol
  have hk0 := I.k0
  have hkk := I.kk
  have hpn : pgN p n ≤ n := pgN_le ok n
  have hon : S.oldest ≤ pgN p n := by rw [hol]; exact pgN_mono ok (by omega)
  have hgap : pgN p n ≤ S.oldest + 100 := by
    rw [hol]
    have hk := ok.k
    by_cases z : n ≤ p.keep.toNat
    · have := pg_gap ok (n - p.keep.toNat) n
      rw [show n - p.keep.toNat = 0 by omega, Nat.zero_add] at this
      rw [show n - p.keep.toNat = 0 by omega]
      omega
    · have := pg_gap ok (n - p.keep.toNat) p.keep.toNat
      rw [show n - p.keep.toNat + p.keep.toNat = n by omega] at this
      omega
  have hev : n % p.every.toNat ≤ 39 := by
    have he := ok.e
    have := Nat.mod_lt n (show 0 < p.every.toNat by omega)
    omega
  have hwt := I.wt
  have hll := I.ll
  have htk := I.tk
  have tot : ∀ {X : Sx} {lv : Nat}, Own X [] → Tf S.taken X → X.oldest + X.heap.length = pgN p n + 1 → X.oldest = S.oldest → KeyAt p.fan.toNat S.oldest (pgN p n) lv (X.nodes.map (·.1)) → lv ≤ 8 → X.waiting = S.waiting → X.log.length ≤ S.log.length + 1 → X.taken ≤ 1000 := by
    intro X lv xo xt xh xe xk xl xw xg
    have h1 := xo.len
    have h2 := xk.len hf2 hon (by omega) xl
    rw [List.length_map] at h2
    rw [xw] at h1
    rcases xt with h | h
    · omega
    · rw [h, List.length_nil] at h1
      omega
  obtain ⟨l1, l2, l3, l4, l5, l6, l7, l8, l9, l10, l11, l12⟩ := rowL_facts I
  have eH : ({ S with evs := [] } : Sx).rowH p = (fun U : Sx => if n = startN p (U.oldest + U.heap.length) then U.beginPage p.fan.toNat else U) ((({ S with evs := [] } : Sx).rowL p).ev "record" ((({ S with evs := [] } : Sx).rowL p).log.getLastD 0) (.row n)) := by
    rw [← hd]
    rfl
  rw [eH]
  clear eH
  generalize (({ S with evs := [] } : Sx).rowL p) = T at l1 l2 l3 l4 l5 l6 l7 l8 l9 l10 l11 l12
  generalize hU : T.ev "record" (T.log.getLastD 0) (.row n) = U
  have oU : Own U [] := by subst hU; exact own_ev l1 _ _ _
  have u2 : U.taken = T.taken := by subst hU; rfl
  have u3 : U.evs.length = T.evs.length + 1 := by subst hU; simp [Sx.ev]
  have u4 : U.heap = S.heap := by subst hU; exact l4
  have u5 : U.nodes = S.nodes := by subst hU; exact l5
  have u6 : U.done = n := by subst hU; exact l6.trans hd
  have u7 : U.oldest = S.oldest := by subst hU; exact l7
  have u8 : U.top = S.top := by subst hU; exact l8
  have u9 : U.log ≠ [] := by subst hU; exact l9
  have u10 : Tf S.taken U := by subst hU; exact l10
  have u11 : U.waiting = S.waiting := by subst hU; exact l11
  have u12 : U.log.length ≤ S.log.length + 1 := by subst hU; exact l12
  dsimp only
  clear hU l1 l4 l5 l6 l7 l8 l9 l10 l11 l12
  by_cases c : n = startN p (U.oldest + U.heap.length)
  · rw [if_pos c]
    obtain ⟨b1, b2, b3, b4, b5, b6, b7, b8, b9⟩ := beginPage_facts (f := p.fan.toNat) oU
    obtain ⟨b10, b11⟩ := tf_beginPage (f := p.fan.toNat) u10
    rw [u4, u5, u7, u8] at b2 b3 b9
    rw [u4, u7] at b8 c
    have en : S.oldest + S.heap.length = pgN p n := by
      by_cases z : n = 0
      · rw [if_pos z] at hob
        rw [z] at hpn ⊢
        omega
      · rw [if_neg z] at hob
        rw [hob] at c ⊢
        exact ((pg_next ok (by omega)).1 c).symm
    rw [en] at b2 b3 b8 b9
    have hlv := lv_small hf2 hon (show pgN p n < 511 by omega)
    have his := rlv_is hf2 hon
    have hbl := begunL_le p.fan.toNat S.oldest (pgN p n) S.top S.nodes (rlv p.fan.toNat S.oldest (pgN p n) + 1)
    have hoh : (U.beginPage p.fan.toNat).oldest + (U.beginPage p.fan.toNat).heap.length = pgN p n + 1 := by rw [b7, b4, u7, u4]; omega
    have hlog : (U.beginPage p.fan.toNat).log.length ≤ S.log.length + 1 := by rw [b5]; exact u12
    suffices hk : KeyAt p.fan.toNat S.oldest (pgN p n) (rlv p.fan.toNat S.oldest (pgN p n)) ((U.beginPage p.fan.toNat).nodes.map (·.1)) from
      ⟨b1, tot b1 b10 hoh (b7.trans u7) hk hlv (b11.trans u11) hlog, by omega, b6.trans u6, b7.trans u7, by rw [b5]; exact u9, hoh, _, b8, his, hk, hlv, b11.trans u11, hlog⟩
    rw [b9]
    by_cases z : n = 0
    · obtain ⟨z1, z2⟩ := hk0 z
      have e0 : pgN p n = S.oldest := by omega
      rw [z1, z2, e0]
      have e1 : rlv p.fan.toNat S.oldest S.oldest = 0 := by
        have h1 := rlv_is hf2 (Nat.le_refl S.oldest)
        have h2 : IsHt p.fan.toNat S.oldest S.oldest 1 := ⟨Nat.le_refl _, rfl, fun i h1 h2 => by omega⟩
        have := h1.uniq h2
        omega
      rw [e1]
      exact keys_begin0
    · obtain ⟨lv, t1, t2, t3⟩ := hkk (by omega)
      rw [if_neg z] at hob
      have eb : pgN p n = pgN p (n - 1) + 1 := by omega
      have ho1 : S.oldest ≤ pgN p (n - 1) := by
        rw [hol]
        have := ok.k
        exact pgN_mono ok (by omega)
      rw [t1, eb]
      rw [eb] at his
      exact keys_begin hf2 t3 t2 his ho1
  · rw [if_neg c]
    rw [u4, u7] at c
    have z : n ≠ 0 := fun z => by
      rw [if_pos z] at hob
      rw [hob, z] at c
      exact c (start_zero p).symm
    rw [if_neg z] at hob
    rw [hob] at c
    have en := (pg_next ok (show 0 < n by omega)).2 c
    obtain ⟨lv, t1, t2, t3⟩ := hkk (by omega)
    have hoh : U.oldest + U.heap.length = pgN p n + 1 := by rw [u7, u4]; omega
    have hk : KeyAt p.fan.toNat S.oldest (pgN p n) lv (U.nodes.map (·.1)) := by rw [en, u5]; exact t3
    have hht : IsHt p.fan.toNat S.oldest (pgN p n) (lv + 1) := by rw [en]; exact t2
    have hlv : lv ≤ 8 := by
      have e := (rlv_is hf2 hon).uniq hht
      have := lv_small hf2 hon (show pgN p n < 511 by omega)
      omega
    exact ⟨oU, tot oU u10 hoh u7 hk hlv u11 u12, by omega, u6, u7, u9, hoh, lv, by rw [u8]; exact t1, hht, hk, hlv, u11, u12⟩
theorem nodes_keys (S : Sx) : (S.nodes.map (·.1)).length = S.nodes.length := List.length_map _
/-- behind the put: the row's old page ends or stays -/
theorem rowE_facts {p : Prt} {S : Sx} {n : Nat} (ok : p.Ok) (I : Inv2 p S n) (hn : n < 500) :
    (n + 1 = startN p ((({ S with evs := [] } : Sx).rowB p).oldest + 1) + p.keep.toNat → EndOk (({ S with evs := [] } : Sx).rowB p) p.fan.toNat ∧ (({ S with evs := [] } : Sx).rowB p).oldest + (({ S with evs := [] } : Sx).rowB p).heap.length < 1000) ∧
    Own (({ S with evs := [] } : Sx).rowE p) [] ∧ (({ S with evs := [] } : Sx).rowE p).taken ≤ 1000 ∧ (({ S with evs := [] } : Sx).rowE p).evs.length ≤ 45 ∧ (({ S with evs := [] } : Sx).rowE p).waiting.length ≤ S.waiting.length + 19 ∧ (({ S with evs := [] } : Sx).rowE p).log.length ≤ S.log.length + 1 ∧
    (({ S with evs := [] } : Sx).rowE p).done = n ∧ (({ S with evs := [] } : Sx).rowE p).oldest = pgN p (n + 1 - p.keep.toNat) ∧ (({ S with evs := [] } : Sx).rowE p).log ≠ [] ∧ (({ S with evs := [] } : Sx).rowE p).oldest + (({ S with evs := [] } : Sx).rowE p).heap.length = pgN p n + 1 ∧
    ∃ lv : Nat, (({ S with evs := [] } : Sx).rowE p).top = lv ∧ IsHt p.fan.toNat (({ S with evs := [] } : Sx).rowE p).oldest (pgN p n) (lv + 1) ∧ KeyAt p.fan.toNat (({ S with evs := [] } : Sx).rowE p).oldest (pgN p n) lv ((({ S with evs := [] } : Sx).rowE p).nodes.map (·.1)) := by
  have hf2 : 2 ≤ p.fan.toNat := fan2 ok
  have hd := I.dn
  have hol := I.ol
  have hk := ok.k
  have hpn : pgN p n ≤ n := pgN_le ok n
  obtain ⟨h1, h2, h3, h4, h5, h6, h7, lv, h8, h9, h10, h11, h12, h13⟩ := rowH_facts ok I hn
  have hon : S.oldest ≤ pgN p n := by rw [hol]; exact pgN_mono ok (by omega)
  have eE : ({ S with evs := [] } : Sx).rowE p = (fun B : Sx => if n + 1 = startN p (B.oldest + 1) + p.keep.toNat then B.endPage p.fan.toNat else B) (({ S with evs := [] } : Sx).rowB p) := by
    rw [← hd]
    rfl
  have eB : ({ S with evs := [] } : Sx).rowB p = ((({ S with evs := [] } : Sx).rowH p).mark ((({ S with evs := [] } : Sx).rowH p).heap.getLastD 0)).ev "put" ((({ S with evs := [] } : Sx).rowH p).heap.getLastD 0) (.row n) := by
    rw [← hd]
    rfl
  rw [eE, eB]
  clear eE eB
  generalize ({ S with evs := [] } : Sx).rowH p = SH at h1 h2 h3 h4 h5 h6 h7 h8 h10 h12 h13
  have hne : SH.heap ≠ [] := fun z => by
    rw [z] at h7
    simp only [List.length_nil] at h7
    omega
  have hlast : SH.heap.getLastD 0 ∈ SH.heap := by
    have e := last_split hne
    rw [← e]
    rw [show (SH.heap.dropLast ++ [SH.heap.getLastD 0]).getLastD 0 = SH.heap.getLastD 0 by rw [e]]
    exact List.mem_append_right _ List.mem_cons_self
  have oB := own_ev (own_mark (q := SH.heap.getLastD 0) h1 (h1.rng (by
    have : 0 < SH.heap.count (SH.heap.getLastD 0) := List.count_pos_iff.mpr hlast
    omega))) "put" (SH.heap.getLastD 0) (.row n)
  generalize hB : (SH.mark (SH.heap.getLastD 0)).ev "put" (SH.heap.getLastD 0) (.row n) = B at oB
  have b2 : B.taken = SH.taken := by subst hB; rfl
  have b3 : B.evs.length = SH.evs.length + 1 := by subst hB; simp [Sx.ev, Sx.mark]
  have b4 : B.done = n := by subst hB; exact h4
  have b5 : B.oldest = S.oldest := by subst hB; exact h5
  have b6 : B.log ≠ [] := by subst hB; exact h6
  have b7 : B.oldest + B.heap.length = pgN p n + 1 := by subst hB; exact h7
  have b8 : B.top = lv := by subst hB; exact h8
  have b10 : KeyAt p.fan.toNat S.oldest (pgN p n) lv (B.nodes.map (·.1)) := by subst hB; exact h10
  have bne : B.heap ≠ [] := by subst hB; exact hne
  have b12 : B.waiting = S.waiting := by subst hB; exact h12
  have b13 : B.log.length ≤ S.log.length + 1 := by subst hB; exact h13
  clear hB h1 h4 h5 h6 h7 h8 h10 h12 h13 hlast hne
  dsimp only
  have key : n + 1 = startN p (B.oldest + 1) + p.keep.toNat → B.oldest + 1 = pgN p (n + 1 - p.keep.toNat) ∧ B.oldest + 1 ≤ pgN p n := fun c => by
    have e : n + 1 - p.keep.toNat = startN p (B.oldest + 1) := by omega
    have e2 := pgN_start ok (B.oldest + 1)
    rw [← e] at e2
    exact ⟨e2.symm, by rw [← e2]; exact pgN_mono ok (by omega)⟩
  have elv : B.oldest + 1 ≤ pgN p n → B.endLv p.fan.toNat = (rlv p.fan.toNat (B.oldest + 1) (pgN p n) : Nat) := fun c => by
    unfold Sx.endLv
    rw [if_neg, show B.oldest + B.heap.length - 1 = pgN p n by omega]
    intro z
    have : B.heap.tail.length = 0 := by rw [z]; rfl
    rw [List.length_tail] at this
    omega
  have ee : n + 1 = startN p (B.oldest + 1) + p.keep.toNat → EndOk B p.fan.toNat := fun c => by
    obtain ⟨k1, k2⟩ := key c
    have e := elv k2
    have his := rlv_is hf2 k2
    rw [b5] at his e
    refine ⟨bne, ?_, ?_⟩
    · rw [b5, e]; exact ended_nd b10.nd
    · rw [b5, e]; exact (keys_end hf2 b10 h9 his (by omega)).1
  refine ⟨fun c => ⟨ee c, by omega⟩, ?_⟩
  by_cases c : n + 1 = startN p (B.oldest + 1) + p.keep.toNat
  · rw [if_pos c]
    obtain ⟨k1, k2⟩ := key c
    have e := elv k2
    have his := rlv_is hf2 k2
    obtain ⟨e1, e2, e3⟩ := ee c
    obtain ⟨c1, c2, c3, c4, c5, c6, c7, c8, c9, c10⟩ := endPage_facts (f := p.fan.toNat) oB bne b10.nd e2 e3
    have hen : (endedL p.fan.toNat B.oldest B.nodes (B.endLv p.fan.toNat)).length ≤ 18 := by
      rw [e] at e2 ⊢
      have bk := b10
      have b9 := h9
      rw [← b5] at bk b9
      have := ended_len hf2 bk b9 his (by omega) e2
      omega
    have hwt := endPage_wait B p.fan.toNat
    rw [b12] at hwt
    refine ⟨c1, by omega, by omega, by omega, by rw [c5]; exact b13, c6.trans b4, by rw [c7, k1], by rw [c5]; exact b6, ?_, _, c8.trans e, by rw [c7]; exact his, ?_⟩
    · rw [c7, c4, List.length_tail]
      have : 0 < B.heap.length := List.length_pos_iff.mpr bne
      omega
    · rw [c7]
      rw [e] at c10
      rw [b5] at c10 his k2 ⊢
      exact (keys_end hf2 b10 h9 his (by omega)).2 _ c9 c10
  · rw [if_neg c]
    refine ⟨oB, by omega, by omega, by rw [b12]; omega, b13, b4, ?_, b6, b7, lv, b8, by rw [b5]; exact h9, by rw [b5]; exact b10⟩
    rw [b5, hol]
    by_cases d : n + 1 ≤ p.keep.toNat
    · rw [show n - p.keep.toNat = 0 by omega, show n + 1 - p.keep.toNat = 0 by omega]
    · obtain ⟨q1, q2⟩ := pgN_on ok (n - p.keep.toNat)
      rw [b5, hol] at c
      exact (pgN_eq ok ⟨by omega, by omega⟩).symm
theorem row_step {p : Prt} {S : Sx} {n : Nat} (ok : p.Ok) (I : Inv2 p S n) (hn : n < 500) : RowOk p { S with evs := [] } ∧ Inv2 p (S.step p) (n + 1) ∧ (S.step p).evs.length ≤ 21000 := by
  have hd := I.dn
  have hob := I.ob
  have htk := I.tk
  have hlg := I.lg
  have hk := ok.k
  have hpn : pgN p n ≤ n := pgN_le ok n
  have hon : S.oldest ≤ pgN p n := by rw [I.ol]; exact pgN_mono ok (by omega)
  have hob2 : S.oldest + S.heap.length ≤ 501 := by
    rw [hob]
    split
    · omega
    · have := pgN_le ok (n - 1)
      omega
  obtain ⟨l1, l2, l3, l4, l5, l6, l7, l8, l9, _, _, _⟩ := rowL_facts I
  obtain ⟨h1, h2, h3, h4, h5, h6, h7, lv, h8, h9, h10, _, _, _⟩ := rowH_facts ok I hn
  obtain ⟨e0, e1, e2, e3, e11, e12, e4, e5, e6, e7, lv2, e8, e9, e10⟩ := rowE_facts ok I hn
  have hwt := I.wt
  have hll := I.ll
  have o0 : Own ({ S with evs := [] } : Sx) [] := ⟨I.own.pm, I.own.cn, I.own.cs⟩
  have z0 := o0.sz
  have zL := l1.sz
  have zH := h1.sz
  have zE := e1.sz
  have hlen := e1.len
  have hchg := e1.chg
  refine ⟨⟨?_, ?_, fun c => hlg fun z => c ?_, ?_, ?_, ?_, ?_, fun c => ?_, ?_, ?_⟩, ?_⟩
  · have : ({ S with evs := [] } : Sx).taken = S.taken := rfl
    have : ({ S with evs := [] } : Sx).evs.length = 0 := rfl
    omega
  · show S.oldest + S.heap.length < 512
    omega
  · show S.done % p.every.toNat % p.rec_.toNat = 0
    rw [hd, z, Nat.zero_mod]
  · intro z
    rw [z] at h7
    simp only [List.length_nil] at h7
    omega
  · unfold Sx.rowR
    rw [sz_ev]
    omega
  · show (({ S with evs := [] } : Sx).rowL p).oldest + (({ S with evs := [] } : Sx).rowL p).heap.length < 512
    rw [l7, l4]
    omega
  · omega
  · exact e0 (by rw [← c, ← hd])
  · omega
  · rw [e4]; exact hd.symm
  · unfold Sx.step
    have eP : ({ S with evs := [] } : Sx).putRow p = (fun E : Sx => if (n + 1) % p.every.toNat = 0 then ({ E with done := n + 1 } : Sx).checkpoint else { E with done := n + 1 }) (({ S with evs := [] } : Sx).rowE p) := by
      rw [← hd]
      rfl
    rw [eP]
    clear eP e0
    generalize ({ S with evs := [] } : Sx).rowE p = SE at e1 e2 e3 e4 e5 e6 e7 e8 e9 e10 e11 e12 hlen hchg
    dsimp only
    by_cases c : (n + 1) % p.every.toNat = 0
    · rw [if_pos c]
      have oE : Own ({ SE with done := n + 1 } : Sx) [] := ⟨e1.pm, e1.cn, e1.cs⟩
      obtain ⟨c1, c2, c3, c4, c5, c6, c7, c8⟩ := checkpoint_facts oE
      refine ⟨⟨c5, c1, ?_, Nat.zero_le _, Nat.zero_le _, ?_, ?_, fun z => absurd c z, fun z => absurd z (by omega), fun _ => ⟨lv2, c7.trans e8, ?_, ?_⟩⟩, ?_⟩
      · rw [c4]; show SE.taken ≤ _; omega
      · rw [c6, c2, if_neg (by omega)]; exact e7
      · rw [c6]; exact e5
      · rw [c6]; exact e9
      · rw [c6, c3]; exact e10
      · rw [c8]; show SE.evs.length + SE.changed.length + SE.waiting.length + SE.log.length ≤ 21000; omega
    · rw [if_neg c]
      have hmod : (n + 1) % p.every.toNat = n % p.every.toNat + 1 := by
        have he := ok.e
        have hp : 0 < p.every.toNat := by omega
        have h1 := Nat.mod_lt n hp
        have h2 := Nat.add_mod n 1 p.every.toNat
        by_cases z : p.every.toNat = 1
        · rw [z] at c; exact absurd (Nat.mod_one _) c
        · rw [Nat.mod_eq_of_lt (show 1 < p.every.toNat by omega)] at h2
          by_cases y : n % p.every.toNat + 1 = p.every.toNat
          · rw [y, Nat.mod_self] at h2; exact absurd h2 c
          · rw [h2]; exact Nat.mod_eq_of_lt (by omega)
      refine ⟨⟨rfl, ⟨e1.pm, e1.cn, e1.cs⟩, ?_, ?_, ?_, ?_, e5, fun _ => e6, fun z => absurd z (by omega), fun _ => ⟨lv2, e8, e9, e10⟩⟩, ?_⟩
      · show SE.taken ≤ _; omega
      · show SE.waiting.length ≤ _; rw [hmod]; omega
      · show SE.log.length ≤ _; rw [hmod]; omega
      · show SE.oldest + SE.heap.length = _
        rw [if_neg (by omega)]; exact e7
      · show SE.evs.length ≤ 21000; omega
theorem inv_new (p : Prt) (ok : p.Ok) : Inv2 p Sx.new 0 := by
  refine ⟨rfl, ⟨fun c => rfl, List.nodup_nil, fun c hc => by cases hc⟩, Nat.zero_le _, Nat.zero_le _, Nat.zero_le _, rfl, ?_, fun h => absurd (Nat.zero_mod _) h, fun _ => ⟨rfl, rfl⟩, fun h => absurd h (by omega)⟩
  have := pgN_le ok (0 - p.keep.toNat)
  show 0 = _
  omega
theorem inv_rows {p : Prt} (ok : p.Ok) : ∀ n : Nat, n ≤ 500 → Inv2 p (Sx.rows p n) n ∧ (Sx.rows p n).evs.length ≤ 21000
  | 0, _ => ⟨inv_new p ok, Nat.zero_le _⟩
  | n + 1, h => (row_step ok (inv_rows ok n (by omega)).1 (by omega)).2
theorem Inv2.nd {p : Prt} {S : Sx} {n : Nat} (I : Inv2 p S n) : (S.nodes.map (·.1)).Nodup := by
  by_cases z : n = 0
  · rw [(I.k0 z).1]; exact List.nodup_nil
  · obtain ⟨lv, _, _, h⟩ := I.kk (by omega)
    exact h.nd
theorem aget_is {l : List (NK × Int)} (h : (l.map (·.1)).Nodup) {e : NK × Int} (he : e ∈ l) : aget l e.1 = some e.2 := by
  induction l with
  | nil => cases he
  | cons x l ih =>
    rw [List.map_cons, List.nodup_cons] at h
    unfold aget at ih ⊢
    rw [List.find?_cons]
    rcases List.mem_cons.mp he with rfl | he
    · rw [decide_eq_true rfl]; rfl
    · rw [decide_eq_false (fun z => h.1 (by rw [z]; exact List.mem_map.mpr ⟨e, he, rfl⟩))]
      exact ih h.2 he
@[irreducible] def sp_check_moment : Sp := fun vs H Q _ => ∃ i : Int, vs = [.int i] ∧ (0 ≤ i ∧ i ≤ 1000000000000000000000000000000) ∧ Q .non H
theorem use_check_moment {i : Int} {H : Hp} {Q : VK} {E : XK} (h : 0 ≤ i ∧ i ≤ 1000000000000000000000000000000) (q : Q .non H) : sp_check_moment [.int i] H Q E := by unfold sp_check_moment; exact ⟨i, rfl, h, q⟩
theorem b_check_moment {K : PySem.W.Frag} {fd : FuncData} (F : F_check_moment K fd) : Binds K fd P_check_moment [] := FunD.bindsN F fun _ _ _ _ _ _ us hl => match us, hl with | [_], _ => rfl
theorem ok_check_moment (T : Txt K mg D) : FnOk P w K mg base CX0 3 (He.fAd K ("check_moment", none)) (D D_check_moment) P_check_moment sp_check_moment := by
  refine T.d_check_moment.ok sc_check_moment (fun vs H Q E h => ?_) (fun cdv A outer s H vs Q E hr h => ?_)
  · unfold sp_check_moment at h
    first | (obtain ⟨rfl, _⟩ := h; rfl) | (obtain ⟨_, rfl, _⟩ := h; rfl) | (obtain ⟨_, _, rfl, _⟩ := h; rfl) | (obtain ⟨_, _, _, rfl, _⟩ := h; rfl) | (obtain ⟨_, _, _, _, rfl, _⟩ := h; rfl) | (obtain ⟨_, _, _, _, _, rfl, _⟩ := h; rfl) | (obtain ⟨_, _, _, _, _, _, rfl, _⟩ := h; rfl) | (obtain ⟨_, _, _, _, _, _, _, rfl, _⟩ := h; rfl) | (obtain ⟨_, _, _, _, _, _, _, _, rfl, _⟩ := h; rfl) | (obtain ⟨_, _, _, _, _, _, _, _, _, rfl, _⟩ := h; rfl) | (obtain ⟨_, _, _, _, _, _, _, _, _, _, rfl, _⟩ := h; rfl) | (obtain ⟨_, _, _, _, _, _, _, _, _, _, _, rfl, _⟩ := h; rfl)
  · refine ⟨_, PSs.nox (pss_one (ps_if (pt_not (pt_val (pe_call (ok_is_between T) (hr.mono (by decide)) rfl T.g_is_between T.d_is_between.kp (b_is_between T.d_is_between) .nil pass0 (pa_cons (pv 0) (pa_cons pe_int (pa_cons (pe_globi T.i_MOST_ROW) pa_nil)))))) (pss_one ps_never) pss_nil)), ?_⟩
    unfold sp_check_moment at h
    obtain ⟨i, rfl, h, q⟩ := h
    walk_at "rd"
    refine use_between ?_
    rw [decide_eq_true h]
    walk_at "rd"
    exact q

@[irreducible] def sp_check_row : Sp := fun vs H Q _ => ∃ i m : Int, vs = [.int i, .int m] ∧ (0 ≤ i ∧ i ≤ m - 1) ∧ Q .non H
theorem use_check_row {i m : Int} {H : Hp} {Q : VK} {E : XK} (h : 0 ≤ i ∧ i ≤ m - 1) (q : Q .non H) : sp_check_row [.int i, .int m] H Q E := by unfold sp_check_row; exact ⟨i, m, rfl, h, q⟩
theorem use_sl {K : PySem.W.Frag} {H : Hp} {a : Addr} {xs ys : List V} {lo hi : Option Int} {Q : VK} (h : SqL K H a xs) (e : cutV xs lo hi = ys) (k : ∀ p H', H p = none → Same H H' → H' p = some (.lst ys) → Q (.ref p) H') : rSlL K (.ref a) lo hi H Q := by
  subst e
  exact ⟨a, xs, rfl, h, fun p n => k p _ n (same_new n) upd_same⟩
theorem use_cat {K : PySem.W.Frag} {H : Hp} {a b : Addr} {xs zs : List V} {Q : VK} (h : SqL K H a xs) (h2 : SqL K H b zs) (hz : xs.length + zs.length ≤ 100000) (k : ∀ p H', H p = none → Same H H' → H' p = some (.lst (xs ++ zs)) → Q (.ref p) H') : rCatS K (.ref a) (.ref b) H Q :=
  ⟨a, b, xs, zs, rfl, rfl, h, h2, hz, k⟩
theorem dvi {i j : Int} (h : decide (V.int i = V.int j) = true) : i = j := by have := of_decide_eq_true h; injection this
theorem dvn {i j : Int} (h : ¬ decide (V.int i = V.int j) = true) : i ≠ j := fun z => h (decide_eq_true (congrArg V.int z))
theorem dct {p : Prop} [Decidable p] (h : decide p = true) : p := of_decide_eq_true h
theorem dcn {p : Prop} [Decidable p] (h : ¬ decide p = true) : ¬ p := fun z => h (decide_eq_true z)
theorem cut_to (xs : List V) (m : Nat) : cutV xs none (some (m : Int)) = xs.take m := by
  unfold cutV
  rw [HT.sIx_none, HT.sIx_nat, Nat.sub_zero, List.drop_zero]
  by_cases h : m ≤ xs.length
  · rw [Nat.min_eq_left h]
  · rw [Nat.min_eq_right (by omega), List.take_length, List.take_of_length_le (by omega)]
theorem cut_mid (xs : List V) (b e : Nat) (h : b ≤ xs.length) : cutV xs (some (b : Int)) (some (e : Int)) = (xs.take e).drop b := by
  unfold cutV
  rw [HT.sIx_nat, HT.sIx_nat, Nat.min_eq_left h, List.drop_take]
  by_cases he : e ≤ xs.length
  · rw [Nat.min_eq_left he]
  · rw [Nat.min_eq_right (by omega), List.take_of_length_le (by rw [List.length_drop]; omega), List.take_of_length_le (by rw [List.length_drop]; omega)]
theorem pt_ifE {X : Cx} {c a b : Expr} {pos : Pos} {t tA tB : TT} (hc : PT X c t) (ha : PT X a tA) (hb : PT X b tB) : PT X (.IfExp c a b pos) (fun σ H Q => t σ H fun d H1 => if d = true then tA σ H1 Q else tB σ H1 Q) := by
  refine ⟨fun pins s σ H Q I h => ?_⟩
  have e : PySem.isTrue (.IfExp c a b pos) X.env (eval (.IfExp c a b pos) X.env) = (PySem.isTrue c X.env (eval c X.env) >>= fun d => if d = true then PySem.isTrue a X.env (eval a X.env) else PySem.isTrue b X.env (eval b X.env)) := by rfl
  rw [e]
  refine wpAny_bind (thn (hc.run pins s σ H _ I h) fun d s1 ⟨H1, I1, q1⟩ => ?_)
  cases d with
  | true => exact ha.run pins s1 σ H1 Q I1 q1
  | false => exact hb.run pins s1 σ H1 Q I1 q1
@[irreducible] def sp_check_level : Sp := fun vs H Q _ => ∃ i : Int, vs = [.int i] ∧ (0 ≤ i ∧ i ≤ 110) ∧ Q .non H
theorem use_level {i : Int} {H : Hp} {Q : VK} {E : XK} (h : 0 ≤ i ∧ i ≤ 110) (q : Q .non H) : sp_check_level [.int i] H Q E := by unfold sp_check_level; exact ⟨i, rfl, h, q⟩
/-- the heap pages of rows b .. e - 1: the first one, and the one behind the last one -/
noncomputable def lvF (p : Prt) (b e : Nat) : Nat := if b = e then 0 else pgN p b
noncomputable def lvA (p : Prt) (b e : Nat) : Nat := if b = e then 0 else pgN p (e - 1) + 1
@[irreducible] def sp_pages_of (K : PySem.W.Frag) : Sp := fun vs H Q _ => ∃ (s : Addr) (p : Prt) (b e : Nat), vs = [.ref s, .int b, .int e] ∧ SetAt K H s p ∧ p.Ok ∧ b ≤ e ∧ ∀ q H', H q = none → Same H H' → H' q = some (.tup [.int (lvF p b e : Nat), .int (lvA p b e : Nat)]) → Q (.ref q) H'
theorem use_pages_of {K : PySem.W.Frag} {s : Addr} {p : Prt} {b e : Nat} {i j : Int} {H : Hp} {Q : VK} {E : XK} (hi : i = (b : Int)) (hj : j = (e : Int)) (hs : SetAt K H s p) (ok : p.Ok) (hbe : b ≤ e)
  (k : ∀ q H', H q = none → Same H H' → H' q = some (.tup [.int (lvF p b e : Nat), .int (lvA p b e : Nat)]) → Q (.ref q) H') : sp_pages_of K [.ref s, .int i, .int j] H Q E := by subst hi hj; unfold sp_pages_of; exact ⟨s, p, b, e, rfl, hs, ok, hbe, k⟩
@[irreducible] def sp_live (K : PySem.W.Frag) : Sp := fun vs H Q _ => ∃ (s : Addr) (p : Prt) (m : Nat), vs = [.ref s, .int m] ∧ SetAt K H s p ∧ p.Ok ∧ ∀ q H', H q = none → Same H H' → H' q = some (.tup [.int (lvF p (kbN p m) m : Nat), .int (lvA p (kbN p m) m : Nat)]) → Q (.ref q) H'
theorem use_live {K : PySem.W.Frag} {s : Addr} {p : Prt} {m : Nat} {i : Int} {H : Hp} {Q : VK} {E : XK} (hi : i = (m : Int)) (hs : SetAt K H s p) (ok : p.Ok)
  (k : ∀ q H', H q = none → Same H H' → H' q = some (.tup [.int (lvF p (kbN p m) m : Nat), .int (lvA p (kbN p m) m : Nat)]) → Q (.ref q) H') : sp_live K [.ref s, .int i] H Q E := by subst hi; unfold sp_live; exact ⟨s, p, m, rfl, hs, ok, k⟩
theorem ne_same {v : V} {H : Hp} {Q : VK} (h : scal v v = true) (q : Q (.bl false) H) : rNe v v H Q := by
  refine ⟨h, ?_⟩
  rw [decide_eq_true rfl]
  exact q
theorem iteNeS {v : V} {A B : Prop} (b : B) : if (!decide (v = v)) = true then A else B := by
  rw [decide_eq_true rfl]
  exact b
theorem neN_same {K : PySem.W.Frag} {H : Hp} {a b : Addr} {xs : List Int} {Q : VK} (h1 : H a = some (.tup (xs.map V.int))) (h2 : H b = some (.tup (xs.map V.int))) (q : Q (.bl false) H) : rNeN K (.ref a) (.ref b) H Q :=
  use_neN (.tup (SqT.of h1) (dp_pyi xs)) (.tup (SqT.of h2) (dp_pyi xs)) (nb_tup _) (nb_tup _) fun c hc => by
    cases c with
    | false => exact q
    | true => exact absurd rfl (hc.1 rfl)
theorem eqN_same {K : PySem.W.Frag} {H : Hp} {a b : Addr} {xs : List Int} {Q : VK} (h1 : H a = some (.tup (xs.map V.int))) (h2 : H b = some (.tup (xs.map V.int))) (q : Q (.bl true) H) : rEqN K (.ref a) (.ref b) H Q :=
  use_eqN (.tup (SqT.of h1) (dp_pyi xs)) (.tup (SqT.of h2) (dp_pyi xs)) (nb_tup _) (nb_tup _) fun c hc => by
    cases c with
    | true => exact q
    | false => exact absurd (hc.2 rfl) (by intro z; cases z)
theorem iteNe {v u : V} {A B : Prop} (h : v = u) (b : B) : if (!decide (v = u)) = true then A else B := by
  subst h
  exact iteNeS b
/-- pairs, as written tuples -/
def PrsL (H : Hp) : List V → List (Int × Int) → Prop
  | [], [] => True
  | x :: xs, p :: ps => (∃ a, x = .ref a ∧ H a = some (.tup [.int p.1, .int p.2])) ∧ PrsL H xs ps
  | _, _ => False
def KT (H H' : Hp) : Prop := ∀ a ys, H a = some (.tup ys) → H' a = some (.tup ys)
theorem PrsL.mono {H H' : Hp} (k : KT H H') : ∀ {xs : List V} {ps : List (Int × Int)}, PrsL H xs ps → PrsL H' xs ps
  | [], [], _ => True.intro
  | x :: xs, p :: ps, ⟨⟨a, e, h⟩, r⟩ => ⟨⟨a, e, k _ _ h⟩, PrsL.mono k r⟩
  | [], _ :: _, h => h.elim
  | _ :: _, [], h => h.elim
theorem PrsL.push {H : Hp} {a : Addr} {p : Int × Int} (ha : H a = some (.tup [.int p.1, .int p.2])) : ∀ {xs : List V} {ps : List (Int × Int)}, PrsL H xs ps → PrsL H (xs ++ [.ref a]) (ps ++ [p])
  | [], [], _ => ⟨⟨a, rfl, ha⟩, True.intro⟩
  | x :: xs, q :: ps, ⟨h, r⟩ => ⟨h, PrsL.push ha r⟩
  | [], _ :: _, h => h.elim
  | _ :: _, [], h => h.elim
theorem PrsL.len {H : Hp} : ∀ {xs : List V} {ps : List (Int × Int)}, PrsL H xs ps → xs.length = ps.length
  | [], [], _ => rfl
  | x :: xs, q :: ps, ⟨_, r⟩ => congrArg (· + 1) (PrsL.len r)
  | [], _ :: _, h => h.elim
  | _ :: _, [], h => h.elim
def prD (p : Int × Int) : PyData := .tuple [.int p.1, .int p.2]
theorem PrsL.dp {K : PySem.W.Frag} {H : Hp} : ∀ {xs : List V} {ps : List (Int × Int)}, PrsL H xs ps → DpAll K H xs (ps.map prD)
  | [], [], _ => .nil
  | x :: xs, q :: ps, ⟨⟨a, e, h⟩, r⟩ => by
    subst e
    exact .cons (.tup (SqT.of h) (.cons (.int _) (.cons (.int _) .nil))) (PrsL.dp r)
  | [], _ :: _, h => h.elim
  | _ :: _, [], h => h.elim
theorem nb_prs : ∀ ps : List (Int × Int), nbA (ps.map prD) = true ∧ PyData.depthAll (ps.map prD) ≤ 1
  | [] => ⟨rfl, by decide⟩
  | p :: ps => by
    obtain ⟨h1, h2⟩ := nb_prs ps
    constructor
    · show (nbD (prD p) && nbA (ps.map prD)) = true
      rw [h1]
      rfl
    · show max (PyData.depth (prD p)) (PyData.depthAll (ps.map prD)) ≤ 1
      have : PyData.depth (prD p) = 1 := rfl
      omega
theorem nb_prl (ps : List (Int × Int)) : NB (.list (ps.map prD)) := ⟨(nb_prs ps).1, by show PyData.depthAll (ps.map prD) + 1 ≤ 64; have := (nb_prs ps).2; omega⟩
theorem kt_same {H H' : Hp} (s : Same H H') : KT H H' := fun a ys h => s _ _ h
theorem kt_upd {H : Hp} {q : Addr} {xs : List V} {o : HO} (h : H q = some (.lst xs)) : KT H (upd H q o) := fun a ys e => by rw [upd_ne (ne_of e h (fun z => nomatch z))]; exact e
theorem KT.trans {H H1 H2 : Hp} (a : KT H H1) (b : KT H1 H2) : KT H H2 := fun c ys h => b _ _ (a _ _ h)
theorem neL_prs {K : PySem.W.Frag} {H : Hp} {a b : Addr} {xs ys : List V} {ps : List (Int × Int)} {Q : VK} (h1 : H a = some (.lst xs)) (h2 : H b = some (.lst ys)) (p1 : PrsL H xs ps) (p2 : PrsL H ys ps) (q : Q (.bl false) H) : rNeN K (.ref a) (.ref b) H Q :=
  use_neN (.lst (SqL.of h1) p1.dp) (.lst (SqL.of h2) p2.dp) (nb_prl _) (nb_prl _) fun c hc => by
    cases c with
    | false => exact q
    | true => exact absurd rfl (hc.1 rfl)
theorem neL_ints {K : PySem.W.Frag} {H : Hp} {a b : Addr} {xs : List Int} {Q : VK} (h1 : H a = some (.lst (xs.map V.int))) (h2 : H b = some (.lst (xs.map V.int))) (q : Q (.bl false) H) : rNeN K (.ref a) (.ref b) H Q :=
  use_neN (.lst (SqL.of h1) (dp_pyi xs)) (.lst (SqL.of h2) (dp_pyi xs)) (nb_list _) (nb_list _) fun c hc => by
    cases c with
    | false => exact q
    | true => exact absurd rfl (hc.1 rfl)
theorem srt_uniq : ∀ {xs ys : List Int}, xs.Pairwise (· < ·) → ys.Pairwise (· < ·) → (∀ k, k ∈ xs ↔ k ∈ ys) → xs = ys
  | [], [], _, _, _ => rfl
  | [], y :: ys, _, _, h => absurd ((h y).mpr (List.mem_cons_self ..)) (by simp)
  | x :: xs, [], _, _, h => absurd ((h x).mp (List.mem_cons_self ..)) (by simp)
  | x :: xs, y :: ys, h1, h2, h => by
    obtain ⟨a1, a2⟩ := List.pairwise_cons.mp h1
    obtain ⟨b1, b2⟩ := List.pairwise_cons.mp h2
    have e : x = y := by
      rcases List.mem_cons.mp ((h x).mp (List.mem_cons_self ..)) with c | c
      · exact c
      · rcases List.mem_cons.mp ((h y).mpr (List.mem_cons_self ..)) with d | d
        · exact d.symm
        · have := b1 x c; have := a1 y d; omega
    subst e
    congr 1
    refine srt_uniq a2 b2 fun k => ⟨fun hk => ?_, fun hk => ?_⟩
    · rcases List.mem_cons.mp ((h k).mp (List.mem_cons_of_mem _ hk)) with c | c
      · have := a1 k hk; omega
      · exact c
    · rcases List.mem_cons.mp ((h k).mpr (List.mem_cons_of_mem _ hk)) with c | c
      · have := b1 k hk; omega
      · exact c
theorem srt_perm {xs ys : List Int} (h : xs.Perm ys) (s : xs.Pairwise (· ≤ ·)) (t : ys.Pairwise (· < ·)) : xs = ys :=
  srt_uniq (L2.lt_of_le_nodup _ s (h.nodup_iff.mpr (t.imp fun h => by omega))) t fun k => h.mem_iff
/-- n numbers from x on -/
def ivI (x n : Nat) : List Int := (List.range n).map fun k => ((x + k : Nat) : Int)
theorem ivI_mem {x n : Nat} {k : Int} : k ∈ ivI x n ↔ (x : Int) ≤ k ∧ k < (x : Int) + n := by
  unfold ivI
  rw [List.mem_map]
  constructor
  · rintro ⟨i, hi, rfl⟩; have := List.mem_range.mp hi; omega
  · rintro ⟨h1, h2⟩; exact ⟨k.toNat - x, List.mem_range.mpr (by omega), by omega⟩
theorem ivI_srt (x n : Nat) : (ivI x n).Pairwise (· < ·) := by
  unfold ivI
  rw [List.pairwise_map]
  exact List.pairwise_lt_range.imp fun h => by omega
theorem ivI_len (x n : Nat) : (ivI x n).length = n := by unfold ivI; rw [List.length_map, List.length_range]
theorem ivI_get {x n j : Nat} (h : j < n) : (ivI x n)[j]? = some ((x + j : Nat) : Int) := by
  unfold ivI; rw [List.getElem?_map, List.getElem?_range h]; rfl
/-- the pages of a level -/
def lvW (f b e i : Nat) : Nat := e / f ^ (i + 1) + 1 - b / f ^ (i + 1)
def lvT (i x n : Nat) : List (Int × Int) := (List.range n).map fun k => ((i : Int), ((x + k : Nat) : Int))
theorem lvT_succ (i x n : Nat) : lvT i x (n + 1) = lvT i x n ++ [((i : Int), ((x + n : Nat) : Int))] := by unfold lvT; rw [List.range_succ, List.map_append]; rfl
theorem lvT_len (i x n : Nat) : (lvT i x n).length = n := by unfold lvT; rw [List.length_map, List.length_range]
theorem lvT_mem {i x n : Nat} {q : Int × Int} : q ∈ lvT i x n ↔ q.1 = i ∧ (x : Int) ≤ q.2 ∧ q.2 < (x : Int) + n := by
  unfold lvT
  rw [List.mem_map]
  constructor
  · rintro ⟨k, hk, rfl⟩; have := List.mem_range.mp hk; exact ⟨rfl, by dsimp only; omega, by dsimp only; omega⟩
  · rintro ⟨h0, h1, h2⟩
    obtain ⟨a, c⟩ := q
    dsimp only at h0 h1 h2
    exact ⟨c.toNat - x, List.mem_range.mpr (by omega), by rw [h0]; exact congrArg (Prod.mk (i : Int)) (by omega)⟩
def lvN (f b e i : Nat) : List (Int × Int) := lvT i (b / f ^ (i + 1)) (lvW f b e i)
def ndN (f b e : Nat) : Nat → List (Int × Int)
  | 0 => []
  | n + 1 => ndN f b e n ++ lvN f b e n
theorem ndN_mem {f b e : Nat} {q : Int × Int} : ∀ {n : Nat}, q ∈ ndN f b e n ↔ ∃ i, i < n ∧ q ∈ lvN f b e i
  | 0 => ⟨fun h => by simp [ndN] at h, fun ⟨i, h, _⟩ => by omega⟩
  | n + 1 => by
    simp only [ndN]
    rw [List.mem_append, ndN_mem]
    constructor
    · rintro (⟨i, h1, h2⟩ | h)
      · exact ⟨i, by omega, h2⟩
      · exact ⟨n, by omega, h⟩
    · rintro ⟨i, h1, h2⟩
      by_cases c : i = n
      · subst c; exact .inr h2
      · exact .inl ⟨i, by omega, h2⟩
theorem lvN_mem {f b e i : Nat} (hbe : b ≤ e) {q : Int × Int} : q ∈ lvN f b e i ↔ q.1 = i ∧ ((b / f ^ (i + 1) : Nat) : Int) ≤ q.2 ∧ q.2 ≤ ((e / f ^ (i + 1) : Nat) : Int) := by
  have h := Nat.div_le_div_right (c := f ^ (i + 1)) hbe
  unfold lvN lvW
  rw [lvT_mem]
  generalize b / f ^ (i + 1) = x at h ⊢
  generalize e / f ^ (i + 1) = y at h ⊢
  constructor
  · rintro ⟨h0, h1, h2⟩; exact ⟨h0, h1, by omega⟩
  · rintro ⟨h0, h1, h2⟩; exact ⟨h0, h1, by omega⟩
theorem ndN_len {f b e : Nat} (he : e ≤ 1000) : ∀ n, (ndN f b e n).length ≤ 1001 * n
  | 0 => by simp [ndN]
  | n + 1 => by
    simp only [ndN]
    have := ndN_len (f := f) (b := b) he n
    have h2 : e / f ^ (n + 1) ≤ e := Nat.div_le_self _ _
    rw [List.length_append]
    unfold lvN lvW
    rw [lvT_len]
    generalize e / f ^ (n + 1) = u at h2 ⊢
    generalize b / f ^ (n + 1) = v
    omega
theorem isht_10 {f b e L : Nat} (hf : 2 ≤ f) (h : IsHt f b e L) (hbe : b ≤ e) (he : e ≤ 1000) : L ≤ 10 := by
  by_cases z : L ≤ 10
  · exact z
  · have hne := h.2.2 10 (by omega) (by omega)
    have h2 := Nat.pow_le_pow_left hf 10
    have h3 : (1000 : Nat) < 2 ^ 10 := by decide
    rw [Nat.div_eq_of_lt (show e < f ^ 10 by omega), Nat.div_eq_of_lt (show b < f ^ 10 by omega)] at hne
    exact absurd rfl hne
/-- the last node -/
theorem ndN_top {f b e L : Nat} (h : IsHt f b e L) : ndN f b e L = ndN f b e (L - 1) ++ [(((L - 1 : Nat) : Int), ((e / f ^ L : Nat) : Int))] := by
  obtain ⟨h1, h2, _⟩ := h
  match L, h1 with
  | L + 1, _ =>
    rw [Nat.add_sub_cancel]
    show ndN f b e L ++ lvN f b e L = _
    congr 1
    unfold lvN lvW
    rw [h2, show e / f ^ (L + 1) + 1 - e / f ^ (L + 1) = 0 + 1 by omega, lvT_succ]
    rfl
theorem PrsL.app {H : Hp} : ∀ {xs ys : List V} {ps qs : List (Int × Int)}, PrsL H xs ps → PrsL H ys qs → PrsL H (xs ++ ys) (ps ++ qs)
  | [], _, [], _, _, h => h
  | x :: xs, _, q :: ps, _, ⟨h, r⟩, g => ⟨h, PrsL.app r g⟩
  | [], _, _ :: _, _, h, _ => h.elim
  | _ :: _, _, [], _, h, _ => h.elim
theorem PrsL.mem {H : Hp} : ∀ {xs : List V} {ps : List (Int × Int)}, PrsL H xs ps → ∀ v ∈ xs, ∃ a q, v = .ref a ∧ H a = some (.tup [.int q.1, .int q.2]) ∧ q ∈ ps
  | [], [], _, v, hv => (nomatch hv)
  | x :: xs, q :: ps, ⟨⟨a, e, h⟩, r⟩, v, hv => by
    rcases List.mem_cons.mp hv with c | c
    · subst c; exact ⟨a, q, e, h, List.mem_cons_self ..⟩
    · obtain ⟨a', q', e1, e2, e3⟩ := PrsL.mem r v c
      exact ⟨a', q', e1, e2, List.mem_cons_of_mem _ e3⟩
  | [], _ :: _, h, _, _ => h.elim
  | _ :: _, [], h, _, _ => h.elim
theorem PrsL.get {H : Hp} : ∀ {xs : List V} {ps : List (Int × Int)} {j : Nat} {x : V}, PrsL H xs ps → xs[j]? = some x → ∃ a q, x = .ref a ∧ H a = some (.tup [.int q.1, .int q.2]) ∧ ps[j]? = some q
  | x :: xs, q :: ps, 0, _, ⟨⟨a, e, h⟩, r⟩, rfl => ⟨a, q, e, h, rfl⟩
  | x :: xs, q :: ps, j + 1, y, ⟨_, r⟩, hy => by
    have hy : xs[j]? = some y := by simpa using hy
    obtain ⟨a, q', e1, e2, e3⟩ := PrsL.get r hy
    exact ⟨a, q', e1, e2, by simpa using e3⟩
  | [], [], _, _, _, hy => by simp at hy
  | [], _ :: _, _, _, h, _ => h.elim
  | _ :: _, [], _, _, h, _ => h.elim
theorem PrsL.split {H : Hp} : ∀ {xs : List V} {ps qs : List (Int × Int)}, PrsL H xs (ps ++ qs) → ∃ ys zs, xs = ys ++ zs ∧ PrsL H ys ps ∧ PrsL H zs qs
  | xs, [], qs, h => ⟨[], xs, rfl, True.intro, h⟩
  | x :: xs, q :: ps, qs, ⟨h, r⟩ => by
    obtain ⟨ys, zs, e, h1, h2⟩ := PrsL.split r
    exact ⟨x :: ys, zs, by rw [e]; rfl, ⟨h, h1⟩, h2⟩
  | [], _ :: _, _, h => h.elim
/-- the last item -/
theorem PrsL.last {H : Hp} {xs : List V} {ps : List (Int × Int)} {q : Int × Int} (h : PrsL H xs (ps ++ [q])) : ∃ a, atI xs (-1) = some (.ref a) ∧ H a = some (.tup [.int q.1, .int q.2]) := by
  obtain ⟨ys, zs, rfl, _, h2⟩ := h.split
  match zs, h2 with
  | [z], ⟨⟨a, e, h⟩, _⟩ => subst e; exact ⟨a, atI_last _ _, h⟩
  | _ :: _ :: _, ⟨_, h⟩ => exact h.elim
  | [], h => exact h.elim
theorem prD_inj {p q : Int × Int} (h : prD p = prD q) : p = q := by
  obtain ⟨a, b⟩ := p
  obtain ⟨c, d⟩ := q
  unfold prD at h
  injection h with h
  injection h with h1 h2
  injection h2 with h2 _
  injection h1 with h1
  injection h2 with h2
  exact Prod.ext h1 h2
@[irreducible] def sp_nodes_over (K : PySem.W.Frag) : Sp := fun vs H Q _ => ∃ (s g : Addr) (p : Prt) (b e : Nat), vs = [.ref s, .ref g] ∧ SetAt K H s p ∧ p.Ok ∧ H g = some (.tup [.int b, .int e]) ∧ (b ≤ e ∧ e ≤ 1000) ∧
  ∀ q xs H', H q = none → Same H H' → H' q = some (.lst xs) → (b = e → xs = []) → (∀ L, b < e → IsHt p.fan.toNat b (e - 1) L → PrsL H' xs (ndN p.fan.toNat b (e - 1) L)) → Q (.ref q) H'
theorem use_nodes_over {K : PySem.W.Frag} {s g : Addr} {p : Prt} {b e : Nat} {H : Hp} {Q : VK} {E : XK} (hs : SetAt K H s p) (ok : p.Ok) (hg : H g = some (.tup [.int b, .int e])) (hbe : b ≤ e ∧ e ≤ 1000)
  (k : ∀ q xs H', H q = none → Same H H' → H' q = some (.lst xs) → (b = e → xs = []) → (∀ L, b < e → IsHt p.fan.toNat b (e - 1) L → PrsL H' xs (ndN p.fan.toNat b (e - 1) L)) → Q (.ref q) H') :
  sp_nodes_over K [.ref s, .ref g] H Q E := by unfold sp_nodes_over; exact ⟨s, g, p, b, e, rfl, hs, ok, hg, hbe, k⟩
theorem powc {p : Prt} (ok : p.Ok) (k : Nat) : p.fan ^ k = ((p.fan.toNat ^ k : Nat) : Int) := by
  have hf := ok.f
  rw [Int.natCast_pow, Int.toNat_of_nonneg (by omega)]
theorem powp {p : Prt} (ok : p.Ok) (k : Nat) : 0 < p.fan.toNat ^ k := Nat.pow_pos (by have := fan2 ok; omega)
/-- the nodes of the tree behind so many rows -/
noncomputable def kn (p : Prt) (m : Nat) : List (Int × Int) := if m = 0 then [] else ndN p.fan.toNat (pgN p (kbN p m)) (pgN p (m - 1)) (ht p m)
noncomputable def topI (p : Prt) (m : Nat) : Int × Int := (((ht p m - 1 : Nat) : Int), ((pgN p (m - 1) / p.fan.toNat ^ ht p m : Nat) : Int))
theorem kn_zero (p : Prt) : kn p 0 = [] := by unfold kn; rw [if_pos rfl]
theorem kn_pos (p : Prt) {m : Nat} (h : 1 ≤ m) : kn p m = ndN p.fan.toNat (pgN p (kbN p m)) (pgN p (m - 1)) (ht p m) := by unfold kn; rw [if_neg (by omega)]
theorem kn_top {p : Prt} (ok : p.Ok) {m : Nat} (h : 1 ≤ m) : ∃ ps, kn p m = ps ++ [topI p m] := ⟨_, by rw [kn_pos p h, ndN_top (ht_is ok h)]; rfl⟩
theorem ht_10 {p : Prt} (ok : p.Ok) {m : Nat} (h : m ≤ 1000) : ht p m ≤ 10 := by
  by_cases z : m = 0
  · subst z; rw [ht_zero]; omega
  · exact isht_10 (fan2 ok) (ht_is ok (by omega)) (kb_pg ok (by omega)) (by have := pgN_le ok (m - 1); omega)
theorem kn_len {p : Prt} (ok : p.Ok) {m : Nat} (h : m ≤ 1000) : (kn p m).length ≤ 10010 := by
  by_cases z : m = 0
  · subst z; rw [kn_zero]; exact Nat.zero_le _
  · rw [kn_pos p (by omega)]
    have h1 := ndN_len (f := p.fan.toNat) (b := pgN p (kbN p m)) (e := pgN p (m - 1)) (by have := pgN_le ok (m - 1); omega) (ht p m)
    have h2 := ht_10 ok h
    omega
/-- what is known of a node -/
theorem kn_mem {p : Prt} (ok : p.Ok) {m : Nat} {q : Int × Int} : q ∈ kn p m ↔ 1 ≤ m ∧ ∃ i, i < ht p m ∧ q.1 = i ∧ ((pgN p (kbN p m) / p.fan.toNat ^ (i + 1) : Nat) : Int) ≤ q.2 ∧ q.2 ≤ ((pgN p (m - 1) / p.fan.toNat ^ (i + 1) : Nat) : Int) := by
  by_cases z : m = 0
  · subst z; rw [kn_zero]; exact ⟨fun h => by simp at h, fun h => by omega⟩
  · rw [kn_pos p (by omega), ndN_mem]
    constructor
    · rintro ⟨i, h1, h2⟩; exact ⟨by omega, i, h1, (lvN_mem (kb_pg ok (by omega))).mp h2⟩
    · rintro ⟨_, i, h1, h2⟩; exact ⟨i, h1, (lvN_mem (kb_pg ok (by omega))).mpr h2⟩
theorem isi_tup {K : PySem.W.Frag} {H : Hp} {a : Addr} {xs : List V} {Q : VK} (h : H a = some (.tup xs)) (q : Q (.bl true) H) : rIsiI K [.ref a, .ty "tuple"] H Q := by
  unfold rIsiI; exact ⟨_, _, _, _, true, rfl, .ty _, .base (.tup h), kit_ty (by decide +kernel), q⟩
theorem eqvp (q : Int × Int) : PyData.eqv (prD q) (prD q) = true := by simp [prD, PyData.eqv, PyData.eqvAll]
theorem shp (q : Int × Int) : SeqAt.shaped (prD q) = true := rfl
theorem shps : ∀ ps : List (Int × Int), PyData.canLayAll0 (ps.map prD) = true
  | [] => rfl
  | p :: ps => by
    show ((prD p).canLay0 && PyData.canLayAll0 (ps.map prD)) = true
    rw [shps ps]; rfl
theorem shpl (ps : List (Int × Int)) : SeqAt.shaped (.list (ps.map prD)) = true := by
  show (PyData.canLayAll0 (ps.map prD) && decide (PyData.depthAll (ps.map prD) + 1 ≤ 64)) = true
  rw [shps ps]
  have := (nb_prs ps).2
  exact decide_eq_true (by omega)
theorem notin_prs {K : PySem.W.Frag} {H : Hp} {n a : Addr} {q : Int × Int} {xs : List V} {ps : List (Int × Int)} {Q : VK} (hn : H n = some (.tup [.int q.1, .int q.2])) (ha : H a = some (.lst xs)) (hp : PrsL H xs ps) (hq : q ∈ ps) (k : Q (.bl false) H) : rNotInD K (.ref n) (.ref a) H Q := by
  refine ⟨prD q, ps.map prD, .tup (SqT.of hn) (.cons (.int _) (.cons (.int _) .nil)), .lst (SqL.of ha) hp.dp, shp q, shpl ps, ?_⟩
  have : (ps.map prD).any (fun z => PyData.eqv z (prD q)) = true := List.any_eq_true.mpr ⟨prD q, List.mem_map.mpr ⟨q, hq, rfl⟩, eqvp q⟩
  rw [this]
  exact k
theorem lv_le {p : Prt} (ok : p.Ok) {b e : Nat} (h : b ≤ e) (h2 : e ≤ 500) : lvF p b e ≤ lvA p b e ∧ lvA p b e ≤ 1000 := by
  unfold lvF lvA
  by_cases c : b = e
  · rw [if_pos c, if_pos c]; omega
  · rw [if_neg c, if_neg c]
    have a1 := pgN_mono ok (show b ≤ e - 1 by omega)
    have a3 := pgN_le ok (e - 1)
    omega
theorem lv_zero (p : Prt) {m : Nat} (ok : p.Ok) (h : m = 0) : lvF p (kbN p m) m = 0 ∧ lvA p (kbN p m) m = 0 := by
  have := (kb_eq ok m).mpr h
  unfold lvF lvA
  exact ⟨if_pos this, if_pos this⟩
theorem lv_pos (p : Prt) {m : Nat} (ok : p.Ok) (h : 1 ≤ m) : lvF p (kbN p m) m = pgN p (kbN p m) ∧ lvA p (kbN p m) m = pgN p (m - 1) + 1 := by
  have : ¬ kbN p m = m := fun z => by have := (kb_eq ok m).mp z; omega
  unfold lvF lvA
  exact ⟨if_neg this, if_neg this⟩
@[irreducible] def sp_tree_nodes (K : PySem.W.Frag) : Sp := fun vs H Q _ => ∃ (s : Addr) (p : Prt) (m : Nat), vs = [.ref s, .int m] ∧ SetAt K H s p ∧ p.Ok ∧ m ≤ 500 ∧
  ∀ q xs H', H q = none → Same H H' → H' q = some (.lst xs) → PrsL H' xs (kn p m) → Q (.ref q) H'
theorem use_tree_nodes {K : PySem.W.Frag} {s : Addr} {p : Prt} {m : Nat} {i : Int} {H : Hp} {Q : VK} {E : XK} (hi : i = (m : Int)) (hs : SetAt K H s p) (ok : p.Ok) (hm : m ≤ 500)
  (k : ∀ q xs H', H q = none → Same H H' → H' q = some (.lst xs) → PrsL H' xs (kn p m) → Q (.ref q) H') : sp_tree_nodes K [.ref s, .int i] H Q E := by subst hi; unfold sp_tree_nodes; exact ⟨s, p, m, rfl, hs, ok, hm, k⟩
@[irreducible] def sp_tree_root (K : PySem.W.Frag) : Sp := fun vs H Q _ => ∃ (s : Addr) (p : Prt) (m : Nat), vs = [.ref s, .int m] ∧ SetAt K H s p ∧ p.Ok ∧ m ≤ 500 ∧
  (m = 0 → ∀ H', Same H H' → Q .non H') ∧ (0 < m → ∀ t H', Same H H' → H' t = some (.tup [.int (topI p m).1, .int (topI p m).2]) → Q (.ref t) H')
theorem use_tree_root {K : PySem.W.Frag} {s : Addr} {p : Prt} {m : Nat} {i : Int} {H : Hp} {Q : VK} {E : XK} (hi : i = (m : Int)) (hs : SetAt K H s p) (ok : p.Ok) (hm : m ≤ 500)
  (k0 : m = 0 → ∀ H', Same H H' → Q .non H') (k1 : 0 < m → ∀ t H', Same H H' → H' t = some (.tup [.int (topI p m).1, .int (topI p m).2]) → Q (.ref t) H') : sp_tree_root K [.ref s, .int i] H Q E := by
  subst hi; unfold sp_tree_root; exact ⟨s, p, m, rfl, hs, ok, hm, k0, k1⟩
theorem kn_nil {p : Prt} (ok : p.Ok) {m : Nat} : (kn p m).map prD = [] ↔ m = 0 := by
  constructor
  · intro h
    by_cases z : m = 0
    · exact z
    · obtain ⟨ps, e⟩ := kn_top ok (show 1 ≤ m by omega)
      rw [e] at h
      simp at h
  · intro h; subst h; rw [kn_zero]; rfl
@[irreducible] def sp_tree_height (K : PySem.W.Frag) : Sp := fun vs H Q _ => ∃ (s : Addr) (p : Prt) (m : Nat), vs = [.ref s, .int m] ∧ SetAt K H s p ∧ p.Ok ∧ m ≤ 500 ∧ ∀ H', Same H H' → Q (.int (ht p m : Nat)) H'
theorem use_tree_height {K : PySem.W.Frag} {s : Addr} {p : Prt} {m : Nat} {i : Int} {H : Hp} {Q : VK} {E : XK} (hi : i = (m : Int)) (hs : SetAt K H s p) (ok : p.Ok) (hm : m ≤ 500) (k : ∀ H', Same H H' → Q (.int (ht p m : Nat)) H') :
  sp_tree_height K [.ref s, .int i] H Q E := by subst hi; unfold sp_tree_height; exact ⟨s, p, m, rfl, hs, ok, hm, k⟩
theorem topI_fst {p : Prt} (ok : p.Ok) {m : Nat} (h : 1 ≤ m) : (topI p m).1 + 1 = ((ht p m : Nat) : Int) := by
  have h1 := (ht_is ok h).1
  show ((ht p m - 1 : Nat) : Int) + 1 = _
  omega
theorem pow_hi {p : Prt} (ok : p.Ok) {k : Nat} (h : k ≤ 21) : p.fan.toNat ^ k ≤ 10000000000000000000 := by
  have hf := ok.f
  have h1 := Nat.pow_le_pow_left (show p.fan.toNat ≤ 8 by omega) k
  have h2 := Nat.pow_le_pow_right (show 0 < 8 by decide) h
  have h3 : (8 : Nat) ^ 21 ≤ 10000000000000000000 := by decide
  omega
theorem le_mul {x w n : Nat} (hw : 0 < w) (h : x * w ≤ n) : x ≤ n := Nat.le_trans (Nat.le_mul_of_pos_right x hw) h
/-- an object that is a node, low enough -/
def NdOk (p : Prt) (H : Hp) (n : Addr) (i : Nat) (x : Nat) : Prop := H n = some (.tup [.int (i : Int), .int (x : Int)]) ∧ i ≤ 20 ∧ x * p.fan.toNat ^ (i + 1) ≤ 1000
theorem NdOk.same {p : Prt} {H H' : Hp} {n : Addr} {i x : Nat} (h : NdOk p H n i x) (s : Same H H') : NdOk p H' n i x := ⟨s _ _ h.1, h.2⟩
@[irreducible] def sp_is_node (K : PySem.W.Frag) : Sp := fun vs H Q _ => ∃ (s n : Addr) (p : Prt) (i x : Nat), vs = [.ref s, .ref n] ∧ SetAt K H s p ∧ p.Ok ∧ NdOk p H n i x ∧ Q (.bl true) H
theorem use_is_node {K : PySem.W.Frag} {s n : Addr} {p : Prt} {i x : Nat} {H : Hp} {Q : VK} {E : XK} (hs : SetAt K H s p) (ok : p.Ok) (hn : NdOk p H n i x) (q : Q (.bl true) H) : sp_is_node K [.ref s, .ref n] H Q E := by
  unfold sp_is_node; exact ⟨s, n, p, i, x, rfl, hs, ok, hn, q⟩
@[irreducible] def sp_check_node (K : PySem.W.Frag) : Sp := fun vs H Q _ => ∃ (s n : Addr) (p : Prt) (i x : Nat), vs = [.ref s, .ref n] ∧ SetAt K H s p ∧ p.Ok ∧ NdOk p H n i x ∧ Q .non H
theorem use_check_node {K : PySem.W.Frag} {s n : Addr} {p : Prt} {i x : Nat} {H : Hp} {Q : VK} {E : XK} (hs : SetAt K H s p) (ok : p.Ok) (hn : NdOk p H n i x) (q : Q .non H) : sp_check_node K [.ref s, .ref n] H Q E := by
  unfold sp_check_node; exact ⟨s, n, p, i, x, rfl, hs, ok, hn, q⟩
@[irreducible] def sp_span_of (K : PySem.W.Frag) : Sp := fun vs H Q _ => ∃ (s n : Addr) (p : Prt) (i x : Nat), vs = [.ref s, .ref n] ∧ SetAt K H s p ∧ p.Ok ∧ NdOk p H n i x ∧ ∀ t H', H t = none → Same H H' → H' t = some (.tup [.int (x * p.fan.toNat ^ (i + 1) : Nat), .int ((x + 1) * p.fan.toNat ^ (i + 1) : Nat)]) → Q (.ref t) H'
theorem use_span_of {K : PySem.W.Frag} {s n : Addr} {p : Prt} {i x : Nat} {H : Hp} {Q : VK} {E : XK} (hs : SetAt K H s p) (ok : p.Ok) (hn : NdOk p H n i x) (q : ∀ t H', H t = none → Same H H' → H' t = some (.tup [.int (x * p.fan.toNat ^ (i + 1) : Nat), .int ((x + 1) * p.fan.toNat ^ (i + 1) : Nat)]) → Q (.ref t) H') : sp_span_of K [.ref s, .ref n] H Q E := by
  unfold sp_span_of; exact ⟨s, n, p, i, x, rfl, hs, ok, hn, q⟩
@[irreducible] def sp_covered (K : PySem.W.Frag) : Sp := fun vs H Q _ => ∃ (s n : Addr) (p : Prt) (i x : Nat), vs = [.ref s, .ref n] ∧ SetAt K H s p ∧ p.Ok ∧ NdOk p H n i x ∧ ∀ t H', H t = none → Same H H' → H' t = some (.tup [.int (x * p.fan.toNat ^ (i + 1) : Nat), .int ((x + 1) * p.fan.toNat ^ (i + 1) : Nat)]) → Q (.ref t) H'
theorem use_covered {K : PySem.W.Frag} {s n : Addr} {p : Prt} {i x : Nat} {H : Hp} {Q : VK} {E : XK} (hs : SetAt K H s p) (ok : p.Ok) (hn : NdOk p H n i x) (q : ∀ t H', H t = none → Same H H' → H' t = some (.tup [.int (x * p.fan.toNat ^ (i + 1) : Nat), .int ((x + 1) * p.fan.toNat ^ (i + 1) : Nat)]) → Q (.ref t) H') : sp_covered K [.ref s, .ref n] H Q E := by
  unfold sp_covered; exact ⟨s, n, p, i, x, rfl, hs, ok, hn, q⟩
@[irreducible] def sp_node_over (K : PySem.W.Frag) : Sp := fun vs H Q _ => ∃ (s : Addr) (p : Prt) (i x : Nat), vs = [.ref s, .int x, .int i] ∧ SetAt K H s p ∧ p.Ok ∧ x ≤ 100000 ∧ i ≤ 20 ∧ ∀ t H', H t = none → Same H H' → H' t = some (.tup [.int i, .int (x / p.fan.toNat ^ (i + 1) : Nat)]) → Q (.ref t) H'
theorem use_node_over {K : PySem.W.Frag} {s : Addr} {p : Prt} {i x : Nat} {u v : Int} {H : Hp} {Q : VK} {E : XK} (hs : SetAt K H s p) (ok : p.Ok) (hu : u = (x : Int)) (hv : v = (i : Int)) (hx : x ≤ 100000) (hi : i ≤ 20) (q : ∀ t H', H t = none → Same H H' → H' t = some (.tup [.int i, .int (x / p.fan.toNat ^ (i + 1) : Nat)]) → Q (.ref t) H') :
  sp_node_over K [.ref s, .int u, .int v] H Q E := by subst hu hv; unfold sp_node_over; exact ⟨s, p, i, x, rfl, hs, ok, hx, hi, q⟩
theorem sks_perm {S : Sx} (hk : (S.nodes.map (·.1)).Nodup) : (S.sks.map S.ndP).Perm (S.nodes.map (·.2)) := by
  have h1 : (S.sks.map S.ndP).Perm ((S.nodes.map (·.1)).map S.ndP) := (sortP_perm _).map _
  have e : (S.nodes.map (·.1)).map S.ndP = S.nodes.map (·.2) := by
    rw [List.map_map]
    refine List.map_congr_left fun e he => ?_
    show (aget S.nodes e.1).getD 0 = e.2
    rw [aget_is hk he]
    rfl
  rw [e] at h1
  exact h1
theorem uses_perm {S : Sx} (h : Own S []) (hk : (S.nodes.map (·.1)).Nodup) : (S.usesL ++ S.free).Perm (numsL S.taken) := by
  refine List.perm_iff_count.mpr fun d => ?_
  have := h.pm d
  have e := (sks_perm hk).count_eq d
  unfold Sx.usesL
  simp only [List.count_append, List.count_nil] at this ⊢
  omega
theorem uses_nd {S : Sx} (h : Own S []) (hk : (S.nodes.map (·.1)).Nodup) : S.usesL.Nodup :=
  (List.nodup_append.mp ((uses_perm h hk).nodup_iff.mpr (numsL_nd _))).1
theorem uses_len {S : Sx} (h : Own S []) (hk : (S.nodes.map (·.1)).Nodup) : S.usesL.length ≤ S.taken := by
  have := (uses_perm h hk).length_eq
  rw [List.length_append, numsL_len] at this
  omega
theorem hpL_snd (S : Sx) : S.hpL.map (·.2) = S.heap := by
  apply List.ext_getElem?
  intro i
  unfold Sx.hpL
  rw [List.getElem?_map, List.getElem?_mapIdx]
  cases S.heap[i]? <;> rfl
/-! ### the plain law: what a row takes and gives back -/
def roB : Ro → Bool
  | .hp _ => true
  | .nd _ _ => true
  | _ => false
def rolE (e : Ev) : Option (Str × Ro) := if (e.kind = "take" ∨ e.kind = "give") ∧ roB e.ro = true then some (e.kind, e.ro) else none
/-- an event that takes or gives has a role -/
def EvK (e : Ev) : Prop := (e.kind = "take" ∨ e.kind = "give") → (∃ n, e.ro = .hp n) ∨ (∃ l n, e.ro = .nd l n) ∨ ∃ n, e.ro = .lg n
def Adds (S T : Sx) (rs : List (Str × Ro)) : Prop := ∃ es, T.evs = S.evs ++ es ∧ es.filterMap rolE = rs ∧ ∀ e ∈ es, EvK e
theorem Adds.refl {S T : Sx} (h : T.evs = S.evs) : Adds S T [] := ⟨[], by rw [h, List.append_nil], rfl, fun e he => nomatch he⟩
theorem Adds.trans {S T U : Sx} {a b : List (Str × Ro)} (h : Adds S T a) (k : Adds T U b) : Adds S U (a ++ b) := by
  obtain ⟨es, h1, h2, h3⟩ := h
  obtain ⟨fs, k1, k2, k3⟩ := k
  refine ⟨es ++ fs, by rw [k1, h1, List.append_assoc], by rw [List.filterMap_append, h2, k2], fun e he => ?_⟩
  rcases List.mem_append.mp he with z | z
  · exact h3 e z
  · exact k3 e z
theorem Adds.of {S T : Sx} {a b : List (Str × Ro)} (h : Adds S T a) (e : a = b) : Adds S T b := e ▸ h
theorem adds_ev {S T : Sx} (k : Str) (p : Int) (r : Ro) (he : T.evs = S.evs ++ [⟨k, p, r⟩]) (hk : EvK ⟨k, p, r⟩) : Adds S T ([(⟨k, p, r⟩ : Ev)].filterMap rolE) := ⟨_, he, rfl, fun e h => by rw [List.mem_singleton.mp h]; exact hk⟩
theorem rol_take {p : Int} {r : Ro} (h : roB r = true) : [(⟨"take", p, r⟩ : Ev)].filterMap rolE = [(("take" : Str), r)] := by
  rw [List.filterMap_cons]
  unfold rolE
  dsimp only
  rw [if_pos ⟨.inl rfl, h⟩]
  rfl
theorem rol_give {p : Int} {r : Ro} (h : roB r = true) : [(⟨"give", p, r⟩ : Ev)].filterMap rolE = [(("give" : Str), r)] := by
  rw [List.filterMap_cons]
  unfold rolE
  dsimp only
  rw [if_pos ⟨.inr rfl, h⟩]
  rfl
theorem rol_no {k : Str} {p : Int} {r : Ro} (h : roB r = false) : [(⟨k, p, r⟩ : Ev)].filterMap rolE = [] := by
  rw [List.filterMap_cons]
  unfold rolE
  dsimp only
  rw [if_neg (fun z => by rw [h] at z; exact Bool.false_ne_true z.2)]
  rfl
theorem take_evl (S : Sx) (r : Ro) : (S.takeS r).evs = S.evs ++ [⟨"take", S.takeP, r⟩] := by unfold Sx.takeS Sx.taking Sx.ev; split <;> rfl
theorem adds_begin1 (S : Sx) (k : NK) : Adds S (S.begin1 k) [(("take" : Str), Ro.nd k.1 k.2)] := by
  have e : S.begin1 k = ({ S.takeS (.nd k.1 k.2) with nodes := aput S.nodes k S.takeP } : Sx).change k := rfl
  have e2 := (change_same ({ S.takeS (.nd k.1 k.2) with nodes := aput S.nodes k S.takeP } : Sx) k).2.2.2.2.2.2.2
  rw [← e] at e2
  exact (adds_ev "take" S.takeP (.nd k.1 k.2) (by rw [e2]; exact take_evl S _) fun _ => .inr (.inl ⟨_, _, rfl⟩)).of (rol_take rfl)
theorem adds_begins : ∀ (l : List NK) (S : Sx), Adds S (l.foldl Sx.begin1 S) (l.map fun k => (("take" : Str), Ro.nd k.1 k.2))
  | [], S => .refl rfl
  | k :: l, S => by
    rw [List.foldl_cons]
    exact (adds_begin1 S k).trans (adds_begins l (S.begin1 k))
theorem changes_evs (g : NK → NK) : ∀ (l : List NK) (S : Sx), (l.foldl (fun T k => T.change (g k)) S).evs = S.evs
  | [], S => rfl
  | k :: l, S => (changes_evs g l (S.change (g k))).trans (change_same S (g k)).2.2.2.2.2.2.2
theorem adds_end1 (S : Sx) (k : NK) : Adds S (S.end1 k) [(("give" : Str), Ro.nd k.1 k.2)] :=
  (adds_ev "give" _ (.nd k.1 k.2) rfl fun _ => .inr (.inl ⟨_, _, rfl⟩)).of (rol_give rfl)
theorem adds_ends : ∀ (l : List NK) (S : Sx), Adds S (l.foldl Sx.end1 S) (l.map fun k => (("give" : Str), Ro.nd k.1 k.2))
  | [], S => .refl rfl
  | k :: l, S => by
    rw [List.foldl_cons]
    exact (adds_end1 S k).trans (adds_ends l (S.end1 k))
theorem adds_beginPage (S : Sx) (f : Nat) : Adds S (S.beginPage f) ((("take" : Str), Ro.hp ((S.oldest + S.heap.length : Nat) : Int)) :: (begunL f S.oldest (S.oldest + S.heap.length) S.top S.nodes (rlv f S.oldest (S.oldest + S.heap.length) + 1)).map fun k => (("take" : Str), Ro.nd k.1 k.2)) := by
  unfold Sx.beginPage
  dsimp only
  generalize begunL f S.oldest (S.oldest + S.heap.length) S.top S.nodes (rlv f S.oldest (S.oldest + S.heap.length) + 1) = bg
  generalize (rlv f S.oldest (S.oldest + S.heap.length) : Nat) = lv
  generalize ((0 : Int), (((S.oldest + S.heap.length) / f : Nat) : Int)) = k0
  generalize ((S.oldest + S.heap.length : Nat) : Int) = n
  have h1 : Adds S ({ ({ S.takeS (.hp n) with heap := S.heap ++ [S.takeP] } : Sx).mark S.takeP with top := (lv : Int) } : Sx) [(("take" : Str), Ro.hp n)] := (adds_ev "take" S.takeP (.hp n) (take_evl S _) fun _ => .inl ⟨_, rfl⟩).of (rol_take rfl)
  have h2 := h1.trans (adds_begins bg _)
  refine (h2.trans (.refl (T := bg.foldl (fun T k => T.change (upK f k)) ((bg.foldl Sx.begin1 ({ ({ S.takeS (.hp n) with heap := S.heap ++ [S.takeP] } : Sx).mark S.takeP with top := (lv : Int) } : Sx)).change k0)) ?_)).of (by rw [List.append_nil]; rfl)
  rw [changes_evs]
  exact (change_same _ k0).2.2.2.2.2.2.2
theorem adds_endPage (S : Sx) (f : Nat) : Adds S (S.endPage f) ((("give" : Str), Ro.hp (S.oldest : Int)) :: (sortP (endedL f S.oldest S.nodes (S.endLv f))).map fun k => (("give" : Str), Ro.nd k.1 k.2)) := by
  unfold Sx.endPage
  dsimp only
  generalize S.endLv f = lv
  generalize endedL f S.oldest S.nodes lv = ed
  generalize ((0 : Int), ((S.oldest / f : Nat) : Int)) = k0
  have h1 : Adds S ({ ({ S with heap := S.heap.tail } : Sx).give (S.heap.headD 0) (.hp (S.oldest : Int)) with oldest := S.oldest + 1, top := lv } : Sx) [(("give" : Str), Ro.hp (S.oldest : Int))] := (adds_ev "give" (S.heap.headD 0) (.hp (S.oldest : Int)) rfl fun _ => .inl ⟨_, rfl⟩).of (rol_give rfl)
  have h2 := h1.trans (adds_ends (sortP ed) _)
  refine (h2.trans (.refl (T := ed.foldl (fun T k => T.change (upK f k)) (((sortP ed).foldl Sx.end1 ({ ({ S with heap := S.heap.tail } : Sx).give (S.heap.headD 0) (.hp (S.oldest : Int)) with oldest := S.oldest + 1, top := lv } : Sx)).change k0)) ?_)).of (by rw [List.append_nil]; rfl)
  rw [changes_evs]
  exact (change_same _ k0).2.2.2.2.2.2.2
theorem evk_other {k : Str} {p : Int} {r : Ro} (h1 : k ≠ "take") (h2 : k ≠ "give") : EvK ⟨k, p, r⟩ := fun h => h.elim (fun z => absurd z h1) (fun z => absurd z h2)
theorem adds_writes : ∀ (l : List Int) (S : Sx), Adds S (l.foldl (fun T p => T.ev "write" p .no) S) []
  | [], S => .refl rfl
  | q :: l, S => by
    rw [List.foldl_cons]
    exact ((adds_ev "write" q .no (T := S.ev "write" q .no) rfl (evk_other (by decide) (by decide))).of (rol_no rfl)).trans (adds_writes l _)
theorem adds_frees : ∀ (l : List Int) (S : Sx), Adds S (l.foldl Sx.free1 S) []
  | [], S => .refl rfl
  | q :: l, S => by
    rw [List.foldl_cons]
    exact ((adds_ev "free" q .no (T := S.free1 q) rfl (evk_other (by decide) (by decide))).of (rol_no rfl)).trans (adds_frees l _)
theorem adds_checkpoint (S : Sx) : Adds S S.checkpoint [] := by
  unfold Sx.checkpoint
  dsimp only
  have h1 := adds_writes (sortI S.changed) S
  generalize (sortI S.changed).foldl (fun T p => T.ev "write" p .no) S = S1 at h1 ⊢
  have h2 : Adds S ({ S1 with changed := [] } : Sx) [] := h1.trans (.refl rfl)
  exact (h2.trans (adds_frees (S.waiting ++ S.log) _)).trans (.refl rfl)
theorem adds_rowL (S : Sx) (p : Prt) : Adds S (S.rowL p) [] := by
  unfold Sx.rowL
  split
  · exact (adds_ev "take" S.takeP _ (take_evl S _) fun _ => .inr (.inr ⟨_, rfl⟩)).of (rol_no rfl)
  · exact .refl rfl
/-- sorted by level, then number -/
def lexLt (a b : NK) : Prop := a.1 < b.1 ∨ (a.1 = b.1 ∧ a.2 < b.2)
theorem lexLt_le {a b : NK} (h : lexLt a b) : lexLe a b := by unfold lexLt at h; unfold lexLe; omega
theorem want_srt (N O : Int) (b : Bool) : (wantL N O b).Pairwise (· < ·) := by
  unfold wantL
  cases b with
  | false => simp
  | true =>
    simp only [if_true]
    by_cases e : N = O
    · rw [if_pos e]; simp
    · rw [if_neg e]
      by_cases c : N ≤ O
      · rw [if_pos c]; simp; omega
      · rw [if_neg c]; simp; omega
theorem begunAt_srt (f o n : Nat) (top : Int) (ns : List (NK × Int)) (i : Nat) : (begunAt f o n top ns i).Pairwise lexLt := by
  unfold begunAt
  refine List.Pairwise.filter _ ?_
  exact List.pairwise_map.mpr ((want_srt _ _ _).imp fun h => .inr ⟨rfl, h⟩)
theorem begunL_srt (f o n : Nat) (top : Int) (ns : List (NK × Int)) : ∀ m, (begunL f o n top ns m).Pairwise lexLt
  | 0 => List.Pairwise.nil
  | m + 1 => by
    rw [begunL_succ]
    refine List.pairwise_append.mpr ⟨begunL_srt f o n top ns m, begunAt_srt f o n top ns m, fun a ha b hb => ?_⟩
    obtain ⟨i, hi, ha⟩ := mem_begunL.mp ha
    obtain ⟨x, e1, _⟩ := mem_begunAt.mp ha
    obtain ⟨y, e2, _⟩ := mem_begunAt.mp hb
    rw [e1, e2]
    exact .inl (by show (i : Int) < (m : Int); omega)
theorem lvN_srt (f b e i : Nat) : (lvN f b e i).Pairwise lexLt := by
  unfold lvN lvT
  exact List.pairwise_map.mpr (List.pairwise_lt_range.imp fun h => .inr ⟨rfl, by dsimp only; omega⟩)
theorem ndN_srt (f b e : Nat) : ∀ n, (ndN f b e n).Pairwise lexLt
  | 0 => List.Pairwise.nil
  | n + 1 => by
    refine List.pairwise_append.mpr ⟨ndN_srt f b e n, lvN_srt f b e n, fun a ha c hc => ?_⟩
    obtain ⟨i, hi, ha⟩ := ndN_mem.mp ha
    have ha : a.1 = i := by
      unfold lvN at ha
      exact (lvT_mem.mp ha).1
    have hc : c.1 = n := by
      unfold lvN at hc
      exact (lvT_mem.mp hc).1
    exact .inl (by rw [ha, hc]; omega)
theorem srt_nd {l : List NK} (h : l.Pairwise lexLt) : l.Nodup := h.imp fun {a b} h e => by rw [e] at h; unfold lexLt at h; omega
theorem nk_uniq {l m : List NK} (h1 : l.Pairwise lexLt) (h2 : m.Pairwise lexLt) (h : ∀ k, k ∈ l ↔ k ∈ m) : l = m :=
  perm_uniq lexLe_anti ((List.perm_ext_iff_of_nodup (srt_nd h1) (srt_nd h2)).mpr h) (h1.imp lexLt_le) (h2.imp lexLt_le)
theorem key_nd {f a b lv : Nat} {ks : List NK} (h : KeyAt f a b lv ks) (hab : a ≤ b) (k : NK) : k ∈ ks ↔ k ∈ ndN f a b (lv + 1) := by
  rw [h.iff k, ndN_mem]
  constructor
  · rintro ⟨i, x, e, h1, h2, h3⟩
    exact ⟨i, by omega, (lvN_mem hab).mpr (by rw [e]; exact ⟨rfl, by show _ ≤ (x : Int); omega, by show (x : Int) ≤ _; omega⟩)⟩
  · rintro ⟨i, h1, h2⟩
    obtain ⟨e, h3, h4⟩ := (lvN_mem hab).mp h2
    obtain ⟨x, hx⟩ : ∃ x : Nat, k.2 = x := ⟨k.2.toNat, by have := Int.le_trans (Int.natCast_nonneg _) h3; omega⟩
    exact ⟨i, x, Prod.ext e hx, by omega, by omega, by omega⟩
theorem sort_nd {f a b lv : Nat} {ks : List NK} (h : KeyAt f a b lv ks) (hab : a ≤ b) : sortP ks = ndN f a b (lv + 1) := by
  have hp := sortP_perm ks
  refine (sortP_eq (L := ndN f a b (lv + 1)) ?_ ((ndN_srt f a b _).imp lexLt_le)).symm
  exact (List.perm_ext_iff_of_nodup (srt_nd (ndN_srt f a b _)) h.nd).mpr fun k => (key_nd h hab k).symm
/-- the nodes behind the first step of a row -/
noncomputable def jn (p : Prt) (n : Nat) : List NK := ndN p.fan.toNat (pgN p (kbN p n)) (pgN p n) (rlv p.fan.toNat (pgN p (kbN p n)) (pgN p n) + 1)
theorem kn_rlv {p : Prt} (ok : p.Ok) {m : Nat} (h : 1 ≤ m) : kn p m = ndN p.fan.toNat (pgN p (kbN p m)) (pgN p (m - 1)) (rlv p.fan.toNat (pgN p (kbN p m)) (pgN p (m - 1)) + 1) := by
  rw [kn_pos p h, (rlv_is (fan2 ok) (kb_pg ok h)).uniq (ht_is ok h)]
noncomputable def begR (p : Prt) (n : Nat) : List NK := (jn p n).filter fun k => decide (k ∉ kn p n)
noncomputable def endR (p : Prt) (n : Nat) : List NK := (jn p n).filter fun k => decide (k ∉ kn p (n + 1))
def begP (p : Prt) (n : Nat) : Prop := startN p (pgN p n) = n
def endP (p : Prt) (n : Nat) : Prop := pgN p (kbN p n) < pgN p (kbN p (n + 1))
noncomputable def rowR (p : Prt) (n : Nat) : List (Str × Ro) := open Classical in ((if begP p n then [(("take" : Str), Ro.hp (pgN p n : Nat))] else []) ++ (begR p n).map fun k => (("take" : Str), Ro.nd k.1 k.2)) ++ ((if endP p n then [(("give" : Str), Ro.hp (pgN p (kbN p n) : Nat))] else []) ++ (endR p n).map fun k => (("give" : Str), Ro.nd k.1 k.2))
theorem filt_self (l : List NK) : l.filter (fun k => decide (k ∉ l)) = [] := by
  rw [List.filter_eq_nil_iff]
  intro a ha
  simp [ha]
theorem row_roles {p : Prt} {S : Sx} {n : Nat} (ok : p.Ok) (I : Inv2 p S n) (hn : n < 500) : (S.step p).evs.filterMap rolE = rowR p n ∧ (∀ e ∈ (S.step p).evs, EvK e) ∧ sortP ((S.step p).nodes.map (·.1)) = kn p (n + 1) := by
  have hf2 : 2 ≤ p.fan.toNat := fan2 ok
  have hd := I.dn
  have hol := I.ol
  have hob := I.ob
  have hk := ok.k
  have hkb : kbN p n = n - p.keep.toNat := rfl
  have hkb1 : kbN p (n + 1) = n + 1 - p.keep.toNat := rfl
  obtain ⟨l1, l2, l3, l4, l5, l6, l7, l8, l9, _⟩ := rowL_facts I
  obtain ⟨h1, h2, h3, h4, h5, h6, h7, lv, h8, h9, h10, _⟩ := rowH_facts ok I hn
  obtain ⟨e0, e1, e2, e3, e11, e12, e4, e5, e6, e7, lv2, e8, e9, e10⟩ := rowE_facts ok I hn
  have hon : S.oldest ≤ pgN p n := by rw [hol]; exact pgN_mono ok (by omega)
  have elv : lv = rlv p.fan.toNat S.oldest (pgN p n) := by
    have := (rlv_is hf2 hon).uniq h9
    omega
  have eE : ({ S with evs := [] } : Sx).rowE p = (fun B : Sx => if n + 1 = startN p (B.oldest + 1) + p.keep.toNat then B.endPage p.fan.toNat else B) (({ S with evs := [] } : Sx).rowB p) := by
    rw [← hd]
    rfl
  have eB : ({ S with evs := [] } : Sx).rowB p = ((({ S with evs := [] } : Sx).rowH p).mark ((({ S with evs := [] } : Sx).rowH p).heap.getLastD 0)).ev "put" ((({ S with evs := [] } : Sx).rowH p).heap.getLastD 0) (.row n) := by
    rw [← hd]
    rfl
  have eH : ({ S with evs := [] } : Sx).rowH p = (fun U : Sx => if n = startN p (U.oldest + U.heap.length) then U.beginPage p.fan.toNat else U) ((({ S with evs := [] } : Sx).rowL p).ev "record" ((({ S with evs := [] } : Sx).rowL p).log.getLastD 0) (.row n)) := by
    rw [← hd]
    rfl
  have eP : ({ S with evs := [] } : Sx).putRow p = (fun E : Sx => if (n + 1) % p.every.toNat = 0 then ({ E with done := n + 1 } : Sx).checkpoint else { E with done := n + 1 }) (({ S with evs := [] } : Sx).rowE p) := by
    rw [← hd]
    rfl
  -- the old keys
  have okeys : 0 < n → ∀ k, k ∈ S.nodes.map (·.1) ↔ k ∈ kn p n := fun z k => by
    obtain ⟨lv0, t1, t2, t3⟩ := I.kk z
    have hle : S.oldest ≤ pgN p (n - 1) := by rw [hol]; exact pgN_mono ok (by omega)
    rw [key_nd t3 hle k, kn_rlv ok (show 1 ≤ n by omega), hkb, ← hol]
    have := (rlv_is hf2 hle).uniq t2
    rw [show rlv p.fan.toNat S.oldest (pgN p (n - 1)) = lv0 by omega]
  have okeys2 : ∀ k, k ∈ S.nodes.map (·.1) ↔ k ∈ kn p n := fun k => by
    by_cases z : n = 0
    · rw [(I.k0 z).1, z, kn_zero]; simp
    · exact okeys (by omega) k
  have ejn : jn p n = ndN p.fan.toNat S.oldest (pgN p n) (lv + 1) := by unfold jn; rw [hkb, ← hol, elv]
  -- the first step
  have hlast : ∀ z : n ≠ 0, S.oldest + S.heap.length = pgN p (n - 1) + 1 := fun z => by rw [hob, if_neg z]
  have aH : Adds ({ S with evs := [] } : Sx) (({ S with evs := [] } : Sx).rowH p) ((open Classical in if begP p n then [(("take" : Str), Ro.hp (pgN p n : Nat))] else []) ++ (begR p n).map fun k => (("take" : Str), Ro.nd k.1 k.2)) := by
    have aR : Adds ({ S with evs := [] } : Sx) ((({ S with evs := [] } : Sx).rowL p).ev "record" ((({ S with evs := [] } : Sx).rowL p).log.getLastD 0) (.row n)) [] :=
      (adds_rowL _ p).trans ((adds_ev "record" _ _ rfl (evk_other (by decide) (by decide))).of (rol_no rfl))
    generalize hU : (({ S with evs := [] } : Sx).rowL p).ev "record" ((({ S with evs := [] } : Sx).rowL p).log.getLastD 0) (.row n) = U at aR eH
    have u4 : U.heap = S.heap := by subst hU; exact l4
    have u5 : U.nodes = S.nodes := by subst hU; exact l5
    have u7 : U.oldest = S.oldest := by subst hU; exact l7
    have u8 : U.top = S.top := by subst hU; exact l8
    dsimp only at eH
    by_cases c : n = startN p (U.oldest + U.heap.length)
    · rw [if_pos c] at eH
      have hb : U.oldest + U.heap.length = pgN p n := by
        have := pgN_start ok (U.oldest + U.heap.length)
        rw [← c] at this
        exact this.symm
      have hB : begP p n := by unfold begP; rw [← hb]; exact c.symm
      have ab := adds_beginPage U p.fan.toNat
      rw [hb, u5, u7, u8, ← elv] at ab
      rw [if_pos hB, eH]
      have hkeys := beginPage_facts (f := p.fan.toNat) (S := U) (by subst hU; exact own_ev l1 _ _ _)
      have h9' := hkeys.2.2.2.2.2.2.2.2
      rw [hb, u5, u7, u8, ← elv] at h9'
      rw [eH] at h10
      rw [h9'] at h10
      have hbg : begunL p.fan.toNat S.oldest (pgN p n) S.top S.nodes (lv + 1) = begR p n := by
        refine nk_uniq (begunL_srt _ _ _ _ _ _) (List.Pairwise.filter _ (by rw [ejn]; exact ndN_srt _ _ _ _)) fun k => ?_
        unfold begR
        rw [List.mem_filter, decide_eq_true_iff, ejn, ← key_nd h10 hon k, List.mem_append, ← okeys2 k]
        constructor
        · intro h
          exact ⟨.inr h, begunL_out h⟩
        · rintro ⟨h, h'⟩
          exact h.resolve_left h'
      rw [hbg] at ab
      exact (aR.trans ab).of rfl
    · rw [if_neg c] at eH
      rw [u4, u7] at c
      have z : n ≠ 0 := fun z => by
        rw [if_pos z] at hob
        rw [hob, z] at c
        exact c (start_zero p).symm
      have h1 := hlast z
      rw [h1] at c
      have en := (pg_next ok (show 0 < n by omega)).2 c
      have hB : ¬ begP p n := fun h => by
        unfold begP at h
        obtain ⟨q1, q2⟩ := pgN_on ok (n - 1)
        rw [en] at h
        omega
      have hbg : begR p n = [] := by
        have : jn p n = kn p n := by rw [kn_rlv ok (show 1 ≤ n by omega), ← en]; rfl
        unfold begR
        rw [this]
        exact filt_self _
      rw [if_neg hB, hbg, eH]
      exact aR
  have aB : Adds ({ S with evs := [] } : Sx) (({ S with evs := [] } : Sx).rowB p) ((open Classical in if begP p n then [(("take" : Str), Ro.hp (pgN p n : Nat))] else []) ++ (begR p n).map fun k => (("take" : Str), Ro.nd k.1 k.2)) := by
    refine (aH.trans ((adds_ev "put" ((({ S with evs := [] } : Sx).rowH p).heap.getLastD 0) (.row n) (by rw [eB]; rfl) (evk_other (by decide) (by decide))).of (rol_no rfl))).of (List.append_nil _)
  have hne : (({ S with evs := [] } : Sx).rowH p).heap ≠ [] := fun z => by
    rw [z] at h7
    simp only [List.length_nil] at h7
    omega
  have hcn : 0 < (({ S with evs := [] } : Sx).rowH p).heap.count ((({ S with evs := [] } : Sx).rowH p).heap.getLastD 0) := List.count_pos_iff.mpr (by
    rw [List.getLastD_eq_getLast?, List.getLast?_eq_some_getLast hne]
    exact List.getLast_mem hne)
  have oB : Own (({ S with evs := [] } : Sx).rowB p) [] := by
    rw [eB]
    exact own_ev (own_mark (q := (({ S with evs := [] } : Sx).rowH p).heap.getLastD 0) h1 (h1.rng (c := (({ S with evs := [] } : Sx).rowH p).heap.getLastD 0) (by omega))) _ _ _
  have b5 : (({ S with evs := [] } : Sx).rowB p).oldest = S.oldest := by rw [eB]; exact h5
  have b7 : (({ S with evs := [] } : Sx).rowB p).oldest + (({ S with evs := [] } : Sx).rowB p).heap.length = pgN p n + 1 := by rw [eB]; exact h7
  have b10 : KeyAt p.fan.toNat S.oldest (pgN p n) lv ((({ S with evs := [] } : Sx).rowB p).nodes.map (·.1)) := by rw [eB]; exact h10
  have ekn1 : kn p (n + 1) = ndN p.fan.toNat (({ S with evs := [] } : Sx).rowE p).oldest (pgN p n) (lv2 + 1) := by
    have hle : (({ S with evs := [] } : Sx).rowE p).oldest ≤ pgN p n := by rw [e5]; exact pgN_mono ok (by omega)
    rw [kn_rlv ok (show 1 ≤ n + 1 by omega), Nat.add_sub_cancel, hkb1, ← e5]
    have := (rlv_is hf2 hle).uniq e9
    rw [show rlv p.fan.toNat (({ S with evs := [] } : Sx).rowE p).oldest (pgN p n) = lv2 by omega]
  have hleE : (({ S with evs := [] } : Sx).rowE p).oldest ≤ pgN p n := by rw [e5]; exact pgN_mono ok (by omega)
  have nkeys : ∀ k, k ∈ (({ S with evs := [] } : Sx).rowE p).nodes.map (·.1) ↔ k ∈ kn p (n + 1) := fun k => by rw [ekn1]; exact key_nd e10 hleE k
  have aE : Adds ({ S with evs := [] } : Sx) (({ S with evs := [] } : Sx).rowE p) (rowR p n) := by
    dsimp only at eE
    by_cases c : n + 1 = startN p ((({ S with evs := [] } : Sx).rowB p).oldest + 1) + p.keep.toNat
    · rw [if_pos c] at eE
      obtain ⟨q1, q2, q3⟩ := (e0 c).1
      have hkk : (({ S with evs := [] } : Sx).rowB p).oldest + 1 = pgN p (kbN p (n + 1)) := by
        have e : n + 1 - p.keep.toNat = startN p ((({ S with evs := [] } : Sx).rowB p).oldest + 1) := by omega
        have e2 := pgN_start ok ((({ S with evs := [] } : Sx).rowB p).oldest + 1)
        rw [← e] at e2
        exact e2.symm
      have hE : endP p n := by unfold endP; rw [← hkk, hkb, ← hol, b5]; omega
      have ae := adds_endPage (({ S with evs := [] } : Sx).rowB p) p.fan.toNat
      rw [← eE] at ae
      obtain ⟨c1, c2, c3, c4, c5, c6, c7, c8, c9, c10⟩ := endPage_facts (f := p.fan.toNat) (S := ({ S with evs := [] } : Sx).rowB p) oB q1 b10.nd q2 q3
      rw [← eE] at c10
      have hed : sortP (endedL p.fan.toNat (({ S with evs := [] } : Sx).rowB p).oldest (({ S with evs := [] } : Sx).rowB p).nodes ((({ S with evs := [] } : Sx).rowB p).endLv p.fan.toNat)) = endR p n := by
        refine (sortP_eq (L := endR p n) ?_ ((List.Pairwise.filter _ (by rw [ejn]; exact ndN_srt _ _ _ _)).imp lexLt_le)).symm
        refine (List.perm_ext_iff_of_nodup (srt_nd (List.Pairwise.filter _ (by rw [ejn]; exact ndN_srt _ _ _ _))) q2).mpr fun k => ?_
        rw [List.mem_filter, decide_eq_true_iff, ejn, ← key_nd b10 hon k, ← nkeys k, c10 k]
        constructor
        · rintro ⟨h, h'⟩
          exact Classical.byContradiction fun z => h' ⟨h, z⟩
        · intro h
          exact ⟨q3 k h, fun z => z.2 h⟩
      have ae2 := ae.of (b := [(("give" : Str), Ro.hp (pgN p (kbN p n) : Nat))] ++ (endR p n).map fun k => (("give" : Str), Ro.nd k.1 k.2)) (by rw [hed, b5, hkb, ← hol]; rfl)
      unfold rowR
      rw [if_pos hE]
      exact aB.trans ae2
    · rw [if_neg c] at eE
      have hE : ¬ endP p n := fun h => by
        unfold endP at h
        rw [hkb, ← hol, ← b5, hkb1, ← e5, eE] at h
        omega
      have her : endR p n = [] := by
        have : jn p n = kn p (n + 1) := by
          rw [ekn1, ejn, eE, b5]
          have e9' := e9
          rw [eE, b5] at e9'
          have := h9.uniq e9'
          rw [show lv = lv2 by omega]
        unfold endR
        rw [this]
        exact filt_self _
      unfold rowR
      rw [if_neg hE, her, eE]
      exact aB.of (by simp)
  have aP : Adds ({ S with evs := [] } : Sx) (({ S with evs := [] } : Sx).putRow p) (rowR p n) ∧ (({ S with evs := [] } : Sx).putRow p).nodes = (({ S with evs := [] } : Sx).rowE p).nodes := by
    rw [eP]
    dsimp only
    split
    · refine ⟨(aE.trans ((Adds.refl (T := ({ ({ S with evs := [] } : Sx).rowE p with done := n + 1 } : Sx)) rfl).trans (adds_checkpoint _))).of (by simp), ?_⟩
      exact (checkpoint_facts (S := ({ ({ S with evs := [] } : Sx).rowE p with done := n + 1 } : Sx)) ⟨e1.pm, e1.cn, e1.cs⟩).2.2.1
    · exact ⟨(aE.trans (.refl rfl)).of (by simp), rfl⟩
  obtain ⟨⟨es, a1, a2, a3⟩, a4⟩ := aP
  have a1 : (S.step p).evs = es := a1
  have a4 : (S.step p).nodes = (({ S with evs := [] } : Sx).rowE p).nodes := a4
  refine ⟨by rw [a1]; exact a2, by rw [a1]; exact a3, ?_⟩
  rw [a4, sort_nd e10 hleE, ekn1]
/-! ### the law's plain store: a world, in the heap -/
structure Wx where
  rows : Nat
  page : Int
  left : Int
  first : List (Int × Int)
  heap : List (Int × Int)
  nodes : List (NK × Int)
  log : List Int
  waiting : List Int
  list : List Int
  size : Nat
  changed : List Int
  evs : List Ev
structure WAd where
  w : Addr
  pa : Addr
  fi : Addr
  he : Addr
  no : Addr
  lo : Addr
  wa : Addr
  li : Addr
  ch : Addr
  ev : Addr
def hpE (e : Int × Int) : L2.Key × V := (.inl e.1, .int e.2)
def wL (A : WAd) (W : Wx) : List (L2.Key × V) := [(.inr "parts", .ref A.pa), (.inr "rows", .int W.rows), (.inr "page", .int W.page), (.inr "left", .int W.left), (.inr "first", .ref A.fi), (.inr "heap", .ref A.he), (.inr "nodes", .ref A.no), (.inr "log", .ref A.lo), (.inr "waiting", .ref A.wa), (.inr "list", .ref A.li), (.inr "size", .int W.size), (.inr "changed", .ref A.ch)]
/-- objects at their addresses -/
def AtL (H : Hp) (L : List (Addr × HO)) : Prop := ∀ e ∈ L, H e.1 = some e.2
theorem AtL.get {H : Hp} {L : List (Addr × HO)} (h : AtL H L) {i : Nat} {e : Addr × HO} (hi : L[i]? = some e) : H e.1 = some e.2 := h e (List.mem_of_getElem? hi)
theorem AtL.same {H H' : Hp} {L : List (Addr × HO)} (h : AtL H L) (s : Same H H') : AtL H' L := fun e he => s _ _ (h e he)
theorem nd_get {α : Type} {l : List α} (nd : l.Nodup) {i j : Nat} {a : α} (hi : l[i]? = some a) (hj : l[j]? = some a) : i = j :=
  (List.getElem?_inj (List.getElem?_eq_some_iff.mp hi).1 nd).mp (hi.trans hj.symm)
theorem AtL.set {H : Hp} {L : List (Addr × HO)} (h : AtL H L) (nd : (L.map (·.1)).Nodup) {i : Nat} {a : Addr} {o u : HO} (hi : L[i]? = some (a, u)) : AtL (L2.upd H a o) (L.set i (a, o)) := by
  intro e he
  obtain ⟨j, hj⟩ := List.mem_iff_getElem?.mp he
  rw [List.getElem?_set] at hj
  by_cases c : i = j
  · subst c
    rw [if_pos rfl, if_pos (List.getElem?_eq_some_iff.mp hi).1] at hj
    cases hj
    exact upd_same
  · rw [if_neg c] at hj
    have ne : e.1 ≠ a := fun z => c (nd_get nd (i := i) (j := j) (a := a) (by rw [List.getElem?_map, hi]; rfl) (by rw [List.getElem?_map, hj]; exact congrArg some z))
    rw [upd_ne ne]
    exact h e (List.mem_of_getElem? hj)
theorem set_fst {L : List (Addr × HO)} {i : Nat} {a : Addr} {o u : HO} (hi : L[i]? = some (a, u)) : (L.set i (a, o)).map (·.1) = L.map (·.1) := by
  apply List.ext_getElem?
  intro j
  rw [List.getElem?_map, List.getElem?_map, List.getElem?_set]
  by_cases c : i = j
  · subst c
    rw [if_pos rfl, if_pos (List.getElem?_eq_some_iff.mp hi).1, hi]
    rfl
  · rw [if_neg c]
/-- another address in its place -/
theorem AtL.repl {H : Hp} {L : List (Addr × HO)} (h : AtL H L) (i : Nat) {d : Addr} {o : HO} (hd : H d = some o) : AtL H (L.set i (d, o)) := by
  intro e he
  rcases List.mem_or_eq_of_mem_set he with h1 | h1
  · exact h e h1
  · subst h1; exact hd
theorem nodup_set {α : Type} : ∀ {l : List α} (_ : l.Nodup) (i : Nat) {d : α} (_ : d ∉ l), (l.set i d).Nodup
  | [], _, _, _, _ => by simp
  | x :: l, nd, 0, d, hd => by
    rw [List.nodup_cons] at nd
    rw [List.set_cons_zero, List.nodup_cons]
    exact ⟨fun z => hd (List.mem_cons_of_mem _ z), nd.2⟩
  | x :: l, nd, i + 1, d, hd => by
    rw [List.nodup_cons] at nd
    rw [List.set_cons_succ, List.nodup_cons]
    refine ⟨fun z => ?_, nodup_set nd.2 i fun z => hd (List.mem_cons_of_mem _ z)⟩
    rcases List.mem_or_eq_of_mem_set z with h | h
    · exact nd.1 h
    · exact hd (by rw [h]; exact List.mem_cons_self)
theorem repl_nd {L : List (Addr × HO)} (nd : (L.map (·.1)).Nodup) (i : Nat) {d : Addr} (o : HO) (hd : d ∉ L.map (·.1)) : ((L.set i (d, o)).map (·.1)).Nodup := by
  rw [List.map_set]
  exact nodup_set nd i hd
def worldL (A : WAd) (W : Wx) (vs : List V) : List (Addr × HO) := [(A.w, .dK (wL A W)), (A.fi, .dK (W.first.map hpE)), (A.he, .dK (W.heap.map hpE)), (A.no, .dT (W.nodes.map ndE)), (A.lo, .lst (W.log.map V.int)), (A.wa, .lst (W.waiting.map V.int)), (A.li, .lst (W.list.map V.int)), (A.ch, .lst (W.changed.map V.int)), (A.ev, .lst vs)]
def WAd.own (A : WAd) : List Addr := [A.w, A.fi, A.he, A.no, A.lo, A.wa, A.li, A.ch, A.ev]
theorem own_L (A : WAd) (W : Wx) (vs : List V) : (worldL A W vs).map (·.1) = A.own := rfl
/-- a world within a row: its events are kept at A.ev -/
structure WAt (H : Hp) (A : WAd) (G : Hp) (p : Prt) (W : Wx) (vs : List V) : Prop where
  at_ : AtL H (worldL A W vs)
  nd : A.own.Nodup
  ev : EvsAt H vs W.evs
  pd : PdAt G A.pa p
  g : Same G H
  gn : ∀ b ∈ A.own, G b = none
/-- a world between rows -/
structure WR (H : Hp) (A : WAd) (G : Hp) (p : Prt) (W : Wx) : Prop where
  at_ : AtL H (worldL A W []).dropLast
  nd : A.own.dropLast.Nodup
  pd : PdAt G A.pa p
  g : Same G H
  gn : ∀ b ∈ A.own.dropLast, G b = none
def WF (A : WAd) (H : Hp) (A' : WAd) (H' : Hp) : Prop := (A'.w = A.w ∧ A'.pa = A.pa ∧ A'.ev = A.ev) ∧ (∀ b o, b ∉ A.own → H b = some o → H' b = some o) ∧ (∀ b ∈ A'.own, b ∈ A.own ∨ H b = none) ∧ TP H H'
theorem WF.refl {A : WAd} {H : Hp} : WF A H A H := ⟨⟨rfl, rfl, rfl⟩, fun _ _ _ h => h, fun _ h => .inl h, TP.refl⟩
theorem WF.trans {A A1 A2 : WAd} {H H1 H2 : Hp} (x : WF A H A1 H1) (y : WF A1 H1 A2 H2) : WF A H A2 H2 := by
  obtain ⟨⟨x1, x2, x3⟩, x4, x5, x6⟩ := x
  obtain ⟨⟨y1, y2, y3⟩, y4, y5, y6⟩ := y
  refine ⟨⟨y1.trans x1, y2.trans x2, y3.trans x3⟩, fun b o nb hb => ?_, fun b hb => ?_, x6.trans y6⟩
  · exact y4 b o (fun z => (x5 b z).elim nb (fun w => by rw [w] at hb; cases hb)) (x4 b o nb hb)
  · rcases y5 b hb with h | h
    · exact x5 b h
    · by_cases c : b ∈ A.own
      · exact .inl c
      · cases q : H b with
        | none => exact .inr rfl
        | some o => rw [x4 b o c q] at h; cases h
theorem WF.same {A : WAd} {H H' : Hp} (s : Same H H') : WF A H A H' := ⟨⟨rfl, rfl, rfl⟩, fun b o _ h => s b o h, fun _ h => .inl h, s.tp⟩
section
variable {H H1 : Hp} {A : WAd} {G : Hp} {p : Prt} {W : Wx} {vs : List V}
theorem WAt.same (t : WAt H A G p W vs) (s : Same H H1) : WAt H1 A G p W vs := ⟨t.at_.same s, t.nd, t.ev.tp s.tp, t.pd, fun b o h => s _ _ (t.g b o h), t.gn⟩
theorem WAt.tw (t : WAt H A G p W vs) : H A.w = some (.dK (wL A W)) := t.at_.get (i := 0) rfl
theorem WAt.tfi (t : WAt H A G p W vs) : H A.fi = some (.dK (W.first.map hpE)) := t.at_.get (i := 1) rfl
theorem WAt.the (t : WAt H A G p W vs) : H A.he = some (.dK (W.heap.map hpE)) := t.at_.get (i := 2) rfl
theorem WAt.tno (t : WAt H A G p W vs) : H A.no = some (.dT (W.nodes.map ndE)) := t.at_.get (i := 3) rfl
theorem WAt.tlo (t : WAt H A G p W vs) : H A.lo = some (.lst (W.log.map V.int)) := t.at_.get (i := 4) rfl
theorem WAt.twa (t : WAt H A G p W vs) : H A.wa = some (.lst (W.waiting.map V.int)) := t.at_.get (i := 5) rfl
theorem WAt.tli (t : WAt H A G p W vs) : H A.li = some (.lst (W.list.map V.int)) := t.at_.get (i := 6) rfl
theorem WAt.tch (t : WAt H A G p W vs) : H A.ch = some (.lst (W.changed.map V.int)) := t.at_.get (i := 7) rfl
theorem WAt.tev (t : WAt H A G p W vs) : H A.ev = some (.lst vs) := t.at_.get (i := 8) rfl
theorem WAt.pd' (t : WAt H A G p W vs) : PdAt H A.pa p := t.pd.same t.g
theorem WAt.some_ (t : WAt H A G p W vs) {b : Addr} (hb : b ∈ A.own) : H b ≠ none := fun z => by
  rw [← own_L A W vs] at hb
  obtain ⟨e, he, rfl⟩ := List.mem_map.mp hb
  rw [t.at_ e he] at z
  cases z
theorem WAt.fresh (t : WAt H A G p W vs) {d : Addr} (n : H d = none) : d ∉ A.own ∧ G d = none := by
  refine ⟨fun z => t.some_ z n, ?_⟩
  cases q : G d with
  | none => rfl
  | some o => rw [t.g d o q] at n; cases n
/-- a field's object is another one -/
theorem WAt.up (t : WAt H A G p W vs) (i : Nat) {a : Addr} {o u : HO} (hi : (worldL A W vs)[i]? = some (a, u)) (nt : ∀ ys, u ≠ .tup ys) {W' : Wx} {vs' : List V} (hL : (worldL A W vs).set i (a, o) = worldL A W' vs') (he : EvsAt H vs' W'.evs) :
    WAt (L2.upd H a o) A G p W' vs' ∧ WF A H A (L2.upd H a o) := by
  have ha : a ∈ A.own := by
    rw [← own_L A W vs]
    exact List.mem_map.mpr ⟨_, List.mem_of_getElem? hi, rfl⟩
  have tp : TP H (L2.upd H a o) := TP.upd (t.at_.get hi) nt
  refine ⟨⟨hL ▸ t.at_.set t.nd hi, t.nd, he.tp tp, t.pd, fun b v h => ?_, t.gn⟩, ⟨rfl, rfl, rfl⟩, fun b v nb h => ?_, fun _ z => .inl z, tp⟩
  · rw [upd_ne (fun z => by rw [z, t.gn a ha] at h; cases h)]; exact t.g b v h
  · rw [upd_ne (fun z => nb (by rw [z]; exact ha))]; exact h
/-- a field is another list, a new one -/
theorem WAt.re (t : WAt H A G p W vs) {d : Addr} {o : HO} (n : H d = none) (s : Same H H1) (c : H1 d = some o) {A' : WAd} {W' : Wx} (i : Nat) (ea : A'.w = A.w ∧ A'.pa = A.pa ∧ A'.ev = A.ev) (ho : A'.own = A.own.set (i + 1) d)
    (hL : ((worldL A W vs).set (i + 1) (d, o)).set 0 (A.w, .dK (wL A' W')) = worldL A' W' vs) (he : W'.evs = W.evs) : WAt (L2.upd H1 A.w (.dK (wL A' W'))) A' G p W' vs ∧ WF A H A' (L2.upd H1 A.w (.dK (wL A' W'))) := by
  obtain ⟨hd, hg⟩ := t.fresh n
  have t1 := t.same s
  have tp : TP H1 (L2.upd H1 A.w (.dK (wL A' W'))) := TP.upd t1.tw fun _ z => nomatch z
  have nd1 : (((worldL A W vs).set (i + 1) (d, o)).map (·.1)).Nodup := repl_nd (L := worldL A W vs) t.nd (i + 1) o hd
  have a1 := (t1.at_.repl (i + 1) c).set nd1 (i := 0) (a := A.w) (o := .dK (wL A' W')) (u := .dK (wL A W)) rfl
  have nd2 : A'.own.Nodup := by rw [ho]; exact nodup_set t.nd (i + 1) hd
  have mem : ∀ b ∈ A'.own, b ∈ A.own ∨ b = d := fun b hb => by rw [ho] at hb; exact (List.mem_or_eq_of_mem_set hb)
  have hw : A.w ∈ A.own := List.mem_cons_self
  refine ⟨⟨hL ▸ a1, nd2, by rw [he]; exact t1.ev.tp tp, ea.2.1 ▸ t.pd, fun b v h => ?_, fun b hb => ?_⟩, ea, fun b v nb h => ?_, fun b hb => ?_, s.tp.trans tp⟩
  · rw [upd_ne (fun z => by rw [z, t.gn _ hw] at h; cases h)]; exact t1.g b v h
  · rcases mem b hb with h | h
    · exact t.gn b h
    · rw [h]; exact hg
  · rw [upd_ne (fun z => nb (by rw [z]; exact hw))]; exact s b v h
  · rcases mem b hb with h | h
    · exact .inl h
    · rw [h]; exact .inr n
end
theorem wg_parts {H : Hp} {A : WAd} {W : Wx} (h : H A.w = some (.dK (wL A W))) : DGet H A.w (.str "parts") (some (.ref A.pa)) := (show valV (wL A W) (Sum.inr "parts") = some (.ref A.pa) from by kernel_rfl) ▸ DGet.k (k := Sum.inr "parts") h
theorem wg_rows {H : Hp} {A : WAd} {W : Wx} (h : H A.w = some (.dK (wL A W))) : DGet H A.w (.str "rows") (some (.int W.rows)) := (show valV (wL A W) (Sum.inr "rows") = some (.int W.rows) from by kernel_rfl) ▸ DGet.k (k := Sum.inr "rows") h
theorem wg_page {H : Hp} {A : WAd} {W : Wx} (h : H A.w = some (.dK (wL A W))) : DGet H A.w (.str "page") (some (.int W.page)) := (show valV (wL A W) (Sum.inr "page") = some (.int W.page) from by kernel_rfl) ▸ DGet.k (k := Sum.inr "page") h
theorem wg_left {H : Hp} {A : WAd} {W : Wx} (h : H A.w = some (.dK (wL A W))) : DGet H A.w (.str "left") (some (.int W.left)) := (show valV (wL A W) (Sum.inr "left") = some (.int W.left) from by kernel_rfl) ▸ DGet.k (k := Sum.inr "left") h
theorem wg_first {H : Hp} {A : WAd} {W : Wx} (h : H A.w = some (.dK (wL A W))) : DGet H A.w (.str "first") (some (.ref A.fi)) := (show valV (wL A W) (Sum.inr "first") = some (.ref A.fi) from by kernel_rfl) ▸ DGet.k (k := Sum.inr "first") h
theorem wg_heap {H : Hp} {A : WAd} {W : Wx} (h : H A.w = some (.dK (wL A W))) : DGet H A.w (.str "heap") (some (.ref A.he)) := (show valV (wL A W) (Sum.inr "heap") = some (.ref A.he) from by kernel_rfl) ▸ DGet.k (k := Sum.inr "heap") h
theorem wg_nodes {H : Hp} {A : WAd} {W : Wx} (h : H A.w = some (.dK (wL A W))) : DGet H A.w (.str "nodes") (some (.ref A.no)) := (show valV (wL A W) (Sum.inr "nodes") = some (.ref A.no) from by kernel_rfl) ▸ DGet.k (k := Sum.inr "nodes") h
theorem wg_log {H : Hp} {A : WAd} {W : Wx} (h : H A.w = some (.dK (wL A W))) : DGet H A.w (.str "log") (some (.ref A.lo)) := (show valV (wL A W) (Sum.inr "log") = some (.ref A.lo) from by kernel_rfl) ▸ DGet.k (k := Sum.inr "log") h
theorem wg_waiting {H : Hp} {A : WAd} {W : Wx} (h : H A.w = some (.dK (wL A W))) : DGet H A.w (.str "waiting") (some (.ref A.wa)) := (show valV (wL A W) (Sum.inr "waiting") = some (.ref A.wa) from by kernel_rfl) ▸ DGet.k (k := Sum.inr "waiting") h
theorem wg_list {H : Hp} {A : WAd} {W : Wx} (h : H A.w = some (.dK (wL A W))) : DGet H A.w (.str "list") (some (.ref A.li)) := (show valV (wL A W) (Sum.inr "list") = some (.ref A.li) from by kernel_rfl) ▸ DGet.k (k := Sum.inr "list") h
theorem wg_size {H : Hp} {A : WAd} {W : Wx} (h : H A.w = some (.dK (wL A W))) : DGet H A.w (.str "size") (some (.int W.size)) := (show valV (wL A W) (Sum.inr "size") = some (.int W.size) from by kernel_rfl) ▸ DGet.k (k := Sum.inr "size") h
theorem wg_changed {H : Hp} {A : WAd} {W : Wx} (h : H A.w = some (.dK (wL A W))) : DGet H A.w (.str "changed") (some (.ref A.ch)) := (show valV (wL A W) (Sum.inr "changed") = some (.ref A.ch) from by kernel_rfl) ▸ DGet.k (k := Sum.inr "changed") h
theorem wp_any {H : Hp} {A A' : WAd} {W W' : Wx} {x : Str} {v : V} (h : H A.w = some (.dK (wL A W))) (e : putK (wL A W) (Sum.inr x) v = wL A' W') : DPut H A.w (.str x) v (L2.upd H A.w (.dK (wL A' W'))) := put_k h (show 12 ≤ 100 by decide) e
def Wx.takeP (W : Wx) : Int := if W.list = [] then (W.size : Int) else W.list.getLastD 0
def Wx.say (W : Wx) (k : Str) (q : Int) (r : Ro) : Wx := { W with evs := W.evs ++ [⟨k, q, r⟩] }
def Wx.taking (W : Wx) : Wx := if W.list = [] then { W with size := W.size + 1 } else { W with list := W.list.dropLast }
def Wx.take (W : Wx) (r : Ro) : Wx := W.taking.say "take" W.takeP r
def Wx.give (W : Wx) (q : Int) (r : Ro) : Wx := ({ W with changed := cdrop W.changed q, waiting := W.waiting ++ [q] } : Wx).say "give" q r
def Wx.mark (W : Wx) (q : Int) : Wx := { W with changed := cput W.changed q }
local macro_rules | `(tactic| walk_at "dg") => `(tactic| first
  | exact KR.pg_lengths (by walk_at "hp")
  | exact KR.pg_size (by walk_at "hp")
  | exact KR.pg_fanout (by walk_at "hp")
  | exact KR.pg_records (by walk_at "hp")
  | exact KR.pg_every (by walk_at "hp")
  | exact KR.pg_keep (by walk_at "hp")
  | exact KR.wg_parts (by walk_at "hp")
  | exact KR.wg_rows (by walk_at "hp")
  | exact KR.wg_page (by walk_at "hp")
  | exact KR.wg_left (by walk_at "hp")
  | exact KR.wg_first (by walk_at "hp")
  | exact KR.wg_heap (by walk_at "hp")
  | exact KR.wg_nodes (by walk_at "hp")
  | exact KR.wg_log (by walk_at "hp")
  | exact KR.wg_waiting (by walk_at "hp")
  | exact KR.wg_list (by walk_at "hp")
  | exact KR.wg_size (by walk_at "hp")
  | exact KR.wg_changed (by walk_at "hp"))
@[irreducible] def sp_law_take : Sp := fun xs H Q _ => ∃ (A : WAd) (G : Hp) (p : Prt) (W : Wx) (vs : List V) (v : V) (r : Ro), xs = [.ref A.w, v, .ref A.ev] ∧ WAt H A G p W vs ∧ RoV H v r ∧ (r ≠ .no) ∧ vs.length ≤ 99000 ∧
  ∀ (H' : Hp) (vs' : List V), WAt H' A G p (W.take r) vs' → WF A H A H' → Q (.int W.takeP) H'
theorem use_take28 {A : WAd} {a b : Addr} {G : Hp} {p : Prt} {W : Wx} {vs : List V} {v : V} {r : Ro} {H : Hp} {Q : VK} {E : XK} (ea : a = A.w) (eb : b = A.ev) (t : WAt H A G p W vs) (hr : RoV H v r) (hn : r ≠ .no) (hv : vs.length ≤ 99000)
  (k : ∀ (H' : Hp) (vs' : List V), WAt H' A G p (W.take r) vs' → WF A H A H' → Q (.int W.takeP) H') : sp_law_take [.ref a, v, .ref b] H Q E := by
  subst ea eb; unfold sp_law_take; exact ⟨A, G, p, W, vs, v, r, rfl, t, hr, hn, hv, k⟩
theorem last_get {xs : List Int} (h : xs ≠ []) : (xs.map V.int)[(xs.map V.int).length - 1]? = some (.int (xs.getLastD 0)) := by
  rw [List.length_map, List.getElem?_map, ← List.getLast?_eq_getElem?, List.getLast?_eq_some_getLast h, List.getLastD_eq_getLast?, List.getLast?_eq_some_getLast h]
  rfl
theorem evs_snoc {H : Hp} {vs : List V} {es : List Ev} {q : Addr} {k : Str} {g : Int} {v : V} {r : Ro} (h : EvsAt H vs es) (hr : RoV H v r) (hn : r ≠ .no) (hq : H q = some (.tup [.str k, .int g, v])) : EvsAt H (vs ++ [.ref q]) (es ++ [⟨k, g, r⟩]) :=
  h.snoc ⟨q, v, rfl, hr, by cases r <;> first | exact absurd rfl hn | exact hq⟩
theorem b_law_take {K : PySem.W.Frag} {fd : FuncData} (F : F_law_take K fd) : Binds K fd P_law_take [] := FunD.bindsN F fun _ _ _ _ _ _ us hl => match us, hl with | [_, _, _], _ => rfl
theorem ok_law_take (T : Txt K mg D) : FnOk P w K mg base CX0 1 (He.fAd K ("_law_take", none)) (D D_law_take) P_law_take sp_law_take := by
  refine T.d_law_take.ok sc_law_take (fun vs H Q E h => ?_) (fun cdv A outer s H vs Q E hr h => ?_)
  · unfold sp_law_take at h
    first | (obtain ⟨rfl, _⟩ := h; rfl) | (obtain ⟨_, rfl, _⟩ := h; rfl) | (obtain ⟨_, _, rfl, _⟩ := h; rfl) | (obtain ⟨_, _, _, rfl, _⟩ := h; rfl) | (obtain ⟨_, _, _, _, rfl, _⟩ := h; rfl) | (obtain ⟨_, _, _, _, _, rfl, _⟩ := h; rfl) | (obtain ⟨_, _, _, _, _, _, rfl, _⟩ := h; rfl) | (obtain ⟨_, _, _, _, _, _, _, rfl, _⟩ := h; rfl) | (obtain ⟨_, _, _, _, _, _, _, _, rfl, _⟩ := h; rfl) | (obtain ⟨_, _, _, _, _, _, _, _, _, rfl, _⟩ := h; rfl) | (obtain ⟨_, _, _, _, _, _, _, _, _, _, rfl, _⟩ := h; rfl) | (obtain ⟨_, _, _, _, _, _, _, _, _, _, _, rfl, _⟩ := h; rfl)
  · refine ⟨_, PSs.nox (pss_cons (ps_if (pt_cmpR (op_neNK (K := K) hr.units) (pe_dget (hu_of hr) (pv 0) pe_str (fun _ _ => rfl)) (pe_lst pa_nil) (nomark _)) (pss_one (ps_set (i := 3) sc_law_take.nd rfl (Or.inl rfl) (pe_bm0 PySem.F.plainAttrs_list PySem.F.slot_list_pop PySem.F.type_list_pop mt_pop (pe_dget (hu_of hr) (pv 0) pe_str (fun _ _ => rfl))))) (pss_cons (ps_set (i := 3) sc_law_take.nd rfl (Or.inl rfl) (pe_dget (hu_of hr) (pv 0) pe_str (fun _ _ => rfl)))
      (pss_one (ps_dput (hu_of hr) (pv 0) pe_str (pe_op op_add (pv 3) pe_int) rfl))))
      (pss_cons (ps_expr (pe_bm PySem.F.plainAttrs_list PySem.F.slot_list_append PySem.F.type_list_append mt_append (pv 2) (pa_cons (pe_tup (pa_cons pe_str (pa_cons (pv 3) (pa_cons (pv 1) pa_nil)))) pa_nil)))
      (pss_one (ps_ret (pv 3))))), ?_⟩
    unfold sp_law_take at h
    obtain ⟨A, G, p, W, vs, v, r, rfl, t, hr, hrn, hv, k⟩ := h
    have tw := t.tw
    walk_at "rd"
    intro q1 n1
    generalize eH1 : upd _ q1 _ = H1
    obtain ⟨g1, c1⟩ := gen_new n1 eH1
    clear eH1
    refine ne_nil (g1 _ _ t.tli) c1 ?_
    have t1 := t.same g1
    have tw1 := t1.tw
    by_cases c : W.list = []
    · rw [decide_eq_false (fun z => z c)]
      walk_at "rd"
      refine ⟨_, _, rfl, wp_any (A' := A) (W' := { W with size := W.size + 1 }) tw1 (by kernel_rfl), ?_⟩
      obtain ⟨t2, f2⟩ := t1.up (W' := { W with size := W.size + 1 }) (vs' := vs) 0 (o := .dK (wL A { W with size := W.size + 1 })) rfl (fun _ z => nomatch z) rfl t1.ev
      generalize L2.upd H1 A.w _ = G2 at t2 f2 ⊢
      have tw2 := t2.tw
      walk_at "rd"
      refine ⟨.inl ⟨rfl, _, SqL.of t2.tev⟩, ?_⟩
      walk_at "rd"
      intro q3 n3
      generalize eG3 : upd _ q3 _ = G3
      obtain ⟨g3, c3⟩ := gen_new n3 eG3
      clear eG3
      have t3 := t2.same g3
      refine ⟨_, _, _, rfl, rfl, t3.tev, szlt (by omega), ?_⟩
      have ep : W.takeP = (W.size : Int) := by unfold Wx.takeP; rw [if_pos c]
      have et : W.take r = ({ W with size := W.size + 1 } : Wx).say "take" (W.size : Int) r := by unfold Wx.take Wx.taking; rw [if_pos c, ep]
      have hr3 := (hr.tp (g1.tp.trans f2.2.2.2)).tp g3.tp
      obtain ⟨t4, f4⟩ := t3.up (W' := ({ W with size := W.size + 1 } : Wx).say "take" (W.size : Int) r) (vs' := vs ++ [.ref q3]) 8 (o := .lst (vs ++ [.ref q3])) rfl (fun _ z => nomatch z) rfl (evs_snoc t3.ev hr3 hrn c3)
      generalize L2.upd G3 A.ev _ = G4 at t4 f4 ⊢
      walk_at "rd"
      rw [et, ep] at k
      exact k G4 _ t4 ((((WF.same g1).trans f2).trans (WF.same g3)).trans f4)
    · rw [decide_eq_true c]
      walk_at "rd"
      refine ⟨.inl ⟨rfl, _, SqL.of t1.tli⟩, ?_⟩
      walk_at "rd"
      refine ⟨_, _, _, rfl, rfl, t1.tli, last_get c, ?_⟩
      rw [← List.map_dropLast]
      obtain ⟨t2, f2⟩ := t1.up (W' := { W with list := W.list.dropLast }) (vs' := vs) 6 (o := .lst (W.list.dropLast.map V.int)) rfl (fun _ z => nomatch z) rfl t1.ev
      generalize L2.upd H1 A.li _ = G2 at t2 f2 ⊢
      have tw2 := t2.tw
      walk_at "rd"
      refine ⟨.inl ⟨rfl, _, SqL.of t2.tev⟩, ?_⟩
      walk_at "rd"
      intro q3 n3
      generalize eG3 : upd _ q3 _ = G3
      obtain ⟨g3, c3⟩ := gen_new n3 eG3
      clear eG3
      have t3 := t2.same g3
      refine ⟨_, _, _, rfl, rfl, t3.tev, szlt (by omega), ?_⟩
      have ep : W.takeP = W.list.getLastD 0 := by unfold Wx.takeP; rw [if_neg c]
      have et : W.take r = ({ W with list := W.list.dropLast } : Wx).say "take" (W.list.getLastD 0) r := by unfold Wx.take Wx.taking; rw [if_neg c, ep]
      have hr3 := (hr.tp (g1.tp.trans f2.2.2.2)).tp g3.tp
      obtain ⟨t4, f4⟩ := t3.up (W' := ({ W with list := W.list.dropLast } : Wx).say "take" (W.list.getLastD 0) r) (vs' := vs ++ [.ref q3]) 8 (o := .lst (vs ++ [.ref q3])) rfl (fun _ z => nomatch z) rfl (evs_snoc t3.ev hr3 hrn c3)
      generalize L2.upd G3 A.ev _ = G4 at t4 f4 ⊢
      walk_at "rd"
      rw [et, ep] at k
      exact k G4 _ t4 ((((WF.same g1).trans f2).trans (WF.same g3)).trans f4)

@[irreducible] def sp_law_mark : Sp := fun xs H Q _ => ∃ (A : WAd) (G : Hp) (p : Prt) (W : Wx) (vs : List V) (q : Int), xs = [.ref A.w, .int q] ∧ WAt H A G p W vs ∧ W.changed.length ≤ 99000 ∧
  ∀ (H' : Hp), WAt H' A G p (W.mark q) vs → WF A H A H' → Q .non H'
theorem use_mark28 {A : WAd} {a : Addr} {G : Hp} {p : Prt} {W : Wx} {vs : List V} {q : Int} {H : Hp} {Q : VK} {E : XK} (ea : a = A.w) (t : WAt H A G p W vs) (hc : W.changed.length ≤ 99000)
  (k : ∀ (H' : Hp), WAt H' A G p (W.mark q) vs → WF A H A H' → Q .non H') : sp_law_mark [.ref a, .int q] H Q E := by
  subst ea; unfold sp_law_mark; exact ⟨A, G, p, W, vs, q, rfl, t, hc, k⟩
theorem inV_ints (x : Int) (xs : List Int) : inV (.int x) (xs.map V.int) = decide (x ∈ xs) := by
  unfold inV
  rw [List.any_map, Bool.eq_iff_iff, List.any_eq_true, decide_eq_true_iff]
  constructor
  · rintro ⟨y, hy, e⟩
    have e : eqV (.int y) (.int x) = true := e
    unfold eqV at e
    have : y = x := by simpa using e
    exact this ▸ hy
  · intro h
    refine ⟨x, h, ?_⟩
    show eqV (.int x) (.int x) = true
    unfold eqV
    simp
theorem flat_ints (xs : List Int) : (xs.map V.int).all flatV = true := by
  rw [List.all_eq_true]
  intro y hy
  obtain ⟨z, _, rfl⟩ := List.mem_map.mp hy
  rfl
theorem b_law_mark {K : PySem.W.Frag} {fd : FuncData} (F : F_law_mark K fd) : Binds K fd P_law_mark [] := FunD.bindsN F fun _ _ _ _ _ _ us hl => match us, hl with | [_, _], _ => rfl
theorem ok_law_mark (T : Txt K mg D) : FnOk P w K mg base CX0 1 (He.fAd K ("_law_mark", none)) (D D_law_mark) P_law_mark sp_law_mark := by
  refine T.d_law_mark.ok sc_law_mark (fun vs H Q E h => ?_) (fun cdv A outer s H vs Q E hr h => ?_)
  · unfold sp_law_mark at h
    first | (obtain ⟨rfl, _⟩ := h; rfl) | (obtain ⟨_, rfl, _⟩ := h; rfl) | (obtain ⟨_, _, rfl, _⟩ := h; rfl) | (obtain ⟨_, _, _, rfl, _⟩ := h; rfl) | (obtain ⟨_, _, _, _, rfl, _⟩ := h; rfl) | (obtain ⟨_, _, _, _, _, rfl, _⟩ := h; rfl) | (obtain ⟨_, _, _, _, _, _, rfl, _⟩ := h; rfl) | (obtain ⟨_, _, _, _, _, _, _, rfl, _⟩ := h; rfl) | (obtain ⟨_, _, _, _, _, _, _, _, rfl, _⟩ := h; rfl) | (obtain ⟨_, _, _, _, _, _, _, _, _, rfl, _⟩ := h; rfl) | (obtain ⟨_, _, _, _, _, _, _, _, _, _, rfl, _⟩ := h; rfl) | (obtain ⟨_, _, _, _, _, _, _, _, _, _, _, rfl, _⟩ := h; rfl)
  · refine ⟨_, PSs.nox (pss_one (ps_if (pt_cmpR (op_notInK (K := K)) (pv 1) (pe_dget (hu_of hr) (pv 0) pe_str (fun _ _ => rfl)) rfl) (pss_one (ps_expr (pe_bm PySem.F.plainAttrs_list PySem.F.slot_list_append PySem.F.type_list_append mt_append (pe_dget (hu_of hr) (pv 0) pe_str (fun _ _ => rfl)) (pa_cons (pv 1) pa_nil)))) pss_nil)), ?_⟩
    unfold sp_law_mark at h
    obtain ⟨A, G, p, W, vs, q, rfl, t, hc, k⟩ := h
    have tw := t.tw
    have tch := t.tch
    walk_at "rd"
    refine ⟨flat_ints _, ?_⟩
    rw [show (if true = true then !inV (V.int q) (List.map V.int W.changed) else inV (V.int q) (List.map V.int W.changed)) = decide (q ∉ W.changed) by rw [if_pos rfl, inV_ints]; by_cases z : q ∈ W.changed <;> simp [z]]
    by_cases c : q ∈ W.changed
    · rw [decide_eq_false (fun z => z c)]
      walk_at "rd"
      have e : W.mark q = W := by unfold Wx.mark cput; rw [if_pos c]
      rw [e] at k
      exact k H t WF.refl
    · rw [decide_eq_true c]
      walk_at "rd"
      refine ⟨.inl ⟨rfl, _, SqL.of tch⟩, ?_⟩
      walk_at "rd"
      refine ⟨_, _, _, rfl, rfl, tch, szlt (by rw [List.length_map]; omega), ?_⟩
      have e : W.mark q = { W with changed := W.changed ++ [q] } := by unfold Wx.mark cput; rw [if_neg c]
      rw [show List.map V.int W.changed ++ [V.int q] = (W.changed ++ [q]).map V.int by rw [List.map_append]; rfl]
      obtain ⟨t2, f2⟩ := t.up (W' := { W with changed := W.changed ++ [q] }) (vs' := vs) 7 (o := .lst ((W.changed ++ [q]).map V.int)) rfl (fun _ z => nomatch z) rfl t.ev
      generalize L2.upd H A.ch _ = G2 at t2 f2 ⊢
      walk_at "rd"
      rw [e] at k
      exact k G2 t2 f2

@[irreducible] def sp_law_give : Sp := fun xs H Q _ => ∃ (A : WAd) (G : Hp) (p : Prt) (W : Wx) (vs : List V) (g : Int) (v : V) (r : Ro), xs = [.ref A.w, .int g, v, .ref A.ev] ∧ WAt H A G p W vs ∧ RoV H v r ∧ (r ≠ .no) ∧ vs.length ≤ 99000 ∧ W.changed.length ≤ 99000 ∧ W.waiting.length ≤ 99000 ∧
  ∀ (H' : Hp) (A' : WAd) (vs' : List V), WAt H' A' G p (W.give g r) vs' → WF A H A' H' → Q .non H'
theorem use_give28 {A : WAd} {a b : Addr} {G : Hp} {p : Prt} {W : Wx} {vs : List V} {g : Int} {v : V} {r : Ro} {H : Hp} {Q : VK} {E : XK} (ea : a = A.w) (eb : b = A.ev) (t : WAt H A G p W vs) (hr : RoV H v r) (hn : r ≠ .no) (hv : vs.length ≤ 99000) (hc : W.changed.length ≤ 99000) (hw : W.waiting.length ≤ 99000)
  (k : ∀ (H' : Hp) (A' : WAd) (vs' : List V), WAt H' A' G p (W.give g r) vs' → WF A H A' H' → Q .non H') : sp_law_give [.ref a, .int g, v, .ref b] H Q E := by
  subst ea eb; unfold sp_law_give; exact ⟨A, G, p, W, vs, g, v, r, rfl, t, hr, hn, hv, hc, hw, k⟩
theorem b_law_give {K : PySem.W.Frag} {fd : FuncData} (F : F_law_give K fd) : Binds K fd P_law_give [] := FunD.bindsN F fun _ _ _ _ _ _ us hl => match us, hl with | [_, _, _, _], _ => rfl
theorem ok_law_give (T : Txt K mg D) : FnOk P w K mg base CX0 1 (He.fAd K ("_law_give", none)) (D D_law_give) P_law_give sp_law_give := by
  refine T.d_law_give.ok sc_law_give (fun vs H Q E h => ?_) (fun cdv A outer s H vs Q E hr h => ?_)
  · unfold sp_law_give at h
    first | (obtain ⟨rfl, _⟩ := h; rfl) | (obtain ⟨_, rfl, _⟩ := h; rfl) | (obtain ⟨_, _, rfl, _⟩ := h; rfl) | (obtain ⟨_, _, _, rfl, _⟩ := h; rfl) | (obtain ⟨_, _, _, _, rfl, _⟩ := h; rfl) | (obtain ⟨_, _, _, _, _, rfl, _⟩ := h; rfl) | (obtain ⟨_, _, _, _, _, _, rfl, _⟩ := h; rfl) | (obtain ⟨_, _, _, _, _, _, _, rfl, _⟩ := h; rfl) | (obtain ⟨_, _, _, _, _, _, _, _, rfl, _⟩ := h; rfl) | (obtain ⟨_, _, _, _, _, _, _, _, _, rfl, _⟩ := h; rfl) | (obtain ⟨_, _, _, _, _, _, _, _, _, _, rfl, _⟩ := h; rfl) | (obtain ⟨_, _, _, _, _, _, _, _, _, _, _, rfl, _⟩ := h; rfl)
  · refine ⟨_, PSs.nox (pss_cons (ps_dput (hu_of hr) (pv 0) pe_str (pe_lc (own := [("one", 4)]) rfl sc_law_give.nd (pi_list (pe_dget (hu_of hr) (pv 0) pe_str (fun _ _ => rfl))) (blkOk_by (N := N_law_give) (sc := defScope s_law_give) (by decide +kernel)) (fun _ _ _ _ _ => (pg_name (i := 4) sc_law_give.nd rfl (Or.inl rfl))) (fun _ _ _ _ _ => (pts_one (pt_cmpR op_ne (pv 4) (pv 1) (nomark _)))) (fun _ _ _ _ _ => (pv 4))) rfl)
      (pss_cons (ps_expr (pe_bm PySem.F.plainAttrs_list PySem.F.slot_list_append PySem.F.type_list_append mt_append (pe_dget (hu_of hr) (pv 0) pe_str (fun _ _ => rfl)) (pa_cons (pv 1) pa_nil)))
      (pss_one (ps_expr (pe_bm PySem.F.plainAttrs_list PySem.F.slot_list_append PySem.F.type_list_append mt_append (pv 3) (pa_cons (pe_tup (pa_cons pe_str (pa_cons (pv 1) (pa_cons (pv 2) pa_nil)))) pa_nil)))))), ?_⟩
    unfold sp_law_give at h
    obtain ⟨A, G, p, W, vs, g, v, r, rfl, t, hr, hrn, hv, hc, hw, k⟩ := h
    have tw := t.tw
    have tch := t.tch
    walk_at "rd"
    intro D nD
    refine lc_list (xs := W.changed.map V.int) (fun i F => F D = some (.lst ((cdrop (W.changed.take i) g).map V.int)) ∧ (∀ b o, b ≠ D → H b = some o → F b = some o)) ⟨upd_same, fun b o nb h => by rw [upd_ne nb]; exact h⟩ ?_ ?_ ?_
    · rintro i F _ ⟨_, fz⟩
      exact SqL.of (fz _ _ (ne_of_none tch nD) tch)
    · rintro i y F hy ⟨d1, fz⟩
      obtain ⟨z, hz, rfl⟩ := map_some hy
      have etk : W.changed.take (i + 1) = W.changed.take i ++ [z] := by rw [List.take_succ, hz]; rfl
      have hll : (cdrop (W.changed.take i) g).length ≤ (W.changed.take i).length := List.length_filter_le _ _
      rw [List.length_take] at hll
      refine ⟨rfl, ?_⟩
      walk_at "rd"
      by_cases zc : z = g
      · rw [show (!decide (V.int z = V.int g)) = false by rw [zc, decide_eq_true rfl]; rfl]
        refine iteF_of rfl ?_
        refine ⟨?_, fz⟩
        rw [etk, d1]
        unfold cdrop
        rw [List.filter_append, List.filter_cons_of_neg (by simpa using zc), List.filter_nil, List.append_nil]
      · rw [show (!decide (V.int z = V.int g)) = true by rw [decide_eq_false (fun y => zc (by injection y))]; rfl]
        refine iteT_of rfl ?_
        walk_at "rd"
        refine ⟨_, d1, szlt (by rw [List.length_map]; omega), ?_, ?_⟩
        · rw [upd_same, etk]
          unfold cdrop
          rw [List.filter_append, List.map_append, List.filter_cons_of_pos (by simpa using zc)]
          rfl
        · intro b o nb h
          rw [upd_ne nb]; exact fz b o nb h
    rintro H1 ⟨d1, fz⟩
    rw [List.length_map, List.take_length] at d1
    have s1 : Same H H1 := fun b o h => fz b o (ne_of_none h nD) h
    have t1 := t.same s1
    have tw1 := t1.tw
    walk_at "rd"
    refine ⟨_, _, rfl, wp_any (A' := { A with ch := D }) (W' := { W with changed := cdrop W.changed g }) tw1 (by kernel_rfl), ?_⟩
    obtain ⟨t2, f2⟩ := t.re nD s1 d1 (A' := { A with ch := D }) (W' := { W with changed := cdrop W.changed g }) 6 ⟨rfl, rfl, rfl⟩ rfl rfl rfl
    generalize L2.upd H1 A.w _ = G2 at t2 f2 ⊢
    have tw2 := t2.tw
    walk_at "rd"
    refine ⟨.inl ⟨rfl, _, SqL.of t2.twa⟩, ?_⟩
    walk_at "rd"
    refine ⟨_, _, _, rfl, rfl, t2.twa, szlt (by rw [List.length_map]; exact Nat.le_trans hw (by decide)), ?_⟩
    rw [show List.map V.int W.waiting ++ [V.int g] = (W.waiting ++ [g]).map V.int by rw [List.map_append]; rfl]
    obtain ⟨t3, f3⟩ := t2.up (W' := { W with changed := cdrop W.changed g, waiting := W.waiting ++ [g] }) (vs' := vs) 5 (o := .lst ((W.waiting ++ [g]).map V.int)) rfl (fun _ z => nomatch z) rfl t2.ev
    generalize L2.upd G2 _ _ = G3 at t3 f3 ⊢
    have tw3 := t3.tw
    walk_at "rd"
    refine ⟨.inl ⟨rfl, _, SqL.of t3.tev⟩, ?_⟩
    walk_at "rd"
    intro q4 n4
    generalize eG4 : upd _ q4 _ = G4
    obtain ⟨g4, c4⟩ := gen_new n4 eG4
    clear eG4
    have t4 := t3.same g4
    refine ⟨_, _, _, rfl, rfl, t4.tev, szlt (by omega), ?_⟩
    have hr4 := (hr.tp (f2.2.2.2.trans f3.2.2.2)).tp g4.tp
    obtain ⟨t5, f5⟩ := t4.up (W' := W.give g r) (vs' := vs ++ [.ref q4]) 8 (o := .lst (vs ++ [.ref q4])) rfl (fun _ z => nomatch z) rfl (evs_snoc t4.ev hr4 hrn c4)
    generalize L2.upd G4 _ _ = G5 at t5 f5 ⊢
    walk_at "rd"
    exact k G5 _ _ t5 (((f2.trans f3).trans (WF.same g4)).trans f5)

theorem tPairs_cons {ta tb : TE} {l : List (TE × TE)} {σ : L2.St} {H : Hp} {Q : List (V × V) → Hp → Prop} : tPairs ((ta, tb) :: l) σ H Q = ta σ H fun x H1 => tb σ H1 fun y H2 => tPairs l σ H2 fun ps H3 => Q ((x, y) :: ps) H3 := rfl
theorem tPairs_nil {σ : L2.St} {H : Hp} {Q : List (V × V) → Hp → Prop} : tPairs [] σ H Q = Q [] H := rfl
/-- the world behind no rows -/
def Wx.new : Wx := ⟨0, -1, 0, [], [], [], [], [], [], 0, [], []⟩
@[irreducible] def sp_law_world : Sp := fun xs H Q _ => ∃ (pa : Addr) (p : Prt), xs = [.ref pa] ∧ PdAt H pa p ∧ ∀ (H' : Hp) (A : WAd), A.pa = pa → (∀ b ∈ A.own.dropLast, H b = none) → Same H H' → WR H' A H p Wx.new → Q (.ref A.w) H'
theorem use_world28 {pa : Addr} {p : Prt} {H : Hp} {Q : VK} {E : XK} (h : PdAt H pa p) (k : ∀ (H' : Hp) (A : WAd), A.pa = pa → (∀ b ∈ A.own.dropLast, H b = none) → Same H H' → WR H' A H p Wx.new → Q (.ref A.w) H') : sp_law_world [.ref pa] H Q E := by
  unfold sp_law_world; exact ⟨pa, p, rfl, h, k⟩
theorem b_law_world {K : PySem.W.Frag} {fd : FuncData} (F : F_law_world K fd) : Binds K fd P_law_world [] := FunD.bindsN F fun _ _ _ _ _ _ us hl => match us, hl with | [_], _ => rfl
theorem ok_law_world (T : Txt K mg D) : FnOk P w K mg base CX0 1 (He.fAd K ("_law_world", none)) (D D_law_world) P_law_world sp_law_world := by
  refine T.d_law_world.ok sc_law_world (fun vs H Q E h => ?_) (fun cdv A outer s H vs Q E hr h => ?_)
  · unfold sp_law_world at h
    first | (obtain ⟨rfl, _⟩ := h; rfl) | (obtain ⟨_, rfl, _⟩ := h; rfl) | (obtain ⟨_, _, rfl, _⟩ := h; rfl) | (obtain ⟨_, _, _, rfl, _⟩ := h; rfl) | (obtain ⟨_, _, _, _, rfl, _⟩ := h; rfl) | (obtain ⟨_, _, _, _, _, rfl, _⟩ := h; rfl) | (obtain ⟨_, _, _, _, _, _, rfl, _⟩ := h; rfl) | (obtain ⟨_, _, _, _, _, _, _, rfl, _⟩ := h; rfl) | (obtain ⟨_, _, _, _, _, _, _, _, rfl, _⟩ := h; rfl) | (obtain ⟨_, _, _, _, _, _, _, _, _, rfl, _⟩ := h; rfl) | (obtain ⟨_, _, _, _, _, _, _, _, _, _, rfl, _⟩ := h; rfl) | (obtain ⟨_, _, _, _, _, _, _, _, _, _, _, rfl, _⟩ := h; rfl)
  · refine ⟨_, PSs.nox (pss_one (ps_ret (pe_disp (pps_cons pe_str (pv 0) (pps_cons pe_str pe_int (pps_cons pe_str (pe_un un_neg pe_int) (pps_cons pe_str pe_int (pps_cons pe_str pe_dnewK (pps_cons pe_str pe_dnewK (pps_cons pe_str pe_dnewT (pps_cons pe_str (pe_lst pa_nil) (pps_cons pe_str (pe_lst pa_nil) (pps_cons pe_str (pe_lst pa_nil) (pps_cons pe_str pe_int (pps_cons pe_str (pe_lst pa_nil) pps_nil)))))))))))) (by rfl) (by rfl) (fun z => by cases z) (by decide)))), ?_⟩
    unfold sp_law_world at h
    obtain ⟨pa, p, rfl, hp, k⟩ := h
    walk_at "rd"
    intro w0 n0
    generalize eH0 : upd _ w0 _ = H0
    obtain ⟨g0, c0⟩ := gen_new n0 eH0
    clear eH0
    simp only [tPairs_cons, tPairs_nil]
    walk_at "rd"
    intro fi n1
    generalize eH1 : upd _ fi _ = H1
    obtain ⟨g1, c1⟩ := gen_new n1 eH1
    clear eH1
    walk_at "rd"
    intro he n2
    generalize eH2 : upd _ he _ = H2
    obtain ⟨g2, c2⟩ := gen_new n2 eH2
    clear eH2
    walk_at "rd"
    intro no n3
    generalize eH3 : upd _ no _ = H3
    obtain ⟨g3, c3⟩ := gen_new n3 eH3
    clear eH3
    walk_at "rd"
    intro lo n4
    generalize eH4 : upd _ lo _ = H4
    obtain ⟨g4, c4⟩ := gen_new n4 eH4
    clear eH4
    walk_at "rd"
    intro wa n5
    generalize eH5 : upd _ wa _ = H5
    obtain ⟨g5, c5⟩ := gen_new n5 eH5
    clear eH5
    walk_at "rd"
    intro li n6
    generalize eH6 : upd _ li _ = H6
    obtain ⟨g6, c6⟩ := gen_new n6 eH6
    clear eH6
    walk_at "rd"
    intro ch n7
    generalize eH7 : upd _ ch _ = H7
    obtain ⟨g7, c7⟩ := gen_new n7 eH7
    clear eH7
    have e01 : w0 ≠ fi := ne_of_none c0 n1
    have v0_1 := g1 _ _ c0
    have e02 : w0 ≠ he := ne_of_none v0_1 n2
    have e12 : fi ≠ he := ne_of_none c1 n2
    have v0_2 := g2 _ _ v0_1
    have v1_2 := g2 _ _ c1
    have e03 : w0 ≠ no := ne_of_none v0_2 n3
    have e13 : fi ≠ no := ne_of_none v1_2 n3
    have e23 : he ≠ no := ne_of_none c2 n3
    have v0_3 := g3 _ _ v0_2
    have v1_3 := g3 _ _ v1_2
    have v2_3 := g3 _ _ c2
    have e04 : w0 ≠ lo := ne_of_none v0_3 n4
    have e14 : fi ≠ lo := ne_of_none v1_3 n4
    have e24 : he ≠ lo := ne_of_none v2_3 n4
    have e34 : no ≠ lo := ne_of_none c3 n4
    have v0_4 := g4 _ _ v0_3
    have v1_4 := g4 _ _ v1_3
    have v2_4 := g4 _ _ v2_3
    have v3_4 := g4 _ _ c3
    have e05 : w0 ≠ wa := ne_of_none v0_4 n5
    have e15 : fi ≠ wa := ne_of_none v1_4 n5
    have e25 : he ≠ wa := ne_of_none v2_4 n5
    have e35 : no ≠ wa := ne_of_none v3_4 n5
    have e45 : lo ≠ wa := ne_of_none c4 n5
    have v0_5 := g5 _ _ v0_4
    have v1_5 := g5 _ _ v1_4
    have v2_5 := g5 _ _ v2_4
    have v3_5 := g5 _ _ v3_4
    have v4_5 := g5 _ _ c4
    have e06 : w0 ≠ li := ne_of_none v0_5 n6
    have e16 : fi ≠ li := ne_of_none v1_5 n6
    have e26 : he ≠ li := ne_of_none v2_5 n6
    have e36 : no ≠ li := ne_of_none v3_5 n6
    have e46 : lo ≠ li := ne_of_none v4_5 n6
    have e56 : wa ≠ li := ne_of_none c5 n6
    have v0_6 := g6 _ _ v0_5
    have v1_6 := g6 _ _ v1_5
    have v2_6 := g6 _ _ v2_5
    have v3_6 := g6 _ _ v3_5
    have v4_6 := g6 _ _ v4_5
    have v5_6 := g6 _ _ c5
    have e07 : w0 ≠ ch := ne_of_none v0_6 n7
    have e17 : fi ≠ ch := ne_of_none v1_6 n7
    have e27 : he ≠ ch := ne_of_none v2_6 n7
    have e37 : no ≠ ch := ne_of_none v3_6 n7
    have e47 : lo ≠ ch := ne_of_none v4_6 n7
    have e57 : wa ≠ ch := ne_of_none v5_6 n7
    have e67 : li ≠ ch := ne_of_none c6 n7
    have v0_7 := g7 _ _ v0_6
    have v1_7 := g7 _ _ v1_6
    have v2_7 := g7 _ _ v2_6
    have v3_7 := g7 _ _ v3_6
    have v4_7 := g7 _ _ v4_6
    have v5_7 := g7 _ _ v5_6
    have v6_7 := g7 _ _ c6
    have s7 : Same H H7 := ((((((g0.trans g1).trans g2).trans g3).trans g4).trans g5).trans g6).trans g7
    obtain ⟨A, eA⟩ : ∃ A : WAd, A = ⟨w0, pa, fi, he, no, lo, wa, li, ch, w0⟩ := ⟨_, rfl⟩
    refine ⟨v0_7, wL A Wx.new, by rw [eA]; rfl, Nat.le_of_ble_eq_true rfl, ?_⟩
    rw [show mergeK [] (wL A Wx.new) = wL A Wx.new by kernel_rfl]
    have hfr : ∀ b ∈ A.own.dropLast, H b = none := by
      rw [eA]
      intro b hb
      simp only [WAd.own, List.dropLast, List.mem_cons, List.not_mem_nil, or_false] at hb
      rcases hb with rfl | rfl | rfl | rfl | rfl | rfl | rfl | rfl
      · exact n0
      · exact (g0).free n1
      · exact ((g0).trans g1).free n2
      · exact (((g0).trans g1).trans g2).free n3
      · exact ((((g0).trans g1).trans g2).trans g3).free n4
      · exact (((((g0).trans g1).trans g2).trans g3).trans g4).free n5
      · exact ((((((g0).trans g1).trans g2).trans g3).trans g4).trans g5).free n6
      · exact (((((((g0).trans g1).trans g2).trans g3).trans g4).trans g5).trans g6).free n7
    have sw : Same H (L2.upd H7 w0 (.dK (wL A Wx.new))) := fun b o h => by rw [upd_ne (ne_of_none h n0)]; exact s7 _ _ h
    have ew : A.w = w0 := by rw [eA]
    rw [← ew] at sw ⊢
    refine k _ A (by rw [eA]) hfr sw ⟨?_, ?_, (by rw [eA]; exact hp), sw, hfr⟩
    · rw [eA]
      intro e he
      simp only [worldL, List.dropLast, List.mem_cons, List.not_mem_nil, or_false] at he
      rcases he with rfl | rfl | rfl | rfl | rfl | rfl | rfl | rfl
      · exact upd_same
      · show L2.upd H7 w0 _ fi = _
        rw [upd_ne e01.symm]; exact v1_7
      · show L2.upd H7 w0 _ he = _
        rw [upd_ne e02.symm]; exact v2_7
      · show L2.upd H7 w0 _ no = _
        rw [upd_ne e03.symm]; exact v3_7
      · show L2.upd H7 w0 _ lo = _
        rw [upd_ne e04.symm]; exact v4_7
      · show L2.upd H7 w0 _ wa = _
        rw [upd_ne e05.symm]; exact v5_7
      · show L2.upd H7 w0 _ li = _
        rw [upd_ne e06.symm]; exact v6_7
      · show L2.upd H7 w0 _ ch = _
        rw [upd_ne e07.symm]; exact c7
    · rw [eA]
      simp only [WAd.own, List.dropLast, List.nodup_cons, List.mem_cons, List.not_mem_nil, or_false, not_or, List.nodup_nil, and_true, not_false_iff]
      exact ⟨⟨e01, e02, e03, e04, e05, e06, e07⟩, ⟨e12, e13, e14, e15, e16, e17⟩, ⟨e23, e24, e25, e26, e27⟩, ⟨e34, e35, e36, e37⟩, ⟨e45, e46, e47⟩, ⟨e56, e57⟩, e67⟩

theorem div_ivl {f : Int} (hf : 2 ≤ f) {x c : Nat} (hc : 1 ≤ c) {k : Int} : k ∈ (ivI x c).map (· / f) ↔ k ∈ ivI (x / f.toNat) ((x + c - 1) / f.toNat + 1 - x / f.toNat) := by
  have ef : (f.toNat : Int) = f := Int.toNat_of_nonneg (by omega)
  have e1 : ((x / f.toNat : Nat) : Int) = (x : Int) / f := by rw [Int.natCast_ediv, ef]
  have e2 : (((x + c - 1) / f.toNat : Nat) : Int) = ((x + c - 1 : Nat) : Int) / f := by rw [Int.natCast_ediv, ef]
  have h0 := Nat.div_le_div_right (c := f.toNat) (show x ≤ x + c - 1 by omega)
  rw [ivI_mem, List.mem_map]
  generalize x / f.toNat = u at *
  generalize (x + c - 1) / f.toNat = v at *
  constructor
  · rintro ⟨j, hj, rfl⟩
    obtain ⟨h1, h2⟩ := ivI_mem.mp hj
    have a := Int.ediv_le_ediv (show 0 < f by omega) h1
    have b := Int.ediv_le_ediv (show 0 < f by omega) (show j ≤ ((x + c - 1 : Nat) : Int) by omega)
    omega
  · rintro ⟨h1, h2⟩
    by_cases z : k = (u : Int)
    · exact ⟨x, ivI_mem.mpr ⟨by omega, by omega⟩, by rw [z, e1]⟩
    · refine ⟨k * f, ivI_mem.mpr ⟨?_, ?_⟩, Int.mul_ediv_cancel k (by omega)⟩
      · have a := Int.lt_ediv_add_one_mul_self (x : Int) (show 0 < f by omega)
        have b := Int.mul_le_mul_of_nonneg_right (show (x : Int) / f + 1 ≤ k by omega) (show 0 ≤ f by omega)
        omega
      · have a := Int.ediv_mul_le ((x + c - 1 : Nat) : Int) (show f ≠ 0 by omega)
        have b := Int.mul_le_mul_of_nonneg_right (show k ≤ ((x + c - 1 : Nat) : Int) / f by omega) (show 0 ≤ f by omega)
        omega
@[irreducible] def sp_law_tree : Sp := fun vs H Q _ => ∃ (g : Addr) (kvs : List (L2.Key × V)) (b n : Nat) (f : Int), vs = [.ref g, .int f] ∧ H g = some (.dK kvs) ∧ kvs.map (·.1) = (ivI b n).map Sum.inl ∧ (2 ≤ f ∧ f ≤ 8) ∧ b + n ≤ 900 ∧
  ∀ q xs H', H q = none → Same H H' → H' q = some (.lst xs) → (n = 0 → xs = []) → (∀ L, 1 ≤ n → IsHt f.toNat b (b + n - 1) L → PrsL H' xs (ndN f.toNat b (b + n - 1) L)) → Q (.ref q) H'
theorem use_law_tree {g : Addr} {b n : Nat} {f : Int} {H : Hp} {Q : VK} {E : XK} {kvs : List (L2.Key × V)} (hg : H g = some (.dK kvs)) (hkv : kvs.map (·.1) = (ivI b n).map Sum.inl) (hf : 2 ≤ f ∧ f ≤ 8) (hn : b + n ≤ 900)
  (k : ∀ q xs H', H q = none → Same H H' → H' q = some (.lst xs) → (n = 0 → xs = []) → (∀ L, 1 ≤ n → IsHt f.toNat b (b + n - 1) L → PrsL H' xs (ndN f.toNat b (b + n - 1) L)) → Q (.ref q) H') : sp_law_tree [.ref g, .int f] H Q E := by
  unfold sp_law_tree; exact ⟨g, kvs, b, n, f, rfl, hg, hkv, hf, hn, k⟩
theorem b_law_tree {K : PySem.W.Frag} {fd : FuncData} (F : F_law_tree K fd) : Binds K fd P_law_tree [] := FunD.bindsN F fun _ _ _ _ _ _ us hl => match us, hl with | [_, _], _ => rfl
theorem ok_law_tree (T : Txt K mg D) : FnOk P w K mg base CX0 1 (He.fAd K ("_law_tree", none)) (D D_law_tree) P_law_tree sp_law_tree := by
  refine T.d_law_tree.ok sc_law_tree (fun vs H Q E h => ?_) (fun cdv A outer s H vs Q E hr h => ?_)
  · unfold sp_law_tree at h
    first | (obtain ⟨rfl, _⟩ := h; rfl) | (obtain ⟨_, rfl, _⟩ := h; rfl) | (obtain ⟨_, _, rfl, _⟩ := h; rfl) | (obtain ⟨_, _, _, rfl, _⟩ := h; rfl) | (obtain ⟨_, _, _, _, rfl, _⟩ := h; rfl) | (obtain ⟨_, _, _, _, _, rfl, _⟩ := h; rfl) | (obtain ⟨_, _, _, _, _, _, rfl, _⟩ := h; rfl) | (obtain ⟨_, _, _, _, _, _, _, rfl, _⟩ := h; rfl) | (obtain ⟨_, _, _, _, _, _, _, _, rfl, _⟩ := h; rfl) | (obtain ⟨_, _, _, _, _, _, _, _, _, rfl, _⟩ := h; rfl) | (obtain ⟨_, _, _, _, _, _, _, _, _, _, rfl, _⟩ := h; rfl) | (obtain ⟨_, _, _, _, _, _, _, _, _, _, _, rfl, _⟩ := h; rfl)
  · refine ⟨_, PSs.nox (pss_cons (ps_asg (pe_tup (pa_cons (pe_lst pa_nil) (pa_cons (pe_callB (cr_sortDI rfl) (by rfl) T.n_sorted (by decide +kernel) (pa_cons (pv 0) pa_nil)) (pa_cons pe_int pa_nil)))) (pg_tup rfl (pgs_cons (pg_name (i := 2) sc_law_tree.nd rfl (Or.inl rfl)) (pgs_cons (pg_name (i := 3) sc_law_tree.nd rfl (Or.inl rfl)) (pgs_cons (pg_name (i := 4) sc_law_tree.nd rfl (Or.inr rfl)) pgs_nil)))))
      (pss_cons (ps_while PassesOwn.never (pt_cmpR (op_neNK (K := K) hr.units) (pv 3) (pe_lst pa_nil) (nomark _)) (pss_cons (ps_set (i := 5) sc_law_tree.nd rfl (Or.inl rfl) (pe_callB (cr_sortSB rfl) (by rfl) T.n_sorted (by decide +kernel) (pa_cons (pe_callTy (cr_setL (K := K) rfl) (by rfl) T.n_set (by decide +kernel) (pa_cons (pe_lc (own := [("number", 6)]) rfl sc_law_tree.nd (pi_list (pv 3)) (blkOk_by (N := N_law_tree) (sc := defScope s_law_tree) (by decide +kernel)) (fun _ _ _ _ _ => (pg_name (i := 6) sc_law_tree.nd rfl (Or.inl rfl))) (fun _ _ _ _ _ => pts_nil) (fun _ _ _ _ _ => (pe_op op_fdivW (pv 6) (pv 1)))) pa_nil)) pa_nil)))
      (pss_cons (ps_set (i := 2) sc_law_tree.nd rfl (Or.inl rfl) (pe_op (op_catSK (K := K)) (pv 2) (pe_lc (own := [("number", 6)]) rfl sc_law_tree.nd (pi_list (pv 5)) (blkOk_by (N := N_law_tree) (sc := defScope s_law_tree) (by decide +kernel)) (fun _ _ _ _ _ => (pg_name (i := 6) sc_law_tree.nd rfl (Or.inl rfl))) (fun _ _ _ _ _ => pts_nil) (fun _ _ _ _ _ => (pe_tup (pa_cons (pv 4) (pa_cons (pv 6) pa_nil)))))))
      (pss_one (ps_asg (hw := by kernel_rfl) (pe_tup (pa_cons (pe_ifExp (pt_cmpR op_eq (pe_callB (call_lenK (K := K)) (by rfl) T.n_len (by decide +kernel) (pa_cons (pv 5) pa_nil)) pe_int (nomark _)) (pe_lst pa_nil) (pv 5)) (pa_cons (pe_op op_add (pv 4) pe_int) pa_nil))) (pg_tup rfl (pgs_cons (pg_name (i := 3) sc_law_tree.nd rfl (Or.inl rfl)) (pgs_cons (pg_name (i := 4) sc_law_tree.nd rfl (Or.inr rfl)) pgs_nil))))))))
      (pss_one (ps_ret (pv 2))))), ?_⟩
    unfold sp_law_tree at h
    obtain ⟨g, kvs, b, n, f, rfl, hg, hkv, ⟨f0, f1⟩, hn, k⟩ := h
    obtain ⟨L, hL0, hL⟩ : ∃ L, (n = 0 → L = 0) ∧ (1 ≤ n → IsHt f.toNat b (b + n - 1) L) := by
      by_cases z : n = 0
      · exact ⟨0, fun _ => rfl, fun h => by omega⟩
      · obtain ⟨L, hL, _⟩ := isht_ex (show 2 ≤ f.toNat by omega) (show b ≤ b + n - 1 by omega)
        exact ⟨L, fun h => absurd h z, fun _ => hL⟩
    walk_at "rd"
    intro q1 n1
    generalize eH1 : upd _ q1 _ = H1
    obtain ⟨g1, c1⟩ := gen_new n1 eH1
    clear eH1
    walk_at "rd"
    refine ⟨_, _, _, rfl, .inl (g1 _ _ hg), hkv, fun ns' q2 H2 hp hs n2 g2 c2 => ?_⟩
    obtain rfl := srt_perm hp hs (ivI_srt b n)
    walk_at "rd"
    intro q3 n3
    generalize eH3 : upd _ q3 _ = H3
    obtain ⟨g3, c3⟩ := gen_new n3 eH3
    clear eH3
    walk_at "rd"
    have hpw : ∀ i, 0 < f.toNat ^ i := fun i => Nat.pow_pos (by omega)
    have hdd : ∀ i, (b + n - 1) / f.toNat ^ i ≤ 999 := fun i => Nat.le_trans (Nat.div_le_self _ _) (by omega)
    have hbd : ∀ i, b / f.toNat ^ i ≤ 999 := fun i => Nat.le_trans (Nat.div_le_self _ _) (by omega)
    have hL10 : 1 ≤ n → L ≤ 10 := fun h => isht_10 (show 2 ≤ f.toNat by omega) (hL h) (by omega) (by omega)
    refine ⟨fun m σ H' => ∃ (i : Nat) (qf qr : Addr) (xs : List V) (v5 v6 : Option V), σ = [some (.ref g), some (.int f), some (.ref qf), some (.ref qr), some (.int (i : Nat)), v5, v6] ∧ Same H H' ∧ H qf = none ∧ H' qf = some (.lst xs) ∧ PrsL H' xs (ndN f.toNat b (b + n - 1) i) ∧
        H' qr = some (.lst ((ivI (b / f.toNat ^ i) (if i = L then 0 else (b + n - 1) / f.toNat ^ i + 1 - b / f.toNat ^ i)).map V.int)) ∧ i ≤ L ∧ m = L - i, ⟨L, ?_⟩, ?_⟩
    · refine ⟨0, q1, q2, [], none, none, rfl, (g1.trans g2).trans g3, n1, g3 _ _ (g2 _ _ c1), True.intro, ?_, Nat.zero_le _, (Nat.sub_zero L).symm⟩
      rw [g3 _ _ c2, Nat.pow_zero, Nat.div_one, Nat.div_one]
      by_cases z : n = 0
      · rw [if_pos (hL0 z).symm, z]
      · have := (hL (by omega)).1
        rw [if_neg (by omega), show b + n - 1 + 1 - b = n by omega]
    rintro m σ H' ⟨i, qf, qr, xs, v5, v6, rfl, gs, nf, cf, hP, cr, hi, rfl⟩
    walk_at "rd"
    intro q4 n4
    generalize eH4 : upd _ q4 _ = H4
    obtain ⟨g4, c4⟩ := gen_new n4 eH4
    clear eH4
    refine use_neN (.lst (SqL.of (g4 _ _ cr)) (dp_pyi _)) (.lst (SqL.of c4) .nil) (nb_list _) (nb_list []) fun e0 he => ?_
    walk_at "rd"
    refine iteB (fun d => ?_) (fun d => ?_)
    · have hne := he.mp d
      have hiL : i ≠ L := fun z => by
        rw [if_pos z] at hne
        exact hne rfl
      have hn1 : 1 ≤ n := by
        by_cases z : n = 0
        · have := hL0 z; omega
        · omega
      have hI := hL hn1
      have hl10 := hL10 hn1
      rw [if_neg hiL] at cr
      have hmono := Nat.div_le_div_right (c := f.toNat ^ i) (show b ≤ b + n - 1 by omega)
      have hmono' := Nat.div_le_div_right (c := f.toNat ^ (i + 1)) (show b ≤ b + n - 1 by omega)
      have hd1 := hdd i
      have hd2 := hdd (i + 1)
      have en : b / f.toNat ^ i / f.toNat = b / f.toNat ^ (i + 1) := by rw [Nat.pow_succ, Nat.div_div_eq_div_mul]
      have em : (b + n - 1) / f.toNat ^ i / f.toNat = (b + n - 1) / f.toNat ^ (i + 1) := by rw [Nat.pow_succ, Nat.div_div_eq_div_mul]
      have hst : ndN f.toNat b (b + n - 1) (i + 1) = ndN f.toNat b (b + n - 1) i ++ lvT i (b / f.toNat ^ (i + 1)) ((b + n - 1) / f.toNat ^ (i + 1) + 1 - b / f.toNat ^ (i + 1)) := rfl
      have heq : b / f.toNat ^ (i + 1) = (b + n - 1) / f.toNat ^ (i + 1) ↔ i + 1 = L := by
        constructor
        · intro z
          by_cases y : i + 1 = L
          · exact y
          · exact absurd z (hI.2.2 (i + 1) (by omega) (by omega))
        · intro z; rw [z]; exact hI.2.1
      have hnl := ndN_len (f := f.toNat) (b := b) (show b + n - 1 ≤ 1000 by omega) i
      have hpl := hP.len
      refine ⟨fun σ' H'' => ∃ m', m' < L - i ∧ ∃ (i : Nat) (qf qr : Addr) (xs : List V) (v5 v6 : Option V), σ' = [some (.ref g), some (.int f), some (.ref qf), some (.ref qr), some (.int (i : Nat)), v5, v6] ∧ Same H H'' ∧ H qf = none ∧ H'' qf = some (.lst xs) ∧ PrsL H'' xs (ndN f.toNat b (b + n - 1) i) ∧
        H'' qr = some (.lst ((ivI (b / f.toNat ^ i) (if i = L then 0 else (b + n - 1) / f.toNat ^ i + 1 - b / f.toNat ^ i)).map V.int)) ∧ i ≤ L ∧ m' = L - i, fun _ _ h => h, ?_⟩
      have cr4 := g4 _ _ cr
      have cf4 := g4 _ _ cf
      have gs4 := gs.trans g4
      have hP4 := hP.mono (kt_same g4)
      generalize hx : b / f.toNat ^ i = x at *
      generalize hy : (b + n - 1) / f.toNat ^ i = y at *
      generalize hx' : b / f.toNat ^ (i + 1) = x' at *
      generalize hy' : (b + n - 1) / f.toNat ^ (i + 1) = y' at *
      walk_at "rd"
      intro D nD
      have w4 : ∀ {a : Addr} {o : HO}, H4 a = some o → a ≠ D := fun h => ne_of_none h nD
      refine lc_list (K := K) (a := qr) (xs := (ivI x (y + 1 - x)).map V.int) (fun j G => SX [D] H4 G ∧ G D = some (.lst ((((ivI x (y + 1 - x)).take j).map (· / f)).map V.int))) ⟨SX.refl.mut nD, upd_same⟩ ?_ ?_ ?_
      · rintro j G _ ⟨fx, _⟩
        exact SqL.of (fx _ _ (by simp [w4 cr4]) cr4)
      · rintro j v G hv ⟨fx, hD⟩
        obtain ⟨z, hz, rfl⟩ := map_some hv
        refine ⟨rfl, ?_⟩
        walk_at "rd"
        refine ⟨_, hD, szlt (by rw [List.length_map, List.length_map, List.length_take, ivI_len]; omega), fx.upd (by simp), ?_⟩
        rw [upd_same, List.take_add_one, hz, List.map_append, List.map_append]
        rfl
      rintro G ⟨fx, hD⟩
      rw [List.length_map, List.take_length] at hD
      have sG : Same H4 G := fun c o ho => fx _ _ (by simp [w4 ho]) ho
      walk_at "rd"
      refine ⟨_, _, rfl, SqL.of hD, by rw [List.length_map, ivI_len]; omega, fun q5 m5 H5 n5 g5 hm5 c5 => ?_⟩
      rw [List.length_map, ivI_len] at hm5
      refine ⟨_, _, _, rfl, c5, by omega, fun ns q6 H6 h1 h2 h3 n6 g6 c6 => ?_⟩
      obtain rfl : ns = ivI x' (y' + 1 - x') := by
        refine srt_uniq h1 (ivI_srt _ _) fun k => ?_
        rw [h2 k]
        have := div_ivl f0 (x := x) (c := y + 1 - x) (by omega) (k := k)
        rw [en, show x + (y + 1 - x) - 1 = y by omega, em] at this
        rw [← this]
        exact ⟨fun z => of_decide_eq_true z, fun z => decide_eq_true z⟩
      walk_at "rd"
      intro D2 nD2
      have w6 : ∀ {a : Addr} {o : HO}, H6 a = some o → a ≠ D2 := fun h => ne_of_none h nD2
      refine lc_list (K := K) (a := q6) (xs := (ivI x' (y' + 1 - x')).map V.int) (fun j G2 => SX [D2] H6 G2 ∧ ∃ ys, G2 D2 = some (.lst ys) ∧ PrsL G2 ys (lvT i x' j)) ⟨SX.refl.mut nD2, [], upd_same, True.intro⟩ ?_ ?_ ?_
      · rintro j G2 _ ⟨fz, _⟩
        exact SqL.of (fz _ _ (by simp [w6 c6]) c6)
      · rintro j v G2 hv ⟨fz, ys, hD2, hB⟩
        obtain ⟨z, hz, rfl⟩ := map_some hv
        have hj : j < y' + 1 - x' := by
          by_cases w : j < y' + 1 - x'
          · exact w
          · rw [List.getElem?_eq_none (by rw [ivI_len]; omega)] at hz
            cases hz
        rw [ivI_get hj] at hz
        obtain rfl := Option.some.inj hz
        refine ⟨rfl, ?_⟩
        walk_at "rd"
        intro t n8
        generalize eG3 : upd _ t _ = G3
        obtain ⟨g8, c8⟩ := gen_new n8 eG3
        clear eG3
        have hD3 := g8 _ _ hD2
        have ntD : t ≠ D2 := (ne_of_none hD2 n8).symm
        have hl := hB.len
        rw [lvT_len] at hl
        refine ⟨_, hD3, szlt (by omega), (fz.trans g8.sx).upd (by simp), ys ++ [.ref t], upd_same, ?_⟩
        rw [lvT_succ]
        refine PrsL.push ?_ ((hB.mono (kt_same g8)).mono (kt_upd hD3))
        rw [upd_ne ntD, c8]
      rintro G2 ⟨fz, ys, hD2, hB⟩
      rw [List.length_map, ivI_len] at hB
      have sG2 : Same H6 G2 := fun c o ho => fz _ _ (by simp [w6 ho]) ho
      have s46 : Same H4 G2 := ((sG.trans g5).trans g6).trans sG2
      have hbl := hB.len
      rw [lvT_len] at hbl
      refine use_cat (SqL.of (s46 _ _ cf4)) (SqL.of hD2) (by omega) fun q8 H8 n8 g8 c8 => ?_
      have hP8 := PrsL.app (hP4.mono (kt_same (s46.trans g8))) (hB.mono (kt_same g8))
      have c68 := g8 _ _ (sG2 _ _ c6)
      walk_at "rd"
      have ns8 : H q8 = none := (gs4.trans s46).free n8
      refine ite2 (fun c => ?_) (fun c => ?_)
      · have c := dvi c
        rw [List.length_map, ivI_len] at c
        have hL1 := heq.mp (by omega)
        walk_at "rd"
        intro q9 n9
        generalize eH9 : upd _ q9 _ = H9
        obtain ⟨g9, c9⟩ := gen_new n9 eH9
        clear eH9
        walk_at "rd"
        intro qa na
        generalize eHa : upd _ qa _ = Ha
        obtain ⟨ga, ca⟩ := gen_new na eHa
        clear eHa
        walk_at "rd"
        refine ⟨L - (i + 1), by omega, i + 1, q8, q9, xs ++ ys, _, _, rfl, (((gs4.trans s46).trans g8).trans g9).trans ga, ns8, ga _ _ (g9 _ _ c8), ?_, ?_, by omega, rfl⟩
        · rw [hst]; exact hP8.mono (kt_same (g9.trans ga))
        · rw [if_pos hL1, ga _ _ c9]; rfl
      · have c := dvn c
        rw [List.length_map, ivI_len] at c
        have hL1 : ¬ i + 1 = L := fun z => by have := heq.mpr z; omega
        walk_at "rd"
        intro qa na
        generalize eHa : upd _ qa _ = Ha
        obtain ⟨ga, ca⟩ := gen_new na eHa
        clear eHa
        walk_at "rd"
        refine ⟨L - (i + 1), by omega, i + 1, q8, q6, xs ++ ys, _, _, rfl, ((gs4.trans s46).trans g8).trans ga, ns8, ga _ _ c8, ?_, ?_, by omega, rfl⟩
        · rw [hst]; exact hP8.mono (kt_same ga)
        · rw [if_neg hL1, ga _ _ c68, hx', hy']
    · have d2 : ¬ e0 = true := by rw [d]; exact Bool.false_ne_true
      have hiL : i = L := by
        by_cases z : i = L
        · exact z
        · refine absurd (he.mpr fun y => ?_) d2
          rw [if_neg z] at y
          injection y with y
          have y := congrArg List.length y
          unfold pyi at y
          rw [List.length_map, ivI_len] at y
          have := Nat.div_le_div_right (c := f.toNat ^ i) (show b ≤ b + n - 1 by
            by_cases w : n = 0
            · have := hL0 w; omega
            · omega)
          have y : (b + n - 1) / f.toNat ^ i + 1 - b / f.toNat ^ i = 0 := y
          omega
      subst hiL
      walk_at "rd"
      refine k qf xs H4 nf (gs.trans g4) (g4 _ _ cf) (fun z => ?_) (fun L' h1 hL' => ?_)
      · rw [hL0 z] at hP
        match xs, hP with
        | [], _ => rfl
      · rw [hL'.uniq (hL h1)]
        exact hP.mono (kt_same g4)

/-- a table of nodes' lists -/
def LdE (e : NK × Addr) : List L2.Key × V := (nkK e.1, .ref e.2)
def agetA (L : List (NK × Addr)) (k : NK) : Option Addr := (L.find? fun e => decide (e.1 = k)).map (·.2)
theorem val_Ld (k : NK) : ∀ L : List (NK × Addr), valV (L.map LdE) (nkK k) = (agetA L k).map V.ref
  | [] => rfl
  | e :: l => by
    have ih := val_Ld k l
    unfold valV agetA at ih ⊢
    rw [List.map_cons, List.find?_cons, List.find?_cons]
    have : decide ((LdE e).1 = nkK k) = decide (e.1 = k) := dec_nk
    rw [this]
    by_cases h : e.1 = k
    · rw [decide_eq_true h]; rfl
    · rw [decide_eq_false h]; exact ih
theorem agetA_some {L : List (NK × Addr)} (nd : (L.map (·.1)).Nodup) {e : NK × Addr} (h : e ∈ L) : agetA L e.1 = some e.2 := by
  induction L with
  | nil => cases h
  | cons x l ih =>
    rw [List.map_cons, List.nodup_cons] at nd
    unfold agetA at ih ⊢
    rw [List.find?_cons]
    rcases List.mem_cons.mp h with rfl | h
    · rw [decide_eq_true rfl]; rfl
    · rw [decide_eq_false (fun z => nd.1 (by rw [z]; exact List.mem_map.mpr ⟨e, h, rfl⟩))]
      exact ih nd.2 h
theorem agetA_mem {L : List (NK × Addr)} {k : NK} {a : Addr} (h : agetA L k = some a) : (k, a) ∈ L := by
  unfold agetA at h
  obtain ⟨e, he, rfl⟩ := Option.map_eq_some_iff.mp h
  have h1 := List.find?_some he
  have h2 := List.mem_of_find?_eq_some he
  have : e.1 = k := of_decide_eq_true h1
  rw [← this]
  exact h2
theorem agetA_iff {L : List (NK × Addr)} {k : NK} : (agetA L k).isSome = decide (k ∈ L.map (·.1)) := by
  rw [Bool.eq_iff_iff, decide_eq_true_iff]
  constructor
  · intro h
    obtain ⟨a, ha⟩ := Option.isSome_iff_exists.mp h
    exact List.mem_map.mpr ⟨_, agetA_mem ha, rfl⟩
  · intro h
    obtain ⟨e, he, rfl⟩ := List.mem_map.mp h
    unfold agetA
    rw [Option.isSome_map, List.find?_isSome]
    exact ⟨e, he, decide_eq_true rfl⟩
def upKi (f : Int) (k : NK) : NK := (k.1 + 1, k.2 / f)
/-- a node's children: heap pages, then nodes -/
def kidV (f : Int) (ps : List Int) (ms : List (Addr × NK)) (k : NK) : List V := (ps.filter fun q => decide (((0 : Int), q / f) = k)).map V.int ++ (ms.filter fun m => decide (upKi f m.2 = k)).map fun m => V.ref m.1
structure TellAt (H : Hp) (D : Addr) (f : Int) (ps : List Int) (ns : List NK) (L : List (NK × Addr)) (ms : List (Addr × NK)) : Prop where
  d : H D = some (.dT (L.map LdE))
  ks : L.map (·.1) = ns
  nd : (L.map (·.2)).Nodup
  mks : ms.map (·.2) = sortP ns
  ma : ∀ m ∈ ms, H m.1 = some (.tup [.int m.2.1, .int m.2.2])
  c : ∀ e ∈ L, H e.2 = some (.lst (kidV f ps ms e.1))
theorem TellAt.same {H H' : Hp} {D : Addr} {f : Int} {ps : List Int} {ns : List NK} {L : List (NK × Addr)} {ms : List (Addr × NK)} (t : TellAt H D f ps ns L ms) (s : Same H H') : TellAt H' D f ps ns L ms :=
  ⟨s _ _ t.d, t.ks, t.nd, t.mks, fun m hm => s _ _ (t.ma m hm), fun e he => s _ _ (t.c e he)⟩
@[irreducible] def sp_law_tell : Sp := fun xs H Q _ => ∃ (A : WAd) (G : Hp) (p : Prt) (W : Wx) (vs : List V), xs = [.ref A.w] ∧ WAt H A G p W vs ∧ p.Ok ∧ W.heap.length ≤ 1000 ∧ W.nodes.length ≤ 1000 ∧ (W.heap.map (·.1)).Pairwise (· < ·) ∧ (W.nodes.map (·.1)).Nodup ∧
  ∀ (D : Addr) (H' : Hp) (L : List (NK × Addr)) (ms : List (Addr × NK)), H D = none → Same H H' → TellAt H' D p.fan (W.heap.map (·.1)) (W.nodes.map (·.1)) L ms → (∀ e ∈ L, H e.2 = none) → Q (.ref D) H'
theorem use_tell28 {A : WAd} {a : Addr} {G : Hp} {p : Prt} {W : Wx} {vs : List V} {H : Hp} {Q : VK} {E : XK} (ea : a = A.w) (t : WAt H A G p W vs) (ok : p.Ok) (hh : W.heap.length ≤ 1000) (hn : W.nodes.length ≤ 1000) (hs : (W.heap.map (·.1)).Pairwise (· < ·)) (hd : (W.nodes.map (·.1)).Nodup)
  (k : ∀ (D : Addr) (H' : Hp) (L : List (NK × Addr)) (ms : List (Addr × NK)), H D = none → Same H H' → TellAt H' D p.fan (W.heap.map (·.1)) (W.nodes.map (·.1)) L ms → (∀ e ∈ L, H e.2 = none) → Q (.ref D) H') : sp_law_tell [.ref a] H Q E := by
  subst ea; unfold sp_law_tell; exact ⟨A, G, p, W, vs, rfl, t, ok, hh, hn, hs, hd, k⟩
theorem b_law_tell {K : PySem.W.Frag} {fd : FuncData} (F : F_law_tell K fd) : Binds K fd P_law_tell [] := FunD.bindsN F fun _ _ _ _ _ _ us hl => match us, hl with | [_], _ => rfl
theorem ok_law_tell (T : Txt K mg D) : FnOk P w K mg base CX0 1 (He.fAd K ("_law_tell", none)) (D D_law_tell) P_law_tell sp_law_tell := by
  refine T.d_law_tell.ok sc_law_tell (fun vs H Q E h => ?_) (fun cdv A outer s H vs Q E hr h => ?_)
  · unfold sp_law_tell at h
    first | (obtain ⟨rfl, _⟩ := h; rfl) | (obtain ⟨_, rfl, _⟩ := h; rfl) | (obtain ⟨_, _, rfl, _⟩ := h; rfl) | (obtain ⟨_, _, _, rfl, _⟩ := h; rfl) | (obtain ⟨_, _, _, _, rfl, _⟩ := h; rfl) | (obtain ⟨_, _, _, _, _, rfl, _⟩ := h; rfl) | (obtain ⟨_, _, _, _, _, _, rfl, _⟩ := h; rfl) | (obtain ⟨_, _, _, _, _, _, _, rfl, _⟩ := h; rfl) | (obtain ⟨_, _, _, _, _, _, _, _, rfl, _⟩ := h; rfl) | (obtain ⟨_, _, _, _, _, _, _, _, _, rfl, _⟩ := h; rfl) | (obtain ⟨_, _, _, _, _, _, _, _, _, _, rfl, _⟩ := h; rfl) | (obtain ⟨_, _, _, _, _, _, _, _, _, _, _, rfl, _⟩ := h; rfl)
  · refine ⟨_, PSs.nox (pss_cons (ps_par (i := 2) (j := 3) (by rfl) sc_law_tell.nd rfl rfl (by decide) rfl rfl (pa_cons (pe_dget (hu_of hr) (pe_dget (hu_of hr) (pv 0) pe_str (fun _ _ => rfl)) pe_str (fun _ _ => rfl)) (pa_cons (pe_callTy (call_dictPTK (K := K) (units65 hr) rfl) (by rfl) T.n_dict (by decide +kernel) (pa_cons (pe_lock (pe_lc (own := [("node", 1)]) rfl sc_law_tell.nd (pi_keys (pe_dget (hu_of hr) (pv 0) pe_str (fun _ _ => rfl))) (blkOk_by (N := N_law_tell) (sc := defScope s_law_tell) (by decide +kernel)) (fun _ _ _ _ _ => (pg_name (i := 1) sc_law_tell.nd rfl (Or.inl rfl))) (fun _ _ _ _ _ => pts_nil) (fun _ _ _ _ _ => (pe_tup (pa_cons (pv 1) (pa_cons (pe_lst pa_nil) pa_nil)))))) pa_nil)) pa_nil)) (by rfl))
      (pss_cons (ps_for PassesOwn.never rfl (pi_list (pe_callB (cr_sortDI rfl) (by rfl) T.n_sorted (by decide +kernel) (pa_cons (pe_dget (hu_of hr) (pv 0) pe_str (fun _ _ => rfl)) pa_nil))) (pg_name (i := 4) sc_law_tell.nd rfl (Or.inl rfl)) (pss_one (ps_if (pt_cmp (pc_din (hu_of hr) (pe_tup (pa_cons pe_int (pa_cons (pe_op op_fdivW (pv 4) (pv 2)) pa_nil))) (pv 3))) (pss_one (ps_expr (pe_bm PySem.F.plainAttrs_list PySem.F.slot_list_append PySem.F.type_list_append mt_append (pe_dget (hu_of hr) (pv 3) (pe_tup (pa_cons pe_int (pa_cons (pe_op op_fdivW (pv 4) (pv 2)) pa_nil))) (fun _ _ => rfl)) (pa_cons (pv 4) pa_nil)))) pss_nil)))
      (pss_cons (ps_for PassesOwn.never rfl (pi_list (pe_callB (cr_sortDT rfl) (by rfl) T.n_sorted (by decide +kernel) (pa_cons (pe_dget (hu_of hr) (pv 0) pe_str (fun _ _ => rfl)) pa_nil))) (pg_name (i := 1) sc_law_tell.nd rfl (Or.inl rfl)) (pss_cons (ps_set (i := 5) sc_law_tell.nd rfl (Or.inl rfl) (pe_tup (pa_cons (pe_op op_add (pe_ix (ix_tupK (K := K)) (pv 1) pe_int (fun _ _ => rfl)) pe_int) (pa_cons (pe_op op_fdivW (pe_ix (ix_tupK (K := K)) (pv 1) pe_int (fun _ _ => rfl)) (pv 2)) pa_nil))))
      (pss_one (ps_if (pt_cmp (pc_din (hu_of hr) (pv 5) (pv 3))) (pss_one (ps_expr (pe_bm PySem.F.plainAttrs_list PySem.F.slot_list_append PySem.F.type_list_append mt_append (pe_dget (hu_of hr) (pv 3) (pv 5) (fun _ _ => rfl)) (pa_cons (pv 1) pa_nil)))) pss_nil))))
      (pss_one (ps_ret (pv 3)))))), ?_⟩
    unfold sp_law_tell at h
    obtain ⟨A, G, p, W, vs, rfl, t, ok, hh, hn, hsr, hnd, k⟩ := h
    have tw := t.tw
    obtain ⟨l0, hp1, hp2⟩ := t.pd'
    walk_at "rd"
    refine ⟨A.no, .dT (W.nodes.map ndE), t.tno, True.intro, fun od => ?_⟩
    generalize hGL : L2.upd H A.no _ = GL
    have nwn : A.w ≠ A.no := fun z => absurd (nd_get t.nd (i := 0) (j := 3) (a := A.w) rfl (by rw [z]; rfl)) (by decide)
    have twL : GL A.w = some (.dK (wL A W)) := by rw [← hGL, upd_ne nwn]; exact tw
    have cL : GL A.no = some (.frz od (.dT (W.nodes.map ndE))) := by rw [← hGL]; exact upd_same
    have fL : ∀ b o, b ≠ A.no → H b = some o → GL b = some o := fun b o nb h => by rw [← hGL, upd_ne nb]; exact h
    have nL : ∀ b, GL b = none → H b = none := fun b h => by
      by_cases nb : b = A.no
      · rw [nb, cL] at h; cases h
      · rw [← hGL, upd_ne nb] at h; exact h
    clear hGL
    walk_at "rd"
    refine ⟨_, _, rfl, .inr ⟨_, cL, ?_⟩⟩
    intro D nD
    have nD6 := nL D nD
    refine lc_it walk_keysT (fun j G => ∃ M : List (Addr × Addr × NK × Addr), M.map (·.2.2.1) = (W.nodes.map (·.1)).take j ∧ G D = some (.lst (M.map fun e => V.ref e.1)) ∧ (∀ e ∈ M, G e.1 = some (.tup [.ref e.2.1, .ref e.2.2.2]) ∧ G e.2.1 = some (.tup [.int e.2.2.1.1, .int e.2.2.1.2]) ∧ G e.2.2.2 = some (.lst []) ∧ GL e.2.2.2 = none ∧ e.2.2.2 ≠ D) ∧
      (M.map (·.2.2.2)).Nodup ∧ (∀ b o, b ≠ D → GL b = some o → G b = some o) ∧ M.length = j)
      ⟨[], rfl, upd_same, fun e he => (nomatch he), List.nodup_nil, fun b o nb h => by rw [upd_ne nb]; exact h, rfl⟩ ?_ ?_ ?_
    · rintro j G _ ⟨M, _, _, _, _, f, _⟩
      exact f _ _ (ne_of_none cL nD) cL
    · rintro j x G G' hj ⟨M, m1, m2, m3, m4, f, m5⟩ ⟨rfl, kk, vv, q, hk, rfl, hq⟩
      rw [List.getElem?_map] at hk
      obtain ⟨e, he, hke⟩ : ∃ e, W.nodes[j]? = some e ∧ ndE e = (kk, vv) := by
        cases z : W.nodes[j]? with
        | none => rw [z] at hk; cases hk
        | some e => rw [z] at hk; exact ⟨e, rfl, Option.some.inj hk⟩
      have hkk : kk = nkK e.1 := (congrArg Prod.fst hke).symm
      subst hkk
      have hq' : G' q = some (.tup [.int e.1.1, .int e.1.2]) := hq
      have etk : (W.nodes.map (·.1)).take (j + 1) = (W.nodes.map (·.1)).take j ++ [e.1] := by rw [List.take_succ, List.getElem?_map, he]; rfl
      have hjl : j < W.nodes.length := (List.getElem?_eq_some_iff.mp he).1
      refine ⟨rfl, ?_⟩
      walk_at "rd"
      intro ql nl
      generalize eF1 : upd _ ql _ = F1
      obtain ⟨gl, cl⟩ := gen_new nl eF1
      clear eF1
      walk_at "rd"
      intro qt nt
      generalize eF2 : upd _ qt _ = F2
      obtain ⟨gt, ct⟩ := gen_new nt eF2
      clear eF2
      have m2b := gt _ _ (gl _ _ m2)
      have nlD : ql ≠ D := fun z => by rw [z, m2] at nl; cases nl
      have nlG : GL ql = none := by
        cases z : GL ql with
        | none => rfl
        | some o => rw [f _ _ nlD z] at nl; cases nl
      have up : ∀ b o, b ≠ D → F2 b = some o → L2.upd F2 D (.lst ((M.map fun e => V.ref e.1) ++ [.ref qt])) b = some o := fun b o nb h => by rw [upd_ne nb]; exact h
      have ntD : qt ≠ D := fun z => by rw [z, gl _ _ m2] at nt; cases nt
      have tq : ∀ {b : Addr} {ys : List V}, F2 b = some (.tup ys) → b ≠ D := fun h z => by rw [z, m2b] at h; cases h
      refine ⟨_, m2b, szlt (by rw [List.length_map]; omega), M ++ [(qt, q, e.1, ql)], ?_, ?_, ?_, ?_, ?_, ?_⟩
      · rw [List.map_append, m1, etk]; rfl
      · rw [upd_same, List.map_append]; rfl
      · intro e' he'
        rcases List.mem_append.mp he' with h | h
        · obtain ⟨a1, a2, a3, a4, a5⟩ := m3 e' h
          have b1 := gt _ _ (gl _ _ a1)
          have b2 := gt _ _ (gl _ _ a2)
          exact ⟨up _ _ (tq b1) b1, up _ _ (tq b2) b2, up _ _ a5 (gt _ _ (gl _ _ a3)), a4, a5⟩
        · rw [List.mem_singleton.mp h]
          have b2 := gt _ _ (gl _ _ hq')
          exact ⟨up _ _ ntD ct, up _ _ (tq b2) b2, up _ _ nlD (gt _ _ cl), nlG, nlD⟩
      · rw [List.map_append]
        refine List.nodup_append.mpr ⟨m4, by simp, fun a ha b hb e2 => ?_⟩
        obtain ⟨e', he', rfl⟩ := List.mem_map.mp ha
        have hb : b = ql := by simpa using hb
        have := (m3 e' he').2.2.1
        rw [e2, hb, nl] at this
        cases this
      · intro b o nb h
        exact up _ _ nb (gt _ _ (gl _ _ (f b o nb h)))
      · rw [List.length_append, m5]; rfl
    · rintro G0 ⟨M, m1, m2, m3, m4, f, m5⟩
      refine ⟨f _ _ (ne_of_none cL nD) cL, ?_⟩
      generalize hG7 : L2.upd G0 A.no _ = G7
      have c7n : G7 A.no = some (.dT (W.nodes.map ndE)) := by rw [← hG7]; exact upd_same
      have nDn : D ≠ A.no := fun z => by rw [z, cL] at nD; cases nD
      have c0n := f _ _ (ne_of_none cL nD) cL
      have g7 : Same H G7 := fun b o h => by
        by_cases nb : b = A.no
        · rw [nb, t.tno] at h; cases h; rw [nb]; exact c7n
        · rw [← hG7, upd_ne nb]
          exact f _ _ (ne_of_none h nD6) (fL _ _ nb h)
      have k7 : ∀ {b : Addr} {o : HO}, G0 b = some o → (∀ u v, o ≠ .frz u v) → G7 b = some o := fun {b o} h hf => by
        have nb : b ≠ A.no := fun z => by rw [z, c0n] at h; cases h; exact hf _ _ rfl
        rw [← hG7, upd_ne nb]; exact h
      have c7D := k7 m2 fun _ _ z => nomatch z
      have m37 : ∀ e ∈ M, G7 e.1 = some (.tup [.ref e.2.1, .ref e.2.2.2]) ∧ G7 e.2.1 = some (.tup [.int e.2.2.1.1, .int e.2.2.1.2]) ∧ G7 e.2.2.2 = some (.lst []) ∧ H e.2.2.2 = none := fun e he => by
        obtain ⟨a1, a2, a3, a4, a5⟩ := m3 e he
        exact ⟨k7 a1 (fun _ _ z => nomatch z), k7 a2 (fun _ _ z => nomatch z), k7 a3 (fun _ _ z => nomatch z), nL _ a4⟩
      clear hG7
      rw [List.length_map, ← List.length_map (f := (·.1)) (as := W.nodes), List.take_length] at m1
      have t7 := t.same g7
      have tw7 := t7.tw
      walk_at "rd"
      refine ⟨D, M.map (·.1), M.map (fun e => (nkK e.2.2.1, e.2.1, .ref e.2.2.2)), rfl, ?_, ?_, ?_, fun Dd G8 n8 g8 c8 => ?_⟩
      · rw [List.map_map]; exact SqL.of c7D
      · clear m1 m2 m4 m5 c7D
        induction M with
        | nil => exact .nil
        | cons e M ih =>
          obtain ⟨a1, a2, a3, a4⟩ := m37 e List.mem_cons_self
          exact .cons ⟨SqT.of a1, a2⟩ (ih (fun x hx => m3 x (List.mem_cons_of_mem _ hx)) (fun x hx => m37 x (List.mem_cons_of_mem _ hx)))
      · rw [List.map_map]
        have : (M.map (fun e => nkK e.2.2.1)) = (W.nodes.map (·.1)).map nkK := by rw [← m1, List.map_map]; rfl
        show (M.map (fun e => nkK e.2.2.1)).Nodup
        rw [this]
        exact List.pairwise_map.mpr (hnd.imp fun h z => h (nkK_iff.mp z))
      obtain ⟨L, eL⟩ : ∃ L : List (NK × Addr), L = M.map fun e => (e.2.2.1, e.2.2.2) := ⟨_, rfl⟩
      have c8 : G8 Dd = some (.dT (L.map LdE)) := by rw [c8, eL, List.map_map, List.map_map]; rfl
      have Lk : L.map (·.1) = W.nodes.map (·.1) := by rw [eL, List.map_map, ← m1]; rfl
      have Ln : (L.map (·.2)).Nodup := by rw [eL, List.map_map]; exact m4
      have L0 : ∀ e ∈ L, G8 e.2 = some (.lst []) ∧ H e.2 = none := fun e he => by
        rw [eL] at he
        obtain ⟨x, hx, rfl⟩ := List.mem_map.mp he
        obtain ⟨a1, a2, a3, a4⟩ := m37 x hx
        exact ⟨g8 _ _ a3, a4⟩
      have h8 : Same H G8 := g7.trans g8
      have nd8 : H Dd = none := g7.free n8
      clear c7D m1 m2 m3 m4 m37 eL
      walk_at "rd"
      have t8 := t.same h8
      have tw8 := t8.tw
      walk_at "rd"
      obtain ⟨ks, eks⟩ : ∃ ks : List Int, ks = W.heap.map (·.1) := ⟨_, rfl⟩
      have hkeys : (W.heap.map hpE).map (·.1) = ks.map Sum.inl := by rw [eks, List.map_map, List.map_map]; rfl
      have hkl : ks.length ≤ 1000 := by rw [eks, List.length_map]; exact hh
      rw [← eks] at hsr k
      refine ⟨_, _, _, rfl, .inl t8.the, hkeys, fun ys q9 G9 pm pw n9 g9 c9 => ?_⟩
      obtain rfl := srt_perm pm pw hsr
      have h9 := h8.trans g9
      have c8d := g9 _ _ c8
      have L9 : ∀ e ∈ L, G9 e.2 = some (.lst []) := fun e he => g9 _ _ (L0 e he).1
      have LX : ∀ b o, H b = some o → b ∉ L.map (·.2) := fun b o h z => by
        obtain ⟨e, he, rfl⟩ := List.mem_map.mp z
        rw [(L0 e he).2] at h; cases h
      have Dd9 : Dd ∉ L.map (·.2) := fun z => by
        obtain ⟨e, he, h⟩ := List.mem_map.mp z
        have := L9 e he
        rw [h, c8d] at this; cases this
      have q99 : q9 ∉ L.map (·.2) := fun z => by
        obtain ⟨e, he, h⟩ := List.mem_map.mp z
        have := (L0 e he).1
        rw [h, n9] at this; cases this
      have hf := ok.f
      refine ⟨_, rfl, ⟨_, SqL.of c9⟩, for_list (xs := ys.map V.int) (fun j σ G => ∃ v1 v4 v5 : Option V, σ = [some (.ref A.w), v1, some (.int p.fan), some (.ref Dd), v4, v5] ∧ SX (L.map (·.2)) G9 G ∧ ∀ e ∈ L, G e.2 = some (.lst (((ys.take j).filter fun q => decide (((0 : Int), q / p.fan) = e.1)).map V.int))) ⟨_, _, _, rfl, SX.refl, fun e he => L9 e he⟩ ?_ ?_ ?_⟩
      · rintro j σ G _ ⟨v1, v4, v5, rfl, fx, _⟩
        exact SqL.of (fx _ _ q99 c9)
      · rintro j v σ G hx ⟨v1, v4, v5, rfl, fx, cx⟩
        obtain ⟨z, hz, rfl⟩ := map_some hx
        have etk : ys.take (j + 1) = ys.take j ++ [z] := by rw [List.take_succ, hz]; rfl
        have cd := fx _ _ Dd9 c8d
        walk_at "rd"
        intro ta na
        generalize eF1 : upd _ ta _ = F1
        obtain ⟨ga, ca⟩ := gen_new na eF1
        clear eF1
        have cd1 := ga _ _ cd
        have hdg : DGet F1 Dd (.ref ta) (valV (L.map LdE) (nkK ((0 : Int), z / p.fan))) := DGet.t (k := nkK ((0 : Int), z / p.fan)) cd1 ca
        rw [val_Ld] at hdg
        walk_at "rd"
        refine ⟨_, _, rfl, hdg, ?_⟩
        have cx1 : ∀ e ∈ L, F1 e.2 = some (.lst (((ys.take j).filter fun q => decide (((0 : Int), q / p.fan) = e.1)).map V.int)) := fun e he => ga _ _ (cx e he)
        have fx1 := fx.trans ga.sx
        have hfl : ∀ k0 : NK, ((ys.take j).filter fun q => decide (((0 : Int), q / p.fan) = k0)).length ≤ 1000 := fun k0 => by
          have := List.length_filter_le (fun q => decide (((0 : Int), q / p.fan) = k0)) (ys.take j)
          rw [List.length_take] at this
          omega
        cases hA : agetA L ((0 : Int), z / p.fan) with
        | none =>
          refine ⟨_, rfl, ?_⟩
          refine iteF_of rfl ?_
          walk_at "rd"
          intro e he
          have hne : ((0 : Int), z / p.fan) ≠ e.1 := fun y => by
            have := agetA_some (by rw [Lk]; exact hnd) he
            rw [← y, hA] at this; cases this
          rw [etk, List.filter_append, List.filter_cons_of_neg (by simpa using hne), List.filter_nil, List.append_nil]
          exact cx1 e he
        | some a =>
          refine ⟨_, rfl, ?_⟩
          refine iteT_of rfl ?_
          have hm := agetA_mem hA
          walk_at "rd"
          intro tb nb
          generalize eF2 : upd _ tb _ = F2
          obtain ⟨gb, cb⟩ := gen_new nb eF2
          clear eF2
          have cd2 := gb _ _ cd1
          have hdg2 : DGet F2 Dd (.ref tb) (some (.ref a)) := by
            have := DGet.t (k := nkK ((0 : Int), z / p.fan)) cd2 cb
            rw [val_Ld, hA] at this
            exact this
          walk_at "rd"
          refine ⟨_, _, rfl, hdg2, ?_⟩
          have ca2 := gb _ _ (cx1 _ hm)
          refine ⟨.inl ⟨rfl, _, SqL.of ca2⟩, ?_⟩
          walk_at "rd"
          refine ⟨_, _, _, rfl, rfl, ca2, szlt (by rw [List.length_map]; exact Nat.le_trans (hfl _) (by decide)), ?_⟩
          walk_at "rd"
          refine ⟨(fx1.trans gb.sx).upd (List.mem_map.mpr ⟨_, hm, rfl⟩), fun e he => ?_⟩
          by_cases y : ((0 : Int), z / p.fan) = e.1
          · have e2 := agetA_some (by rw [Lk]; exact hnd) he
            rw [← y, hA] at e2
            rw [← Option.some.inj e2, upd_same, etk, List.filter_append, ← y, List.filter_cons_of_pos (by simp), List.filter_nil, List.map_append]
            rfl
          · have e2 : e.2 ≠ a := fun w => by
              obtain ⟨i1, h1⟩ := List.mem_iff_getElem?.mp he
              obtain ⟨i2, h2⟩ := List.mem_iff_getElem?.mp hm
              have e3 : i1 = i2 := nd_get Ln (a := a) (by rw [List.getElem?_map, h1]; exact congrArg some w) (by rw [List.getElem?_map, h2]; rfl)
              subst e3
              rw [h1] at h2
              exact y (by rw [Option.some.inj h2])
            rw [upd_ne e2, etk, List.filter_append, List.filter_cons_of_neg (by simpa using y), List.filter_nil, List.append_nil]
            exact gb _ _ (cx1 e he)
      · rintro σ G ⟨v1, v4, v5, rfl, fx, cx⟩
        rw [List.length_map, List.take_length] at cx
        have h10 : Same H G := fun b o h => fx _ _ (LX b o h) (h9 _ _ h)
        have t10 := t.same h10
        have tw10 := t10.tw
        have cd10 := fx _ _ Dd9 c8d
        walk_at "rd"
        refine ⟨_, _, W.nodes.map (·.1), rfl, .inl t10.tno, keys_nd _, fun Ms q11 G11 pm11 pw11 pp11 n11 g11 c11 => ?_⟩
        have hMs : Ms.map (·.2) = sortP (W.nodes.map (·.1)) := sortP_eq pm11 pw11
        have h11 := h10.trans g11
        have cd11 := g11 _ _ cd10
        have cx11 : ∀ e ∈ L, G11 e.2 = some (.lst ((ys.filter fun q => decide (((0 : Int), q / p.fan) = e.1)).map V.int)) := fun e he => g11 _ _ (cx e he)
        have Dd11 : Dd ∉ L.map (·.2) := Dd9
        have q11L : q11 ∉ L.map (·.2) := fun z => by
          obtain ⟨e, he, h⟩ := List.mem_map.mp z
          have := cx e he
          rw [h, n11] at this; cases this
        have ppL : ∀ m ∈ Ms, m.1 ∉ L.map (·.2) := fun m hm z => by
          obtain ⟨e, he, h⟩ := List.mem_map.mp z
          have := cx11 e he
          rw [h, pp11 m hm] at this; cases this
        have hMl : Ms.length ≤ 1000 := by
          have := pm11.length_eq
          rw [List.length_map, List.length_map] at this
          omega
        refine ⟨_, rfl, ⟨_, SqL.of c11⟩, for_list (xs := refsP Ms) (fun j σ G => ∃ v1 v4 v5 : Option V, σ = [some (.ref A.w), v1, some (.int p.fan), some (.ref Dd), v4, v5] ∧ SX (L.map (·.2)) G11 G ∧ ∀ e ∈ L, G e.2 = some (.lst (kidV p.fan ys (Ms.take j) e.1))) ⟨_, _, _, rfl, SX.refl, fun e he => by unfold kidV; rw [List.take_zero, List.filter_nil, List.map_nil, List.append_nil]; exact cx11 e he⟩ ?_ ?_ ?_⟩
        · rintro j σ G _ ⟨v1, v4, v5, rfl, fz, _⟩
          exact SqL.of (fz _ _ q11L c11)
        · rintro j v σ G hx ⟨v1, v4, v5, rfl, fz, cz⟩
          obtain ⟨m, hm, rfl⟩ := refs_get hx
          have hmm := List.mem_of_getElem? hm
          have hma := fz _ _ (ppL m hmm) (pp11 m hmm)
          have etk : Ms.take (j + 1) = Ms.take j ++ [m] := by rw [List.take_succ, hm]; rfl
          have cd := fz _ _ Dd11 cd11
          walk_at "rd"
          intro ta na
          generalize eF1 : upd _ ta _ = F1
          obtain ⟨ga, ca⟩ := gen_new na eF1
          clear eF1
          have cd1 := ga _ _ cd
          have hma1 := ga _ _ hma
          have fz1 := fz.trans ga.sx
          have cz1 : ∀ e ∈ L, F1 e.2 = some (.lst (kidV p.fan ys (Ms.take j) e.1)) := fun e he => ga _ _ (cz e he)
          have hdg : DGet F1 Dd (.ref ta) (valV (L.map LdE) (nkK (upKi p.fan m.2))) := DGet.t (k := nkK (upKi p.fan m.2)) cd1 ca
          rw [val_Ld] at hdg
          have hkv : ∀ k0 : NK, (kidV p.fan ys (Ms.take j) k0).length ≤ 2000 := fun k0 => by
            have h1 := List.length_filter_le (fun q => decide (((0 : Int), q / p.fan) = k0)) ys
            have h2 := List.length_filter_le (fun x : Addr × NK => decide (upKi p.fan x.2 = k0)) (Ms.take j)
            rw [List.length_take] at h2
            unfold kidV
            rw [List.length_append, List.length_map, List.length_map]
            omega
          walk_at "rd"
          refine ⟨_, _, rfl, hdg, ?_⟩
          cases hA : agetA L (upKi p.fan m.2) with
          | none =>
            refine ⟨_, rfl, ?_⟩
            refine iteF_of rfl ?_
            walk_at "rd"
            intro e he
            have hne : upKi p.fan m.2 ≠ e.1 := fun y => by
              have := agetA_some (by rw [Lk]; exact hnd) he
              rw [← y, hA] at this; cases this
            rw [cz1 e he, etk]
            unfold kidV
            rw [List.filter_append, List.filter_cons_of_neg (by simpa using hne), List.filter_nil, List.append_nil]
          | some a =>
            refine ⟨_, rfl, ?_⟩
            refine iteT_of rfl ?_
            have hmA := agetA_mem hA
            rw [hA] at hdg
            walk_at "rd"
            refine ⟨_, _, rfl, hdg, ?_⟩
            have ca2 := cz1 _ hmA
            refine ⟨.inl ⟨rfl, _, SqL.of ca2⟩, ?_⟩
            walk_at "rd"
            refine ⟨_, _, _, rfl, rfl, ca2, szlt (Nat.le_trans (hkv _) (by decide)), ?_⟩
            walk_at "rd"
            refine ⟨fz1.upd (List.mem_map.mpr ⟨_, hmA, rfl⟩), fun e he => ?_⟩
            by_cases y : upKi p.fan m.2 = e.1
            · have e2 := agetA_some (by rw [Lk]; exact hnd) he
              rw [← y, hA] at e2
              rw [← Option.some.inj e2, upd_same, etk, ← y]
              unfold kidV
              rw [List.filter_append, List.filter_cons_of_pos (by simp), List.filter_nil, List.map_append, ← List.append_assoc]
              rfl
            · have e2 : e.2 ≠ a := fun w => by
                obtain ⟨i1, h1⟩ := List.mem_iff_getElem?.mp he
                obtain ⟨i2, h2⟩ := List.mem_iff_getElem?.mp hmA
                have e3 : i1 = i2 := nd_get Ln (a := a) (by rw [List.getElem?_map, h1]; exact congrArg some w) (by rw [List.getElem?_map, h2]; rfl)
                subst e3
                rw [h1] at h2
                exact y (by rw [Option.some.inj h2])
              rw [upd_ne e2, cz1 e he, etk]
              unfold kidV
              rw [List.filter_append, List.filter_cons_of_neg (by simpa using y), List.filter_nil, List.append_nil]
        · rintro σ G ⟨v1, v4, v5, rfl, fz, cz⟩
          rw [show (refsP Ms).length = Ms.length by unfold refsP; rw [List.length_map], List.take_length] at cz
          walk_at "rd"
          refine k Dd G L Ms nd8 (fun b o h => fz _ _ (LX b o h) (h11 _ _ h)) ⟨fz _ _ Dd11 cd11, Lk, Ln, hMs, fun m hm => fz _ _ (ppL m hm) (pp11 m hm), cz⟩ fun e he => (L0 e he).2

/-! ### the plain law: the law's rows and the store's -/
/-- all but the marks -/
structure SimD (S : Sx) (W : Wx) : Prop where
  heap : W.heap = S.hpL
  nodes : W.nodes = S.nodes
  log : W.log = S.log
  waiting : W.waiting = S.waiting
  list : W.list = S.free
  size : W.size = S.taken
  evs : W.evs = S.evs
/-- the marks: the store has those of the law, and these -/
def SimC (X : Int → Prop) (S : Sx) (W : Wx) : Prop := ∀ c, c ∈ S.changed ↔ c ∈ W.changed ∨ X c
theorem mem_cput_iff {l : List Int} {q c : Int} : c ∈ cput l q ↔ c ∈ l ∨ c = q := by
  constructor
  · exact mem_cput
  · intro h
    unfold cput
    split
    · rename_i hq
      rcases h with h | rfl
      · exact h
      · exact hq
    · exact List.mem_append.mpr (h.imp id List.mem_singleton.mpr)
theorem mem_cdrop {l : List Int} {q c : Int} : c ∈ cdrop l q ↔ c ∈ l ∧ c ≠ q := by
  unfold cdrop
  rw [List.mem_filter, decide_eq_true_iff]
theorem SimD.takeP {S : Sx} {W : Wx} (h : SimD S W) : W.takeP = S.takeP := by
  unfold Wx.takeP Sx.takeP
  rw [h.list, h.size]
theorem SimD.take {S : Sx} {W : Wx} (h : SimD S W) (r : Ro) : SimD (S.takeS r) (W.take r) := by
  have e := h.takeP
  obtain ⟨h1, h2, h3, h4, h5, h6, h7⟩ := h
  unfold Sx.takeS Sx.taking Sx.ev Wx.take Wx.taking Wx.say
  rw [e]
  by_cases c : S.free = []
  · rw [if_pos c, if_pos (h5.trans c)]
    exact ⟨h1, h2, h3, h4, h5, by dsimp only; rw [h6], by dsimp only; rw [h7]⟩
  · rw [if_neg c, if_neg (fun z => c (h5.symm.trans z))]
    exact ⟨h1, h2, h3, h4, by dsimp only; rw [h5], h6, by dsimp only; rw [h7]⟩
theorem take_ch (W : Wx) (r : Ro) : (W.take r).changed = W.changed ∧ (W.take r).nodes = W.nodes ∧ (W.take r).heap = W.heap := by
  unfold Wx.take Wx.taking Wx.say
  split <;> exact ⟨rfl, rfl, rfl⟩
theorem takeS_ch (S : Sx) (r : Ro) : (S.takeS r).changed = S.changed := by
  unfold Sx.takeS Sx.taking Sx.ev
  split <;> rfl
/-- a new node -/
def Wx.begW (W : Wx) (k : NK) : Wx := ({ W.take (.nd k.1 k.2) with nodes := aput W.nodes k W.takeP } : Wx).mark W.takeP
def Wx.endW (W : Wx) (k : NK) : Wx := ({ W with nodes := adrop W.nodes k } : Wx).give ((aget W.nodes k).getD 0) (.nd k.1 k.2)
theorem aget_aput (l : List (NK × Int)) (k : NK) (v : Int) : aget (aput l k v) k = some v := by
  unfold aput
  by_cases h : (l.any fun e => decide (e.1 = k)) = true
  · rw [if_pos h]
    unfold aget
    induction l with
    | nil => cases h
    | cons e l ih =>
      rw [List.map_cons]
      by_cases c : e.1 = k
      · rw [if_pos c, List.find?_cons]
        dsimp only
        rw [decide_eq_true c]
        rfl
      · rw [if_neg c, List.find?_cons, decide_eq_false c]
        rw [List.any_cons, decide_eq_false c, Bool.false_or] at h
        exact ih h
  · rw [if_neg h]
    unfold aget
    rw [List.find?_append]
    have : l.find? (fun e => decide (e.1 = k)) = none := by
      rw [List.find?_eq_none]
      intro x hx z
      exact h (List.any_eq_true.mpr ⟨x, hx, z⟩)
    rw [this, List.find?_cons]
    dsimp only
    rw [decide_eq_true rfl]
    rfl
theorem aget_other {l : List (NK × Int)} {k j : NK} {v : Int} (hk : k ∉ l.map (·.1)) (h : j ≠ k) : aget (aput l k v) j = aget l j := by
  rw [aput_new hk]
  unfold aget
  rw [List.find?_append]
  cases q : l.find? (fun e => decide (e.1 = j)) with
  | some x => rfl
  | none =>
    rw [List.find?_cons]
    dsimp only
    rw [decide_eq_false (fun z => h z.symm)]
    rfl
theorem sim_begW {S : Sx} {W : Wx} {X : Int → Prop} (h : SimD S W) (c : SimC X S W) (k : NK) : SimD (S.begin1 k) (W.begW k) ∧ SimC X (S.begin1 k) (W.begW k) := by
  have ht := h.take (.nd k.1 k.2)
  have ep := h.takeP
  have eb : S.begin1 k = ({ S.takeS (.nd k.1 k.2) with nodes := aput S.nodes k S.takeP } : Sx).mark S.takeP := by
    unfold Sx.begin1 Sx.change
    dsimp only
    rw [aget_aput]
  rw [eb]
  refine ⟨⟨ht.heap, ?_, ht.log, ht.waiting, ht.list, ht.size, ht.evs⟩, fun d => ?_⟩
  · show aput W.nodes k W.takeP = aput S.nodes k S.takeP
    rw [h.nodes, ep]
  · show d ∈ cput (S.takeS (.nd k.1 k.2)).changed S.takeP ↔ d ∈ cput (W.take (.nd k.1 k.2)).changed W.takeP ∨ X d
    rw [mem_cput_iff, mem_cput_iff, takeS_ch, (take_ch W _).1, c d, ep]
    constructor
    · rintro ((h | h) | h)
      · exact .inl (.inl h)
      · exact .inr h
      · exact .inl (.inr h)
    · rintro ((h | h) | h)
      · exact .inl (.inl h)
      · exact .inr h
      · exact .inl (.inr h)
theorem sim_begs {X : Int → Prop} : ∀ (l : List NK) {S : Sx} {W : Wx}, SimD S W → SimC X S W → l.Nodup → (∀ k ∈ l, k ∉ S.nodes.map (·.1)) →
    SimD (l.foldl Sx.begin1 S) (l.foldl Wx.begW W) ∧ SimC X (l.foldl Sx.begin1 S) (l.foldl Wx.begW W) ∧ (∀ c ∈ W.changed, c ∈ (l.foldl Wx.begW W).changed) ∧ (∀ k ∈ l, ∀ c, aget (l.foldl Sx.begin1 S).nodes k = some c → c ∈ (l.foldl Wx.begW W).changed) ∧ (∀ k, k ∉ l → aget (l.foldl Sx.begin1 S).nodes k = aget S.nodes k)
  | [], S, W, h, c, _, _ => ⟨h, c, fun _ h => h, fun k hk => (nomatch hk), fun _ _ => rfl⟩
  | k :: l, S, W, h, c, nd, hn => by
    rw [List.nodup_cons] at nd
    have hk := hn k List.mem_cons_self
    obtain ⟨h1, c1⟩ := sim_begW h c k
    obtain ⟨f1, f2, _, _⟩ := begin1_facts S k
    have e : (S.begin1 k).nodes.map (·.1) = S.nodes.map (·.1) ++ [k] := by rw [f2, aput_new hk, List.map_append]; rfl
    obtain ⟨a1, a2, a3, a4, a5⟩ := sim_begs l h1 c1 nd.2 (fun j hj z => by
      rw [e] at z
      rcases List.mem_append.mp z with z | z
      · exact hn j (List.mem_cons_of_mem _ hj) z
      · rw [List.mem_singleton.mp z] at hj; exact nd.1 hj)
    have hm : ∀ c, c ∈ (W.begW k).changed ↔ c ∈ W.changed ∨ c = W.takeP := fun c => by
      show c ∈ cput (W.take (.nd k.1 k.2)).changed W.takeP ↔ _
      rw [mem_cput_iff, (take_ch W _).1]
    rw [List.foldl_cons, List.foldl_cons]
    refine ⟨a1, a2, fun d hd => a3 d ((hm d).mpr (.inl hd)), fun j hj d hd => ?_, fun j hj => ?_⟩
    · rcases List.mem_cons.mp hj with rfl | hj
      · rw [a5 j nd.1, f2, aget_aput] at hd
        refine a3 d ((hm d).mpr (.inr ?_))
        rw [h.takeP]
        exact (Option.some.inj hd).symm
      · exact a4 j hj d hd
    · rw [List.mem_cons, not_or] at hj
      rw [a5 j hj.2, f2, aget_other hk hj.1]
theorem SimD.give {S : Sx} {W : Wx} (h : SimD S W) (q : Int) (r : Ro) : SimD (S.give q r) (W.give q r) := by
  obtain ⟨h1, h2, h3, h4, h5, h6, h7⟩ := h
  exact ⟨h1, h2, h3, by show W.waiting ++ [q] = S.waiting ++ [q]; rw [h4], h5, h6, by show W.evs ++ _ = S.evs ++ _; rw [h7]⟩
theorem SimC.give {S : Sx} {W : Wx} (c : SimC (fun _ => False) S W) (q : Int) (r : Ro) : SimC (fun _ => False) (S.give q r) (W.give q r) := fun d => by
  show d ∈ cdrop S.changed q ↔ d ∈ cdrop W.changed q ∨ False
  rw [mem_cdrop, mem_cdrop, c d]
  simp
theorem sim_endW {S : Sx} {W : Wx} (h : SimD S W) (c : SimC (fun _ => False) S W) (k : NK) : SimD (S.end1 k) (W.endW k) ∧ SimC (fun _ => False) (S.end1 k) (W.endW k) := by
  have h2 : SimD ({ S with nodes := adrop S.nodes k } : Sx) ({ W with nodes := adrop W.nodes k } : Wx) := ⟨h.heap, by show adrop W.nodes k = adrop S.nodes k; rw [h.nodes], h.log, h.waiting, h.list, h.size, h.evs⟩
  have c2 : SimC (fun _ => False) ({ S with nodes := adrop S.nodes k } : Sx) ({ W with nodes := adrop W.nodes k } : Wx) := c
  have e : (aget W.nodes k).getD 0 = (aget S.nodes k).getD 0 := by rw [h.nodes]
  unfold Sx.end1 Wx.endW
  rw [e]
  exact ⟨h2.give _ _, c2.give _ _⟩
theorem sim_ends : ∀ (l : List NK) {S : Sx} {W : Wx}, SimD S W → SimC (fun _ => False) S W → SimD (l.foldl Sx.end1 S) (l.foldl Wx.endW W) ∧ SimC (fun _ => False) (l.foldl Sx.end1 S) (l.foldl Wx.endW W)
  | [], S, W, h, c => ⟨h, c⟩
  | k :: l, S, W, h, c => by
    obtain ⟨h1, c1⟩ := sim_endW h c k
    exact sim_ends l h1 c1
/-- marks of some nodes -/
def Wx.markN (W : Wx) (k : NK) : Wx := W.mark ((aget W.nodes k).getD 0)
theorem mark_mem : ∀ (l : List NK) (W : Wx), (l.foldl Wx.markN W).nodes = W.nodes ∧ (∀ c, c ∈ (l.foldl Wx.markN W).changed ↔ c ∈ W.changed ∨ ∃ k ∈ l, (aget W.nodes k).getD 0 = c)
  | [], W => ⟨rfl, fun c => by simp⟩
  | k :: l, W => by
    obtain ⟨h1, h2⟩ := mark_mem l (W.markN k)
    rw [List.foldl_cons]
    refine ⟨h1, fun c => ?_⟩
    rw [h2 c]
    show (c ∈ cput W.changed ((aget W.nodes k).getD 0) ∨ ∃ j ∈ l, (aget W.nodes j).getD 0 = c) ↔ _
    rw [mem_cput_iff]
    constructor
    · rintro ((h | h) | ⟨j, h, e⟩)
      · exact .inl h
      · exact .inr ⟨k, List.mem_cons_self, h.symm⟩
      · exact .inr ⟨j, List.mem_cons_of_mem _ h, e⟩
    · rintro (h | ⟨j, h, e⟩)
      · exact .inl (.inl h)
      · rcases List.mem_cons.mp h with rfl | h
        · exact .inl (.inr e.symm)
        · exact .inr ⟨j, h, e⟩
theorem change_mem : ∀ (l : List NK) (S : Sx), (l.foldl (fun T k => T.change k) S).nodes = S.nodes ∧ (∀ c, c ∈ (l.foldl (fun T k => T.change k) S).changed ↔ c ∈ S.changed ∨ ∃ k ∈ l, aget S.nodes k = some c)
  | [], S => ⟨rfl, fun c => by simp⟩
  | k :: l, S => by
    obtain ⟨h1, h2⟩ := change_mem l (S.change k)
    obtain ⟨_, e2, _⟩ := change_same S k
    rw [List.foldl_cons]
    refine ⟨h1.trans e2, fun c => ?_⟩
    have e3 : c ∈ (S.change k).changed ↔ c ∈ S.changed ∨ aget S.nodes k = some c := by
      unfold Sx.change
      split
      · rename_i q
        rw [q]
        simp
      · rename_i v q
        rw [q]
        show c ∈ cput S.changed v ↔ _
        rw [mem_cput_iff]
        exact or_congr Iff.rfl ⟨fun z => by rw [z], fun z => (Option.some.inj z).symm⟩
    rw [h2 c, e2, e3]
    constructor
    · rintro ((h | h) | ⟨j, h, e⟩)
      · exact .inl h
      · exact .inr ⟨k, List.mem_cons_self, h⟩
      · exact .inr ⟨j, List.mem_cons_of_mem _ h, e⟩
    · rintro (h | ⟨j, h, e⟩)
      · exact .inl (.inl h)
      · rcases List.mem_cons.mp h with rfl | h
        · exact .inl (.inr e)
        · exact .inr ⟨j, h, e⟩
/-- the law's turn of a tree over the heap pages o .. n -/
noncomputable def wantN (f o n : Nat) : List NK := ndN f o n (rlv f o n + 1)
noncomputable def Wx.turn1 (W : Wx) (f o n : Nat) : Wx := ((wantN f o n).filter fun k => decide (k ∉ W.nodes.map (·.1))).foldl Wx.begW W
noncomputable def Wx.turn2 (W : Wx) (f o n : Nat) : Wx := ((sortP (W.nodes.map (·.1))).filter fun k => decide (k ∉ wantN f o n)).foldl Wx.endW W
/-- a node's children, as data -/
def kidD (f : Int) (ps : List Int) (ns : List NK) (k : NK) : List PyData := (ps.filter fun q => decide (((0 : Int), q / f) = k)).map PyData.int ++ ((sortP ns).filter fun c => decide (upKi f c = k)).map prD
noncomputable def Wx.turn3 (W : Wx) (f : Int) (ps0 : List Int) (ns0 : List NK) : Wx := open Classical in ((W.nodes.map (·.1)).filter fun k => decide (k ∈ ns0 ∧ kidD f ps0 ns0 k ≠ kidD f (W.heap.map (·.1)) (W.nodes.map (·.1)) k)).foldl Wx.markN W
noncomputable def Wx.turn (W : Wx) (f : Int) (o n : Nat) (ps0 : List Int) (ns0 : List NK) : Wx := ((W.turn1 f.toNat o n).turn2 f.toNat o n).turn3 f ps0 ns0
theorem begs_keys : ∀ (l : List NK) (W : Wx), l.Nodup → (∀ k ∈ l, k ∉ W.nodes.map (·.1)) → (l.foldl Wx.begW W).nodes.map (·.1) = W.nodes.map (·.1) ++ l
  | [], W, _, _ => by simp
  | k :: l, W, nd, hn => by
    rw [List.nodup_cons] at nd
    have hk := hn k List.mem_cons_self
    have e : (W.begW k).nodes.map (·.1) = W.nodes.map (·.1) ++ [k] := by
      show (aput W.nodes k W.takeP).map (·.1) = _
      rw [aput_new hk, List.map_append]; rfl
    rw [List.foldl_cons, begs_keys l (W.begW k) nd.2 (fun j hj z => by
      rw [e] at z
      rcases List.mem_append.mp z with z | z
      · exact hn j (List.mem_cons_of_mem _ hj) z
      · rw [List.mem_singleton.mp z] at hj; exact nd.1 hj), e, List.append_assoc]
    rfl
theorem begW_facts (W : Wx) (k : NK) : (W.begW k).heap = W.heap ∧ (W.begW k).changed.length ≤ W.changed.length + 1 ∧ (W.begW k).evs.length = W.evs.length + 1 ∧ (W.begW k).waiting = W.waiting := by
  obtain ⟨h1, h2, h3⟩ := take_ch W (.nd k.1 k.2)
  refine ⟨h3, ?_, ?_, ?_⟩
  · show (cput (W.take (.nd k.1 k.2)).changed W.takeP).length ≤ _
    rw [h1]
    unfold cput
    split <;> simp
  · show (W.take (.nd k.1 k.2)).evs.length = _
    unfold Wx.take Wx.taking Wx.say
    split <;> simp
  · show (W.take (.nd k.1 k.2)).waiting = _
    unfold Wx.take Wx.taking Wx.say
    split <;> rfl
theorem begs_len : ∀ (l : List NK) (W : Wx), (l.foldl Wx.begW W).heap = W.heap ∧ (l.foldl Wx.begW W).changed.length ≤ W.changed.length + l.length ∧ (l.foldl Wx.begW W).evs.length = W.evs.length + l.length ∧ (l.foldl Wx.begW W).waiting = W.waiting
  | [], W => ⟨rfl, Nat.le_refl _, rfl, rfl⟩
  | k :: l, W => by
    obtain ⟨h1, h2, h3, h4⟩ := begs_len l (W.begW k)
    obtain ⟨f1, f2, f3, f4⟩ := begW_facts W k
    rw [List.foldl_cons, List.length_cons]
    exact ⟨h1.trans f1, by omega, by omega, h4.trans f4⟩
theorem notin_prsT {K : PySem.W.Frag} {H : Hp} {n a : Addr} {q : Int × Int} {xs : List V} {ps : List (Int × Int)} {Q : VK} (hn : H n = some (.tup [.int q.1, .int q.2])) (ha : H a = some (.lst xs)) (hp : PrsL H xs ps) (hq : q ∉ ps) (k : Q (.bl true) H) : rNotInD K (.ref n) (.ref a) H Q := by
  refine ⟨prD q, ps.map prD, .tup (SqT.of hn) (.cons (.int _) (.cons (.int _) .nil)), .lst (SqL.of ha) hp.dp, shp q, shpl ps, ?_⟩
  have : (ps.map prD).any (fun z => PyData.eqv z (prD q)) = false := by
    rw [List.any_eq_false]
    intro z hz e
    obtain ⟨w, hw, rfl⟩ := List.mem_map.mp hz
    have := (eqv_nb (prD w) (prD q) rfl rfl).mp e
    exact hq (prD_inj this ▸ hw)
  rw [this]
  exact k
theorem ends_facts28 : ∀ (l : List NK) (W : Wx), (W.nodes.map (·.1)).Nodup → l.Nodup → (l.foldl Wx.endW W).heap = W.heap ∧ (l.foldl Wx.endW W).changed.length ≤ W.changed.length ∧ (l.foldl Wx.endW W).evs.length = W.evs.length + l.length ∧ (l.foldl Wx.endW W).waiting.length = W.waiting.length + l.length ∧ ((l.foldl Wx.endW W).nodes.map (·.1)).Nodup ∧ (∀ k, k ∈ (l.foldl Wx.endW W).nodes.map (·.1) ↔ k ∈ W.nodes.map (·.1) ∧ k ∉ l) ∧ (l.foldl Wx.endW W).nodes.length ≤ W.nodes.length
  | [], W, nd, _ => ⟨rfl, Nat.le_refl _, rfl, rfl, nd, fun k => by simp, Nat.le_refl _⟩
  | k :: l, W, nd, ln => by
    rw [List.nodup_cons] at ln
    have ek : (W.endW k).nodes.map (·.1) = (W.nodes.map (·.1)).filter fun j => decide (j ≠ k) := adrop_keys W.nodes k
    have nd1 : ((W.endW k).nodes.map (·.1)).Nodup := by rw [ek]; exact List.Pairwise.filter _ nd
    obtain ⟨h1, h2, h3, h4, h5, h6, h7⟩ := ends_facts28 l (W.endW k) nd1 ln.2
    have e1 : (W.endW k).changed.length ≤ W.changed.length := List.length_filter_le _ _
    have e2 : (W.endW k).evs.length = W.evs.length + 1 := by unfold Wx.endW Wx.give Wx.say; simp
    have e3 : (W.endW k).waiting.length = W.waiting.length + 1 := by unfold Wx.endW Wx.give Wx.say; simp
    have e4 : (W.endW k).nodes.length ≤ W.nodes.length := List.length_filter_le _ _
    rw [List.foldl_cons, List.length_cons]
    refine ⟨h1, by omega, by omega, by omega, h5, fun j => ?_, by omega⟩
    rw [h6 j, ek, List.mem_filter, decide_eq_true_iff, List.mem_cons, not_or, and_assoc]
theorem prs_refs {H : Hp} : ∀ {xs : List V} {ps : List (Int × Int)}, PrsL H xs ps → ∃ L : List (Addr × Int × Int), xs = refsP L ∧ PrL H L ∧ L.map (·.2) = ps
  | [], [], _ => ⟨[], rfl, fun e he => (nomatch he), rfl⟩
  | x :: xs, q :: ps, ⟨⟨a, e, h⟩, r⟩ => by
    obtain ⟨L, e1, e2, e3⟩ := prs_refs r
    refine ⟨(a, q) :: L, by rw [e, e1]; rfl, fun y hy => ?_, by rw [List.map_cons, e3]⟩
    rcases List.mem_cons.mp hy with rfl | hy
    · exact h
    · exact e2 y hy
  | [], _ :: _, h => h.elim
  | _ :: _, [], h => h.elim
theorem WAt.out {H : Hp} {A : WAd} {G : Hp} {p : Prt} {W : Wx} {vs : List V} (t : WAt H A G p W vs) {d : Addr} {o u : HO} (nd : d ∉ A.own) (hg : G d = none) (hu : H d = some u) (nt : ∀ ys, u ≠ .tup ys) : WAt (L2.upd H d o) A G p W vs := by
  have tp : TP H (L2.upd H d o) := TP.upd hu nt
  refine ⟨fun e he => ?_, t.nd, t.ev.tp tp, t.pd, fun b v h => ?_, t.gn⟩
  · rw [upd_ne (fun z => nd (by rw [← z, ← own_L A W vs]; exact List.mem_map.mpr ⟨e, he, rfl⟩))]; exact t.at_ e he
  · rw [upd_ne (fun z => by rw [z, hg] at h; cases h)]; exact t.g b v h
theorem dpall_app {K : PySem.W.Frag} {H : Hp} {ys : List V} {es : List PyData} (h : DpAll K H ys es) : ∀ {xs : List V} {ds : List PyData}, DpAll K H xs ds → DpAll K H (xs ++ ys) (ds ++ es)
  | _, _, .nil => h
  | _, _, .cons a r => .cons a (dpall_app h r)
/-- a node's list, as data -/
theorem kid_dp {K : PySem.W.Frag} {H : Hp} {f : Int} {ps : List Int} {ns : List NK} {ms : List (Addr × NK)} (hm : ms.map (·.2) = sortP ns) (ha : ∀ m ∈ ms, H m.1 = some (.tup [.int m.2.1, .int m.2.2])) (k : NK) : DpAll K H (kidV f ps ms k) (kidD f ps ns k) := by
  unfold kidV kidD
  refine dpall_app ?_ (dp_pyi _)
  rw [← hm]
  clear hm
  induction ms with
  | nil => exact .nil
  | cons m ms ih =>
    have ih := ih fun x hx => ha x (List.mem_cons_of_mem _ hx)
    rw [List.map_cons]
    by_cases c : upKi f m.2 = k
    · rw [List.filter_cons_of_pos (by simpa using c), List.filter_cons_of_pos (by simpa using c)]
      exact .cons (.tup (SqT.of (ha m List.mem_cons_self)) (.cons (.int _) (.cons (.int _) .nil))) ih
    · rw [List.filter_cons_of_neg (by simpa using c), List.filter_cons_of_neg (by simpa using c)]
      exact ih
theorem kid_nb (f : Int) (ps : List Int) (ns : List NK) (k : NK) : NB (.list (kidD f ps ns k)) := by
  have app : ∀ xs ys : List PyData, nbA xs = true → nbA ys = true → nbA (xs ++ ys) = true := by
    intro xs
    induction xs with
    | nil => intro ys _ h; exact h
    | cons x xs ih =>
      intro ys h1 h2
      obtain ⟨a, b⟩ := He.ba (show (nbD x && nbA xs) = true from h1)
      show (nbD x && nbA (xs ++ ys)) = true
      rw [a, ih ys b h2]; rfl
  have dep : ∀ xs ys : List PyData, PyData.depthAll xs ≤ 1 → PyData.depthAll ys ≤ 1 → PyData.depthAll (xs ++ ys) ≤ 1 := by
    intro xs
    induction xs with
    | nil => intro ys _ h; exact h
    | cons x xs ih =>
      intro ys h1 h2
      have h1 : max (PyData.depth x) (PyData.depthAll xs) ≤ 1 := h1
      show max (PyData.depth x) (PyData.depthAll (xs ++ ys)) ≤ 1
      have := ih ys (by omega) h2
      omega
  unfold kidD
  refine ⟨app _ _ (nb_ints _) (nb_prs _).1, ?_⟩
  show PyData.depthAll _ + 1 ≤ 64
  have := dep (((ps.filter fun q => decide (((0 : Int), q / f) = k)).map PyData.int)) _ (by have := dep_ints (ps.filter fun q => decide (((0 : Int), q / f) = k)); unfold pyi at this; omega) (nb_prs ((sortP ns).filter fun c => decide (upKi f c = k))).2
  exact Nat.le_trans (Nat.add_le_add_right this 1) (by decide)
theorem marks_len : ∀ (l : List NK) (W : Wx), (l.foldl Wx.markN W).changed.length ≤ W.changed.length + l.length
  | [], W => Nat.le_refl _
  | k :: l, W => by
    have h := marks_len l (W.markN k)
    have e : (W.markN k).changed.length ≤ W.changed.length + 1 := by
      show (cput W.changed _).length ≤ _
      unfold cput
      split <;> simp
    rw [List.foldl_cons, List.length_cons]
    omega
@[irreducible] def sp_law_turn_tree (K : PySem.W.Frag) : Sp := fun xs H Q _ => ∃ (A : WAd) (G : Hp) (p : Prt) (W : Wx) (vs : List V) (D0 : Addr) (ps0 : List Int) (ns0 : List NK) (LM : List (NK × Addr) × List (Addr × NK)) (o n : Nat), xs = [.ref A.w, .ref D0, .ref A.ev] ∧ WAt H A G p W vs ∧ p.Ok ∧
  TellAt H D0 p.fan ps0 ns0 LM.1 LM.2 ∧ D0 ∉ A.own ∧ (∀ e ∈ LM.1, e.2 ∉ A.own) ∧ ns0.Nodup ∧ W.heap.map (·.1) = ivI o (n + 1 - o) ∧ o ≤ n ∧ n < 850 ∧ (W.nodes.map (·.1)).Nodup ∧ W.nodes.length ≤ 500 ∧ W.evs.length ≤ 10000 ∧ W.changed.length ≤ 10000 ∧ W.waiting.length ≤ 10000 ∧ (wantN p.fan.toNat o n).length ≤ 500 ∧
  ∀ (H' : Hp) (A' : WAd) (vs' : List V), WAt H' A' G p (W.turn p.fan o n ps0 ns0) vs' → WF A H A' H' → Q .non H'
theorem b_law_turn_tree {K : PySem.W.Frag} {fd : FuncData} (F : F_law_turn_tree K fd) : Binds K fd P_law_turn_tree [] := FunD.bindsN F fun _ _ _ _ _ _ us hl => match us, hl with | [_, _, _], _ => rfl
theorem ok_law_turn_tree (T : Txt K mg D) : FnOk P w K mg base CX0 2 (He.fAd K ("_law_turn_tree", none)) (D D_law_turn_tree) P_law_turn_tree (sp_law_turn_tree K) := by
  refine T.d_law_turn_tree.ok sc_law_turn_tree (fun vs H Q E h => ?_) (fun cdv A outer s H vs Q E hr h => ?_)
  · unfold sp_law_turn_tree at h
    first | (obtain ⟨rfl, _⟩ := h; rfl) | (obtain ⟨_, rfl, _⟩ := h; rfl) | (obtain ⟨_, _, rfl, _⟩ := h; rfl) | (obtain ⟨_, _, _, rfl, _⟩ := h; rfl) | (obtain ⟨_, _, _, _, rfl, _⟩ := h; rfl) | (obtain ⟨_, _, _, _, _, rfl, _⟩ := h; rfl) | (obtain ⟨_, _, _, _, _, _, rfl, _⟩ := h; rfl) | (obtain ⟨_, _, _, _, _, _, _, rfl, _⟩ := h; rfl) | (obtain ⟨_, _, _, _, _, _, _, _, rfl, _⟩ := h; rfl) | (obtain ⟨_, _, _, _, _, _, _, _, _, rfl, _⟩ := h; rfl) | (obtain ⟨_, _, _, _, _, _, _, _, _, _, rfl, _⟩ := h; rfl) | (obtain ⟨_, _, _, _, _, _, _, _, _, _, _, rfl, _⟩ := h; rfl)
  · refine ⟨_, PSs.nox (pss_cons (ps_set (i := 3) sc_law_turn_tree.nd rfl (Or.inl rfl) (pe_call (ok_law_tree T) (hr.mono (by decide)) rfl T.g_law_tree T.d_law_tree.kp (b_law_tree T.d_law_tree) .nil pass0 (pa_cons (pe_dget (hu_of hr) (pv 0) pe_str (fun _ _ => rfl)) (pa_cons (pe_dget (hu_of hr) (pe_dget (hu_of hr) (pv 0) pe_str (fun _ _ => rfl)) pe_str (fun _ _ => rfl)) pa_nil))))
      (pss_cons (ps_for PassesOwn.never rfl (pi_list (pe_callB (cr_sortP (K := K)) (by rfl) T.n_sorted (by decide +kernel) (pa_cons (pv 3) pa_nil))) (pg_name (i := 4) sc_law_turn_tree.nd rfl (Or.inl rfl)) (pss_one (ps_if (pt_cmp (pc_dnotin (hu_of hr) (pv 4) (pe_dget (hu_of hr) (pv 0) pe_str (fun _ _ => rfl)))) (pss_cons (ps_dput (hu_of hr) (pe_dget (hu_of hr) (pv 0) pe_str (fun _ _ => rfl)) (pv 4) (pe_call (ok_law_take T) (hr.mono (by decide)) rfl T.g_law_take T.d_law_take.kp (b_law_take T.d_law_take) .nil pass0 (pa_cons (pv 0) (pa_cons (pe_op op_catT (pe_tup (pa_cons pe_str pa_nil)) (pv 4)) (pa_cons (pv 2) pa_nil)))) rfl)
      (pss_one (ps_expr (pe_call (ok_law_mark T) (hr.mono (by decide)) rfl T.g_law_mark T.d_law_mark.kp (b_law_mark T.d_law_mark) .nil pass0 (pa_cons (pv 0) (pa_cons (pe_dget (hu_of hr) (pe_dget (hu_of hr) (pv 0) pe_str (fun _ _ => rfl)) (pv 4) (fun _ _ => rfl)) pa_nil)))))) pss_nil)))
      (pss_cons (ps_for PassesOwn.never rfl (pi_list (pe_callB (cr_sortDT rfl) (by rfl) T.n_sorted (by decide +kernel) (pa_cons (pe_dget (hu_of hr) (pv 0) pe_str (fun _ _ => rfl)) pa_nil))) (pg_name (i := 4) sc_law_turn_tree.nd rfl (Or.inl rfl)) (pss_one (ps_if (pt_cmpR (op_notInDK (K := K) (units65 hr)) (pv 4) (pv 3) rfl) (pss_one (ps_expr (pe_call (ok_law_give T) (hr.mono (by decide)) rfl T.g_law_give T.d_law_give.kp (b_law_give T.d_law_give) .nil pass0 (pa_cons (pv 0) (pa_cons (pe_dpopT (hu_of hr) (pe_dget (hu_of hr) (pv 0) pe_str (fun _ _ => rfl)) (pv 4) ⟨rfl, rfl, rfl, rfl⟩) (pa_cons (pe_op op_catT (pe_tup (pa_cons pe_str pa_nil)) (pv 4)) (pa_cons (pv 2) pa_nil))))))) pss_nil)))
      (pss_cons (ps_set (i := 5) sc_law_turn_tree.nd rfl (Or.inl rfl) (pe_call (ok_law_tell T) (hr.mono (by decide)) rfl T.g_law_tell T.d_law_tell.kp (b_law_tell T.d_law_tell) .nil pass0 (pa_cons (pv 0) pa_nil)))
      (pss_one (ps_lock (ps_for PassesOwn.never rfl (pi_keys (pv 5)) (pg_name (i := 4) sc_law_turn_tree.nd rfl (Or.inl rfl)) (pss_one (ps_if (PW.pt (pw_and (pt_cmp (pc_din (hu_of hr) (pv 4) (pv 1))) (pw_and1 (pt_cmpR (op_neNK (K := K) hr.units) (pe_dget (hu_of hr) (pv 1) (pv 4) (fun _ _ => rfl)) (pe_dget (hu_of hr) (pv 5) (pv 4) (fun _ _ => rfl)) (nomark _))))) (pss_one (ps_expr (pe_call (ok_law_mark T) (hr.mono (by decide)) rfl T.g_law_mark T.d_law_mark.kp (b_law_mark T.d_law_mark) .nil pass0 (pa_cons (pv 0) (pa_cons (pe_dget (hu_of hr) (pe_dget (hu_of hr) (pv 0) pe_str (fun _ _ => rfl)) (pv 4) (fun _ _ => rfl)) pa_nil))))) pss_nil))))))))), ?_⟩
    unfold sp_law_turn_tree at h
    obtain ⟨A, G, p, W, vs, D0, ps0, ns0, ⟨L0, ms0⟩, o, n, rfl, t, ok, b0, b1, b2, b3, hh, hon, hn, hnd, hnl, hev, hch, hwt, hwl, k⟩ := h
    have tw := t.tw
    have hf := ok.f
    obtain ⟨l0, hp1, hp2⟩ := t.pd'
    have hhl : W.heap.length = n + 1 - o := by rw [← List.length_map (·.1), hh, ivI_len]
    walk_at "rd"
    refine use_law_tree (b := o) (n := n + 1 - o) t.the (by rw [List.map_map]; show W.heap.map (fun e => (Sum.inl e.1 : L2.Key)) = _; rw [← hh, List.map_map]; rfl) hf (by omega) fun q1 xs H1 n1 g1 c1 _ h2 => ?_
    have hW1 : PrsL H1 xs (wantN p.fan.toNat o n) := by
      have := h2 (rlv p.fan.toNat o n + 1) (by omega) (by rw [show o + (n + 1 - o) - 1 = n by omega]; exact rlv_is (fan2 ok) hon)
      rw [show o + (n + 1 - o) - 1 = n by omega] at this
      exact this
    have t1 := t.same g1
    have tw1 := t1.tw
    obtain ⟨Lw, eLw, pLw, mLw⟩ := prs_refs hW1
    rw [eLw] at c1
    have wsr := ndN_srt p.fan.toNat o n (rlv p.fan.toNat o n + 1)
    walk_at "rd"
    refine ⟨_, Lw, rfl, SqL.of c1, pLw, fun Ls q2 H2 pm2 pw2 pl2 n2 g2 c2 => ?_⟩
    have eLs : Ls.map (·.2) = wantN p.fan.toNat o n := perm_uniq lexLe_anti ((pm2.map _).trans (by rw [mLw])) pw2 (wsr.imp lexLt_le)
    have t2 := t1.same g2
    have hLl : Ls.length = (wantN p.fan.toNat o n).length := by rw [← eLs, List.length_map]
    have q2o : q2 ∉ A.own := (t1.fresh n2).1
    have plo : ∀ e ∈ Ls, e.1 ∉ A.own := fun e he z => by
      rw [← own_L A W vs] at z
      obtain ⟨x, hx, h⟩ := List.mem_map.mp z
      have h1 := t2.at_ x hx
      rw [h, pl2 e he] at h1
      simp only [worldL, List.mem_cons, List.not_mem_nil, or_false] at hx
      rcases hx with rfl | rfl | rfl | rfl | rfl | rfl | rfl | rfl | rfl <;> cases h1
    refine ⟨_, rfl, ⟨_, SqL.of c2⟩, for_list (xs := refsP Ls) (fun j σ G' => ∃ (vs' : List V) (v4 v5 : Option V), σ = [some (.ref A.w), some (.ref D0), some (.ref A.ev), some (.ref q1), v4, v5] ∧ WAt G' A G p ((((wantN p.fan.toNat o n).take j).filter fun k => decide (k ∉ W.nodes.map (·.1))).foldl Wx.begW W) vs' ∧ WF A H2 A G') ⟨vs, _, _, rfl, t2, WF.refl⟩ ?_ ?_ ?_⟩
    · rintro j σ G' _ ⟨vs', v4, v5, rfl, t3, f3⟩
      exact SqL.of (f3.2.1 _ _ q2o c2)
    · rintro j v σ G' hx ⟨vs', v4, v5, rfl, t3, f3⟩
      obtain ⟨m, hm, rfl⟩ := refs_get hx
      have hmm := List.mem_of_getElem? hm
      have hma := f3.2.2.2 _ _ (pl2 m hmm)
      have hmk : (wantN p.fan.toNat o n)[j]? = some m.2 := by rw [← eLs, List.getElem?_map, hm]; rfl
      have etk : (wantN p.fan.toNat o n).take (j + 1) = (wantN p.fan.toNat o n).take j ++ [m.2] := by rw [List.take_succ, hmk]; rfl
      have tw3 := t3.tw
      have ndp : ((wantN p.fan.toNat o n).take j).Nodup := by
        have := srt_nd wsr
        rw [show ndN p.fan.toNat o n (rlv p.fan.toNat o n + 1) = wantN p.fan.toNat o n from rfl, ← List.take_append_drop j (wantN p.fan.toNat o n)] at this
        exact (List.nodup_append.mp this).1
      have hmj : m.2 ∉ (wantN p.fan.toNat o n).take j := fun z => by
        have := srt_nd wsr
        rw [show ndN p.fan.toNat o n (rlv p.fan.toNat o n + 1) = wantN p.fan.toNat o n from rfl, ← List.take_append_drop (j + 1) (wantN p.fan.toNat o n), etk] at this
        exact (List.nodup_append.mp (List.nodup_append.mp this).1).2.2 _ z _ (List.mem_singleton.mpr rfl) rfl
      obtain ⟨lj, elj⟩ : ∃ lj, lj = ((wantN p.fan.toNat o n).take j).filter fun k => decide (k ∉ W.nodes.map (·.1)) := ⟨_, rfl⟩
      rw [← elj] at t3
      have hljn : lj.Nodup := by rw [elj]; exact List.Pairwise.filter _ ndp
      have hljo : ∀ k ∈ lj, k ∉ W.nodes.map (·.1) := fun k hk => by rw [elj] at hk; exact of_decide_eq_true (List.mem_filter.mp hk).2
      have hljm : m.2 ∉ lj := fun z => by rw [elj] at z; exact hmj (List.mem_filter.mp z).1
      have hljl : lj.length ≤ 500 := by
        have h1 := List.length_filter_le (fun k => decide (k ∉ W.nodes.map (·.1))) ((wantN p.fan.toNat o n).take j)
        rw [List.length_take] at h1
        rw [elj]; omega
      have hkeys := begs_keys lj W hljn hljo
      obtain ⟨q1h, q2h, q3h, q4h⟩ := begs_len lj W
      have hel := t3.ev.len
      generalize hWj : lj.foldl Wx.begW W = Wj at t3 hkeys q1h q2h q3h q4h hel
      have hdg : DGet G' A.no (.ref m.1) (valV (Wj.nodes.map ndE) (nkK m.2)) := DGet.t (k := nkK m.2) t3.tno hma
      rw [val_nd] at hdg
      have tw3 := t3.tw
      walk_at "rd"
      refine ⟨_, _, rfl, hdg, ?_⟩
      by_cases c : m.2 ∈ W.nodes.map (·.1)
      · obtain ⟨g0, hg0⟩ := aget_memP (l := Wj.nodes) (k := m.2) (by rw [hkeys]; exact List.mem_append_left _ c)
        rw [hg0]
        refine ⟨_, rfl, ?_⟩
        refine iteF_of rfl ?_
        walk_at "rd"
        refine ⟨vs', _, _, rfl, ?_, f3⟩
        rw [etk, List.filter_append, List.filter_cons_of_neg (by simpa using c), List.filter_nil, List.append_nil, ← elj, hWj]
        exact t3
      · have hg0 : aget Wj.nodes m.2 = none := by
          have := aget_none (l := Wj.nodes) (k := m.2)
          rw [hkeys] at this
          exact Option.isNone_iff_eq_none.mp (this.mpr (fun z => (List.mem_append.mp z).elim c hljm))
        rw [hg0]
        refine ⟨_, rfl, ?_⟩
        refine iteT_of rfl ?_
        walk_at "rd"
        intro ta na
        generalize eF1 : upd _ ta _ = F1
        obtain ⟨ga, ca⟩ := gen_new na eF1
        clear eF1
        walk_at "rd"
        refine ⟨_, _, _, _, rfl, rfl, SqT.of ca, SqT.of (ga _ _ hma), by simp, szl (Nat.le_of_ble_eq_true rfl), (fun z => by cases z), fun _ => ?_⟩
        intro tb nb
        generalize eF2 : upd _ tb _ = F2
        obtain ⟨gb, cb⟩ := gen_new nb eF2
        clear eF2
        have t4 := (t3.same ga).same gb
        have hma2 := gb _ _ (ga _ _ hma)
        walk_at "rd"
        refine use_take28 (r := .nd m.2.1 m.2.2) rfl rfl t4 ⟨tb, rfl, cb⟩ (fun z => nomatch z) (by omega) fun F3 vs3 t5 f5 => ?_
        have hma3 := f5.2.2.2 _ _ hma2
        have tw5 := t5.tw
        walk_at "rd"
        refine ⟨_, _, rfl, DPut.t (k := nkK m.2) t5.tno hma3 (szlt (by rw [List.length_map, (take_ch Wj _).2.1, ← List.length_map (·.1), hkeys, List.length_append, List.length_map]; omega)), ?_⟩
        rw [put_nd]
        obtain ⟨t6, f6⟩ := t5.up (W' := { Wj.take (.nd m.2.1 m.2.2) with nodes := aput Wj.nodes m.2 Wj.takeP }) (vs' := vs3) 3 (o := .dT ((aput (Wj.take (.nd m.2.1 m.2.2)).nodes m.2 Wj.takeP).map ndE)) rfl (fun _ z => nomatch z) (by rw [(take_ch Wj _).2.1]; rfl) t5.ev
        generalize L2.upd F3 A.no _ = F4 at t6 f6 ⊢
        have tw6 := t6.tw
        have hma4 := f6.2.2.2 _ _ hma3
        have hdg6 : DGet F4 A.no (.ref m.1) (some (.int Wj.takeP)) := by
          have := DGet.t (k := nkK m.2) t6.tno hma4
          rw [val_nd] at this
          rw [show aget ({ Wj.take (.nd m.2.1 m.2.2) with nodes := aput Wj.nodes m.2 Wj.takeP } : Wx).nodes m.2 = some Wj.takeP from aget_aput _ _ _] at this
          exact this
        walk_at "rd"
        refine ⟨_, _, rfl, hdg6, ?_⟩
        refine use_mark28 rfl t6 (by show (Wj.take (.nd m.2.1 m.2.2)).changed.length ≤ 99000; rw [(take_ch Wj _).1]; omega) fun F5 t7 f7 => ?_
        walk_at "rd"
        refine ⟨vs3, _, _, rfl, ?_, (((f3.trans ((WF.same (ga.trans gb)))).trans f5).trans f6).trans f7⟩
        rw [etk, List.filter_append, List.filter_cons_of_pos (by simpa using c), List.filter_nil, List.foldl_append, ← elj, hWj]
        exact t7
    · rintro σ G' ⟨vs', v4, v5, rfl, t3, f3⟩
      rw [show (refsP Ls).length = (wantN p.fan.toNat o n).length by unfold refsP; rw [List.length_map, hLl], List.take_length] at t3
      have f3a : WF A H A G' := (WF.same (g1.trans g2)).trans f3
      obtain ⟨W1, eW1⟩ : ∃ W1, W1 = W.turn1 p.fan.toNat o n := ⟨_, rfl⟩
      have t3 : WAt G' A G p W1 vs' := by rw [eW1]; exact t3
      have tw3 := t3.tw
      have hfn : ((wantN p.fan.toNat o n).filter fun k => decide (k ∉ W.nodes.map (·.1))).Nodup := List.Pairwise.filter _ (srt_nd wsr)
      have hfl := List.length_filter_le (fun k => decide (k ∉ W.nodes.map (·.1))) (wantN p.fan.toNat o n)
      have hk1 : W1.nodes.map (·.1) = W.nodes.map (·.1) ++ ((wantN p.fan.toNat o n).filter fun k => decide (k ∉ W.nodes.map (·.1))) := by
        rw [eW1]
        exact begs_keys _ W hfn fun k hk => of_decide_eq_true (List.mem_filter.mp hk).2
      have hk1n : (W1.nodes.map (·.1)).Nodup := by
        rw [hk1]
        refine List.nodup_append.mpr ⟨hnd, hfn, fun a ha b hb e => ?_⟩
        exact (of_decide_eq_true (List.mem_filter.mp hb).2) (e ▸ ha)
      obtain ⟨l1h, l2h, l3h, l4h⟩ := begs_len ((wantN p.fan.toNat o n).filter fun k => decide (k ∉ W.nodes.map (·.1))) W
      rw [show ((wantN p.fan.toNat o n).filter fun k => decide (k ∉ W.nodes.map (·.1))).foldl Wx.begW W = W1 by rw [eW1]; rfl] at l1h l2h l3h l4h
      have l4l : W1.waiting.length = W.waiting.length := by rw [l4h]
      have hn1l : W1.nodes.length ≤ 1000 := by
        have := congrArg List.length hk1
        rw [List.length_map, List.length_append, List.length_map] at this
        omega
      have c1a := f3.2.2.2
      walk_at "rd"
      refine ⟨_, _, W1.nodes.map (·.1), rfl, .inl t3.tno, keys_nd _, fun Ms q3 G4 pm3 pw3 pp3 n3 g3 c3 => ?_⟩
      have hMs : Ms.map (·.2) = sortP (W1.nodes.map (·.1)) := sortP_eq pm3 pw3
      have t4 := t3.same g3
      have hMl : Ms.length ≤ 1000 := by
        have := pm3.length_eq
        rw [List.length_map, List.length_map] at this
        omega
      have q3o : q3 ∉ A.own := (t3.fresh n3).1
      have hsn : (sortP (W1.nodes.map (·.1))).Nodup := (sortP_perm _).nodup_iff.mpr hk1n
      have c1G := (f3.trans (WF.same g3)).2.1 _ _ (t1.same g2 |>.fresh (d := q1) |> fun _ => (t.fresh n1).1) (g2 _ _ c1)
      have hWG : PrsL G4 (refsP Lw) (wantN p.fan.toNat o n) := by
        rw [← eLw]
        exact hW1.mono (g2.tp.trans (f3.2.2.2.trans g3.tp))
      refine ⟨_, rfl, ⟨_, SqL.of c3⟩, for_list (xs := refsP Ms) (fun j σ F => ∃ (A' : WAd) (vs' : List V) (v4 v5 : Option V), σ = [some (.ref A.w), some (.ref D0), some (.ref A.ev), some (.ref q1), v4, v5] ∧ WAt F A' G p ((((sortP (W1.nodes.map (·.1))).take j).filter fun k => decide (k ∉ wantN p.fan.toNat o n)).foldl Wx.endW W1) vs' ∧ WF A G4 A' F) ⟨A, vs', _, _, rfl, t4, WF.refl⟩ ?_ ?_ ?_⟩
      · rintro j σ F _ ⟨A', vs', v4, v5, rfl, t5, f5⟩
        exact SqL.of (f5.2.1 _ _ q3o c3)
      · rintro j v σ F hx ⟨A', vs5, v4, v5, rfl, t5, f5⟩
        obtain ⟨m, hm, rfl⟩ := refs_get hx
        have hmm := List.mem_of_getElem? hm
        have hma := f5.2.2.2 _ _ (pp3 m hmm)
        have hmk : (sortP (W1.nodes.map (·.1)))[j]? = some m.2 := by rw [← hMs, List.getElem?_map, hm]; rfl
        have etk : (sortP (W1.nodes.map (·.1))).take (j + 1) = (sortP (W1.nodes.map (·.1))).take j ++ [m.2] := by rw [List.take_succ, hmk]; rfl
        have c1F := f5.2.1 _ _ (t.fresh n1).1 c1G
        have hWF := hWG.mono f5.2.2.2
        have ew : A'.w = A.w := f5.1.1
        have ee : A'.ev = A.ev := f5.1.2.2
        have nds := (sortP_perm (W1.nodes.map (·.1))).nodup_iff.mpr hk1n
        have ndp : ((sortP (W1.nodes.map (·.1))).take j).Nodup := by
          rw [← List.take_append_drop j (sortP (W1.nodes.map (·.1)))] at nds
          exact (List.nodup_append.mp nds).1
        have hmj : m.2 ∉ (sortP (W1.nodes.map (·.1))).take j := fun z => by
          rw [← List.take_append_drop (j + 1) (sortP (W1.nodes.map (·.1))), etk] at nds
          exact (List.nodup_append.mp (List.nodup_append.mp nds).1).2.2 _ z _ (List.mem_singleton.mpr rfl) rfl
        have hmin : m.2 ∈ W1.nodes.map (·.1) := (sortP_perm _).mem_iff.mp (List.mem_of_getElem? hmk)
        obtain ⟨lj, elj⟩ : ∃ lj, lj = ((sortP (W1.nodes.map (·.1))).take j).filter fun k => decide (k ∉ wantN p.fan.toNat o n) := ⟨_, rfl⟩
        rw [← elj] at t5
        have hljn : lj.Nodup := by rw [elj]; exact List.Pairwise.filter _ ndp
        have hljm : m.2 ∉ lj := fun z => by rw [elj] at z; exact hmj (List.mem_filter.mp z).1
        have hljl : lj.length ≤ 1000 := by
          have h1 := List.length_filter_le (fun k => decide (k ∉ wantN p.fan.toNat o n)) ((sortP (W1.nodes.map (·.1))).take j)
          rw [List.length_take, (sortP_perm _).length_eq, List.length_map] at h1
          rw [elj]; omega
        obtain ⟨r1h, r2h, r3h, r4h, r5h, r6h, r7h⟩ := ends_facts28 lj W1 hk1n hljn
        have hel := t5.ev.len
        generalize hWj : lj.foldl Wx.endW W1 = Wj at t5 r1h r2h r3h r4h r5h r6h r7h hel
        walk_at "rd"
        by_cases c : m.2 ∈ wantN p.fan.toNat o n
        · refine notin_prs hma c1F hWF c ?_
          walk_at "rd"
          refine ⟨A', vs5, _, _, rfl, ?_, f5⟩
          rw [etk, List.filter_append, List.filter_cons_of_neg (by simpa using c), List.filter_nil, List.append_nil, ← elj, hWj]
          exact t5
        · refine notin_prsT hma c1F hWF c ?_
          obtain ⟨g0, hg0⟩ := aget_memP (l := Wj.nodes) (k := m.2) ((r6h m.2).mpr ⟨hmin, hljm⟩)
          have gno : DGet F A.w (.str "nodes") (some (.ref A'.no)) := by rw [← ew]; exact wg_nodes t5.tw
          walk_at "rd"
          refine ⟨_, _, rfl, gno, ?_⟩
          refine ⟨_, rfl, .inr ⟨_, .inl t5.tno⟩, ?_⟩
          walk_at "rd"
          refine ⟨_, nkK m.2, _, .int g0, t5.tno, rfl, hma, by rw [val_nd, hg0]; rfl, ?_⟩
          rw [drop_nd]
          obtain ⟨t6, f6⟩ := t5.up (W' := { Wj with nodes := adrop Wj.nodes m.2 }) (vs' := vs5) 3 (o := .dT ((adrop Wj.nodes m.2).map ndE)) rfl (fun _ z => nomatch z) rfl t5.ev
          generalize L2.upd F A'.no _ = F1 at t6 f6 ⊢
          have hma6 := f6.2.2.2 _ _ hma
          walk_at "rd"
          intro ta na
          generalize eF2 : upd _ ta _ = F2
          obtain ⟨ga, ca⟩ := gen_new na eF2
          clear eF2
          walk_at "rd"
          refine ⟨_, _, _, _, rfl, rfl, SqT.of ca, SqT.of (ga _ _ hma6), by simp, szl (Nat.le_of_ble_eq_true rfl), (fun z => by cases z), fun _ => ?_⟩
          intro tb nb
          generalize eF3 : upd _ tb _ = F3
          obtain ⟨gb, cb⟩ := gen_new nb eF3
          clear eF3
          have t7 := (t6.same ga).same gb
          walk_at "rd"
          refine use_give28 (r := .nd m.2.1 m.2.2) ew.symm ee.symm t7 ⟨tb, rfl, cb⟩ (fun z => nomatch z) (by omega) (by show Wj.changed.length ≤ 99000; omega) (by show Wj.waiting.length ≤ 99000; omega) fun F4 A4 vs4 t8 f8 => ?_
          walk_at "rd"
          refine ⟨A4, vs4, _, _, rfl, ?_, ((f5.trans f6).trans (WF.same (ga.trans gb))).trans f8⟩
          rw [etk, List.filter_append, List.filter_cons_of_pos (by simpa using c), List.filter_nil, List.foldl_append, ← elj, hWj]
          have e9 : [m.2].foldl Wx.endW Wj = ({ Wj with nodes := adrop Wj.nodes m.2 } : Wx).give g0 (.nd m.2.1 m.2.2) := by
            show ({ Wj with nodes := adrop Wj.nodes m.2 } : Wx).give ((aget Wj.nodes m.2).getD 0) (.nd m.2.1 m.2.2) = _
            rw [hg0]; rfl
          rw [e9]
          exact t8
      · rintro σ F ⟨A', vs5, v4, v5, rfl, t5, f5⟩
        rw [show (refsP Ms).length = (sortP (W1.nodes.map (·.1))).length by unfold refsP; rw [List.length_map, ← hMs, List.length_map], List.take_length] at t5
        have ew : A'.w = A.w := f5.1.1
        have ee : A'.ev = A.ev := f5.1.2.2
        have f5a : WF A H A' F := (f3a.trans (WF.same g3)).trans f5
        have nds := (sortP_perm (W1.nodes.map (·.1))).nodup_iff.mpr hk1n
        have hfe : ((sortP (W1.nodes.map (·.1))).filter fun k => decide (k ∉ wantN p.fan.toNat o n)).length ≤ 1000 := by
          have h1 := List.length_filter_le (fun k => decide (k ∉ wantN p.fan.toNat o n)) (sortP (W1.nodes.map (·.1)))
          rw [(sortP_perm _).length_eq, List.length_map] at h1
          omega
        obtain ⟨r1h, r2h, r3h, r4h, r5h, r6h, r7h⟩ := ends_facts28 ((sortP (W1.nodes.map (·.1))).filter fun k => decide (k ∉ wantN p.fan.toNat o n)) W1 hk1n (by exact List.Pairwise.filter _ nds)
        obtain ⟨W2, eW2⟩ : ∃ W2, W2 = W1.turn2 p.fan.toNat o n := ⟨_, rfl⟩
        rw [show ((sortP (W1.nodes.map (·.1))).filter fun k => decide (k ∉ wantN p.fan.toNat o n)).foldl Wx.endW W1 = W2 by rw [eW2]; rfl] at t5 r1h r2h r3h r4h r5h r6h r7h
        have hW2h : W2.heap = W.heap := r1h.trans l1h
        have hel := t5.ev.len
        walk_at "rd"
        refine use_tell28 ew.symm t5 ok (by rw [hW2h]; omega) (by omega) (by rw [hW2h, hh]; exact ivI_srt _ _) r5h fun Da F1 La ma nDa ga ta nLa => ?_
        have t6 := t5.same ga
        have D0a : D0 ∉ A.own := b1
        have b0F : TellAt F1 D0 p.fan ps0 ns0 L0 ms0 := by
          have hx : ∀ b o, b ∉ A.own → H b = some o → F1 b = some o := fun b o nb h => ga _ _ (f5a.2.1 b o nb h)
          exact ⟨hx _ _ b1 b0.d, b0.ks, b0.nd, b0.mks, fun m hm => ga _ _ (f5a.2.2.2 _ _ (b0.ma m hm)), fun e he => hx _ _ (b2 e he) (b0.c e he)⟩
        walk_at "rd"
        refine ⟨Da, .dT (La.map LdE), ta.d, True.intro, fun od => ?_⟩
        have nDo := (t5.fresh nDa)
        have t7 := t6.out (o := .frz od (.dT (La.map LdE))) nDo.1 nDo.2 ta.d fun _ z => nomatch z
        have cL : L2.upd F1 Da (.frz od (.dT (La.map LdE))) Da = some (.frz od (.dT (La.map LdE))) := upd_same
        have fL : ∀ b o, b ≠ Da → F1 b = some o → L2.upd F1 Da (.frz od (.dT (La.map LdE))) b = some o := fun b o nb h => by rw [upd_ne nb]; exact h
        generalize L2.upd F1 Da _ = GL at t7 cL fL ⊢
        walk_at "rd"
        refine ⟨_, _, rfl, .inr ⟨_, cL, ?_⟩⟩
        have sub : ∀ b ∈ A'.own, b ∈ A.own ∨ H b = none := f5a.2.2.1
        have D0' : D0 ∉ A'.own := fun z => (sub _ z).elim b1 (fun y => by rw [b0.d] at y; cases y)
        have L0' : ∀ e ∈ L0, e.2 ∉ A'.own := fun e he z => (sub _ z).elim (b2 e he) (fun y => by rw [b0.c e he] at y; cases y)
        have D0a : D0 ≠ Da := fun z => by
          have := f5a.2.1 _ _ b1 b0.d
          rw [z, nDa] at this; cases this
        have L0a : ∀ e ∈ L0, e.2 ≠ Da := fun e he z => by
          have := f5a.2.1 _ _ (b2 e he) (b0.c e he)
          rw [z, nDa] at this; cases this
        have La' : ∀ e ∈ La, e.2 ∉ A'.own ∧ e.2 ≠ Da := fun e he => ⟨(t5.fresh (nLa e he)).1, fun z => by have := ta.c e he; rw [z, ta.d] at this; cases this⟩
        have tpL : TP F1 GL := fun b ys h => fL b _ (fun z => by rw [z, ta.d] at h; cases h) h
        refine for_it walk_keysT (fun j σ F2 => ∃ (vs6 : List V) (v4 : Option V), σ = [some (.ref A.w), some (.ref D0), some (.ref A.ev), some (.ref q1), v4, some (.ref Da)] ∧ WAt F2 A' G p (open Classical in (((W2.nodes.map (·.1)).take j).filter fun k => decide (k ∈ ns0 ∧ kidD p.fan ps0 ns0 k ≠ kidD p.fan (W2.heap.map (·.1)) (W2.nodes.map (·.1)) k)).foldl Wx.markN W2) vs6 ∧ WF A' GL A' F2) ⟨vs5, _, rfl, t7, WF.refl⟩ ?_ ?_ ?_
        · rintro j σ F2 _ ⟨vs6, v4, rfl, t8, f8⟩
          exact f8.2.1 _ _ nDo.1 cL
        · rintro j x σ F2 F3 hj ⟨vs6, v4, rfl, t8, f8⟩ ⟨rfl, kk, vv, q, hk, rfl, hq⟩
          rw [List.getElem?_map] at hk
          obtain ⟨e, he, hke⟩ : ∃ e, La[j]? = some e ∧ LdE e = (kk, vv) := by
            cases z : La[j]? with
            | none => rw [z] at hk; cases hk
            | some e => rw [z] at hk; exact ⟨e, rfl, Option.some.inj hk⟩
          have hkk : kk = nkK e.1 := (congrArg Prod.fst hke).symm
          subst hkk
          have hq' : F3 q = some (.tup [.int e.1.1, .int e.1.2]) := hq
          have hek : (W2.nodes.map (·.1))[j]? = some e.1 := by rw [← ta.ks, List.getElem?_map, he]; rfl
          have etk : (W2.nodes.map (·.1)).take (j + 1) = (W2.nodes.map (·.1)).take j ++ [e.1] := by rw [List.take_succ, hek]; rfl
          have eG : ∀ b o, b ≠ Da → b ∉ A'.own → F1 b = some o → F3 b = some o := fun b o h1 h2 h => f8.2.1 _ _ h2 (fL _ _ h1 h)
          have hD0 := eG _ _ D0a D0' b0F.d
          have hDa : F3 Da = some (.frz od (.dT (La.map LdE))) := f8.2.1 _ _ nDo.1 cL
          have tp3 : TP F1 F3 := tpL.trans f8.2.2.2
          obtain ⟨lj, elj⟩ : ∃ lj, lj = (open Classical in (((W2.nodes.map (·.1)).take j).filter fun k => decide (k ∈ ns0 ∧ kidD p.fan ps0 ns0 k ≠ kidD p.fan (W2.heap.map (·.1)) (W2.nodes.map (·.1)) k))) := ⟨_, rfl⟩
          rw [← elj] at t8
          obtain ⟨mk1, mk2⟩ := mark_mem lj W2
          have hmc : (lj.foldl Wx.markN W2).changed.length ≤ 99000 := by
            have h1 := marks_len lj W2
            have h2 : lj.length ≤ W2.nodes.length := by
              rw [elj]
              refine Nat.le_trans (List.length_filter_le _ _) ?_
              rw [List.length_take, List.length_map]
              omega
            omega
          generalize hWj : lj.foldl Wx.markN W2 = Wj at t8 mk1 mk2 hmc
          have hdg0 : DGet F3 D0 (.ref q) (valV (L0.map LdE) (nkK e.1)) := DGet.t (k := nkK e.1) hD0 hq'
          rw [val_Ld] at hdg0
          walk_at "rd"
          refine ⟨_, _, rfl, hdg0, ?_⟩
          cases hA : agetA L0 e.1 with
          | none =>
            have hns : e.1 ∉ ns0 := fun z => by
              have := agetA_iff (L := L0) (k := e.1)
              rw [hA, b0.ks, decide_eq_true z] at this
              cases this
            refine ⟨_, rfl, ?_⟩
            walk_at "rd"
            refine ⟨vs6, _, rfl, ?_, f8⟩
            rw [etk, List.filter_append, List.filter_cons_of_neg (by simp [hns]), List.filter_nil, List.append_nil, ← elj, hWj]
            exact t8
          | some a0 =>
            have hm0 := agetA_mem hA
            have hns : e.1 ∈ ns0 := by rw [← b0.ks]; exact List.mem_map.mpr ⟨_, hm0, rfl⟩
            rw [hA] at hdg0
            have heL := List.mem_of_getElem? he
            have hva : some (V.ref e.2) = valV (La.map LdE) (nkK e.1) := by rw [val_Ld, agetA_some (by rw [ta.ks]; exact r5h) heL]; rfl
            have c0 : F3 a0 = some (.lst (kidV p.fan ps0 ms0 e.1)) := eG _ _ (L0a _ hm0) (L0' _ hm0) (b0F.c _ hm0)
            have ca := eG _ _ (La' e heL).2 (La' e heL).1 (ta.c e heL)
            refine ⟨_, rfl, ?_⟩
            walk_at "rd"
            refine ⟨_, _, rfl, hdg0, ?_⟩
            walk_at "rd"
            refine ⟨_, _, rfl, .inr ⟨La.map LdE, nkK e.1, q, .inr ⟨od, hDa⟩, rfl, hq', hva⟩, ?_⟩
            refine use_neN (.lst (SqL.of c0) (kid_dp b0.mks (fun m hm => tp3 _ _ (b0F.ma m hm)) e.1)) (.lst (SqL.of ca) (kid_dp ta.mks (fun m hm => tp3 _ _ (ta.ma m hm)) e.1)) (kid_nb _ _ _ _) (kid_nb _ _ _ _) fun cb hcb => ?_
            have hcb : cb = true ↔ kidD p.fan ps0 ns0 e.1 ≠ kidD p.fan (W2.heap.map (·.1)) (W2.nodes.map (·.1)) e.1 := hcb.trans (not_congr ⟨fun z => by injection z, fun z => by rw [z]⟩)
            cases cb with
            | false =>
              have hne : ¬ (kidD p.fan ps0 ns0 e.1 ≠ kidD p.fan (W2.heap.map (·.1)) (W2.nodes.map (·.1)) e.1) := fun z => by have := hcb.mpr z; cases this
              walk_at "rd"
              refine ⟨vs6, _, rfl, ?_, f8⟩
              rw [etk, List.filter_append, List.filter_cons_of_neg (by simp only [decide_eq_true_eq]; exact fun z => hne z.2), List.filter_nil, List.append_nil, ← elj, hWj]
              exact t8
            | true =>
              have hne := hcb.mp rfl
              obtain ⟨g0, hg0⟩ := aget_memP (l := Wj.nodes) (k := e.1) (by rw [mk1]; exact List.mem_of_getElem? hek)
              have gno : DGet F3 A.w (.str "nodes") (some (.ref A'.no)) := by rw [← ew]; exact wg_nodes t8.tw
              have hdg6 : DGet F3 A'.no (.ref q) (some (.int g0)) := by
                have := DGet.t (k := nkK e.1) t8.tno hq'
                rw [val_nd, hg0] at this
                exact this
              walk_at "rd"
              refine ⟨_, _, rfl, gno, ?_⟩
              walk_at "rd"
              refine ⟨_, _, rfl, hdg6, ?_⟩
              walk_at "rd"
              refine use_mark28 ew.symm t8 hmc fun F4 t9 f9 => ?_
              walk_at "rd"
              refine ⟨vs6, _, rfl, ?_, f8.trans f9⟩
              rw [etk, List.filter_append, List.filter_cons_of_pos (by simp only [decide_eq_true_eq]; exact ⟨hns, hne⟩), List.filter_nil, List.foldl_append, ← elj, hWj]
              have e9 : [e.1].foldl Wx.markN Wj = Wj.mark g0 := by
                show Wj.mark ((aget Wj.nodes e.1).getD 0) = _
                rw [hg0]; rfl
              rw [e9]
              exact t9
        · rintro σ F2 ⟨vs6, v4, rfl, t8, f8⟩
          refine ⟨f8.2.1 _ _ nDo.1 cL, ?_⟩
          have t9 := t8.out (o := .dT (La.map LdE)) nDo.1 nDo.2 (f8.2.1 _ _ nDo.1 cL) fun _ z => nomatch z
          have f9 : WF A H A' (L2.upd F2 Da (.dT (La.map LdE))) := by
            refine ⟨f5a.1, fun b o nb h => ?_, f5a.2.2.1, ((f5a.2.2.2.trans ga.tp).trans tpL).trans (f8.2.2.2.trans (TP.upd (f8.2.1 _ _ nDo.1 cL) fun _ z => nomatch z))⟩
            have h1 := f5a.2.1 b o nb h
            have hb : b ≠ Da := fun z => by rw [z, nDa] at h1; cases h1
            have hb' : b ∉ A'.own := fun z => (f5a.2.2.1 _ z).elim nb (fun y => by rw [h] at y; cases y)
            rw [upd_ne hb]
            exact f8.2.1 b o hb' (fL b o hb (ga b o h1))
          generalize L2.upd F2 Da _ = F9 at t9 f9 ⊢
          walk_at "rd"
          refine k F9 A' vs6 ?_ f9
          have hlen : (La.map LdE).length = (W2.nodes.map (·.1)).length := by rw [List.length_map, ← ta.ks, List.length_map]
          have et : W.turn p.fan o n ps0 ns0 = W2.turn3 p.fan ps0 ns0 := by unfold Wx.turn; rw [← eW1, ← eW2]
          rw [et]
          unfold Wx.turn3
          rw [List.take_of_length_le (l := W2.nodes.map (·.1))] at t9
          · exact t9
          · rw [← hlen]
            simp only [List.length_map]
            omega

theorem use_turn28 {K : PySem.W.Frag} {A : WAd} {a b D0 : Addr} {G : Hp} {p : Prt} {W : Wx} {vs : List V} {ps0 : List Int} {ns0 : List NK} {L0 : List (NK × Addr)} {ms0 : List (Addr × NK)} {o n : Nat} {H : Hp} {Q : VK} {E : XK} (ea : a = A.w) (eb : b = A.ev) (t : WAt H A G p W vs) (ok : p.Ok)
  (b0 : TellAt H D0 p.fan ps0 ns0 L0 ms0) (b1 : D0 ∉ A.own) (b2 : ∀ e ∈ L0, e.2 ∉ A.own) (b3 : ns0.Nodup) (hh : W.heap.map (·.1) = ivI o (n + 1 - o)) (hon : o ≤ n) (hn : n < 850) (hnd : (W.nodes.map (·.1)).Nodup) (hnl : W.nodes.length ≤ 500) (hev : W.evs.length ≤ 10000) (hch : W.changed.length ≤ 10000) (hwt : W.waiting.length ≤ 10000) (hwl : (wantN p.fan.toNat o n).length ≤ 500)
  (k : ∀ (H' : Hp) (A' : WAd) (vs' : List V), WAt H' A' G p (W.turn p.fan o n ps0 ns0) vs' → WF A H A' H' → Q .non H') : sp_law_turn_tree K [.ref a, .ref D0, .ref b] H Q E := by
  subst ea eb; unfold sp_law_turn_tree; exact ⟨A, G, p, W, vs, D0, ps0, ns0, (L0, ms0), o, n, rfl, t, ok, b0, b1, b2, b3, hh, hon, hn, hnd, hnl, hev, hch, hwt, hwl, k⟩
/-! ### the law's row, as a doing of the plain store -/
noncomputable def Wx.rowL (W : Wx) (p : Prt) : Wx := if (W.rows % p.every.toNat) % p.rec_.toNat = 0 then { W.take (.lg ((W.rows % p.every.toNat / p.rec_.toNat : Nat) : Int)) with log := W.log ++ [W.takeP] } else W
noncomputable def Wx.rowR (W : Wx) (p : Prt) : Wx := (W.rowL p).say "record" ((W.rowL p).log.getLastD 0) (.row W.rows)
def Wx.len (W : Wx) (p : Prt) : Int := p.lens.getD (W.rows % p.lens.length) 0
/-- a new heap page, ahead of its tree -/
def Wx.opened (W : Wx) (p : Prt) : Wx := { ({ W with page := W.page + 1, left := p.size, first := W.first ++ [(W.page + 1, (W.rows : Int))] } : Wx).take (.hp (W.page + 1)) with heap := W.heap ++ [(W.page + 1, W.takeP)] }
noncomputable def Wx.opn (W : Wx) (p : Prt) : Wx := (W.opened p).turn p.fan ((W.opened p).heap.headD (0, 0)).1.toNat (W.page + 1).toNat (W.heap.map (·.1)) (W.nodes.map (·.1))
noncomputable def Wx.rowH (W : Wx) (p : Prt) : Wx := if W.len p > (W.rowR p).left then (W.rowR p).opn p else W.rowR p
def Wx.newP (W : Wx) : Int := (W.heap.getLastD (0, 0)).2
noncomputable def Wx.rowB (W : Wx) (p : Prt) : Wx := (({ W.rowH p with left := (W.rowH p).left - W.len p } : Wx).mark (W.rowH p).newP).say "put" (W.rowH p).newP (.row W.rows)
/-- the oldest heap page is given back, ahead of the tree -/
def Wx.closed (W : Wx) : Wx := ({ W with heap := W.heap.tail } : Wx).give (W.heap.headD (0, 0)).2 (.hp (W.heap.headD (0, 0)).1)
noncomputable def Wx.cls (W : Wx) (p : Prt) : Wx := W.closed.turn p.fan ((W.heap.headD (0, 0)).1 + 1).toNat W.page.toNat (W.heap.map (·.1)) (W.nodes.map (·.1))
def Wx.firstOf (W : Wx) (q : Int) : Int := ((W.first.find? fun e => decide (e.1 = q)).map (·.2)).getD 0
def Wx.ends (W : Wx) (p : Prt) : Prop := (W.rows : Int) ≥ p.keep ∧ (W.heap.headD (0, 0)).1 < W.page ∧ W.firstOf ((W.heap.headD (0, 0)).1 + 1) = (W.rows : Int) - p.keep + 1
noncomputable def Wx.rowE (W : Wx) (p : Prt) : Wx := open Classical in if (W.rowB p).ends p then (W.rowB p).cls p else W.rowB p
def Wx.sync (W : Wx) : Wx := { W with evs := W.evs ++ (sortI W.changed).map (fun q => (⟨"write", q, .no⟩ : Ev)) ++ (W.waiting ++ W.log).map (fun q => (⟨"free", q, .no⟩ : Ev)), list := W.list ++ W.waiting ++ W.log, changed := [], waiting := [], log := [] }
noncomputable def Wx.row (W : Wx) (p : Prt) : Wx := if (W.rows + 1) % p.every.toNat = 0 then ({ W.rowE p with rows := W.rows + 1 } : Wx).sync else { W.rowE p with rows := W.rows + 1 }
/-- the store's writing is the law's -/
theorem writes_evs : ∀ (l : List Int) (S : Sx), l.foldl (fun T p => T.ev "write" p .no) S = { S with evs := S.evs ++ l.map (fun q => (⟨"write", q, .no⟩ : Ev)) }
  | [], S => by simp
  | q :: l, S => by
    rw [List.foldl_cons, writes_evs l]
    unfold Sx.ev
    simp
theorem frees_evsS : ∀ (l : List Int) (S : Sx), l.foldl Sx.free1 S = { S with free := S.free ++ l, evs := S.evs ++ l.map (fun q => (⟨"free", q, .no⟩ : Ev)) }
  | [], S => by simp
  | q :: l, S => by
    rw [List.foldl_cons, frees_evsS l]
    unfold Sx.free1 Sx.ev
    simp
/-- the checkpoint -/
theorem sim_sync {S : Sx} {W : Wx} (h : SimD S W) (c : SimC (fun _ => False) S W) (n1 : S.changed.Nodup) (n2 : W.changed.Nodup) : SimD S.checkpoint W.sync ∧ SimC (fun _ => False) S.checkpoint W.sync := by
  have e : sortI W.changed = sortI S.changed := by
    refine sortI_eq ((sortI_perm _).trans ((List.perm_ext_iff_of_nodup n2 n1).mpr fun q => ?_)) (sortI_pw _)
    rw [c q]; simp
  obtain ⟨h1, h2, h3, h4, h5, h6, h7⟩ := h
  have e1 : S.checkpoint = { S with evs := S.evs ++ (sortI S.changed).map (fun q => (⟨"write", q, .no⟩ : Ev)) ++ (S.waiting ++ S.log).map (fun q => (⟨"free", q, .no⟩ : Ev)), free := S.free ++ (S.waiting ++ S.log), changed := [], waiting := [], log := [] } := by
    unfold Sx.checkpoint
    dsimp only
    rw [writes_evs, frees_evsS]
  rw [e1]
  unfold Wx.sync
  rw [e, h3, h4, h5, h7]
  refine ⟨⟨h1, h2, rfl, rfl, ?_, h6, ?_⟩, fun q => ?_⟩
  · show S.free ++ S.waiting ++ S.log = S.free ++ (S.waiting ++ S.log)
    rw [List.append_assoc]
  · rfl
  · show q ∈ ([] : List Int) ↔ q ∈ ([] : List Int) ∨ False
    simp
theorem sim_rowL {S : Sx} {W : Wx} {p : Prt} {X : Int → Prop} (h : SimD S W) (c : SimC X S W) (hr : W.rows = S.done) : SimD (S.rowL p) (W.rowL p) ∧ SimC X (S.rowL p) (W.rowL p) := by
  unfold Sx.rowL Wx.rowL
  rw [hr]
  by_cases z : (S.done % p.every.toNat) % p.rec_.toNat = 0
  · rw [if_pos z, if_pos z]
    have ht := h.take (.lg ((S.done % p.every.toNat / p.rec_.toNat : Nat) : Int))
    refine ⟨⟨ht.heap, ht.nodes, ?_, ht.waiting, ht.list, ht.size, ht.evs⟩, fun q => ?_⟩
    · show W.log ++ [W.takeP] = S.log ++ [S.takeP]
      rw [h.log, h.takeP]
    · show q ∈ (S.takeS (.lg ((S.done % p.every.toNat / p.rec_.toNat : Nat) : Int))).changed ↔ q ∈ (W.take (.lg ((S.done % p.every.toNat / p.rec_.toNat : Nat) : Int))).changed ∨ X q
      rw [takeS_ch, (take_ch W _).1]
      exact c q
  · rw [if_neg z, if_neg z]
    exact ⟨h, c⟩
theorem sim_rowR {S : Sx} {W : Wx} {p : Prt} {X : Int → Prop} (h : SimD S W) (c : SimC X S W) (hr : W.rows = S.done) : SimD (S.rowR p) (W.rowR p) ∧ SimC X (S.rowR p) (W.rowR p) := by
  obtain ⟨⟨h1, h2, h3, h4, h5, h6, h7⟩, c1⟩ := sim_rowL (p := p) h c hr
  unfold Sx.rowR Wx.rowR
  refine ⟨⟨h1, h2, h3, h4, h5, h6, ?_⟩, c1⟩
  show (W.rowL p).evs ++ _ = (S.rowL p).evs ++ _
  rw [h7, h3, hr]
/-- a new heap page -/
theorem sim_opened {S : Sx} {W : Wx} {p : Prt} (h : SimD S W) (c : SimC (fun _ => False) S W) (hp : W.page + 1 = ((S.oldest + S.heap.length : Nat) : Int)) :
    SimD (({ S.takeS (.hp ((S.oldest + S.heap.length : Nat) : Int)) with heap := S.heap ++ [S.takeP] } : Sx).mark S.takeP) (W.opened p) ∧ SimC (fun q => q = S.takeP) (({ S.takeS (.hp ((S.oldest + S.heap.length : Nat) : Int)) with heap := S.heap ++ [S.takeP] } : Sx).mark S.takeP) (W.opened p) := by
  have h0 : SimD S ({ W with page := W.page + 1, left := p.size, first := W.first ++ [(W.page + 1, (W.rows : Int))] } : Wx) := ⟨h.heap, h.nodes, h.log, h.waiting, h.list, h.size, h.evs⟩
  have ht := h0.take (.hp ((S.oldest + S.heap.length : Nat) : Int))
  have eo : (S.takeS (.hp ((S.oldest + S.heap.length : Nat) : Int))).oldest = S.oldest := by
    unfold Sx.takeS Sx.taking Sx.ev
    split <;> rfl
  unfold Wx.opened
  rw [hp] at ht ⊢
  refine ⟨⟨?_, ht.nodes, ht.log, ht.waiting, ht.list, ht.size, ht.evs⟩, fun q => ?_⟩
  · show W.heap ++ [(((S.oldest + S.heap.length : Nat) : Int), W.takeP)] = List.mapIdx (fun i x => ((((S.takeS (.hp ((S.oldest + S.heap.length : Nat) : Int))).oldest + i : Nat) : Int), x)) (S.heap ++ [S.takeP])
    rw [eo, List.mapIdx_append, h.heap, h.takeP]
    unfold Sx.hpL
    simp
  · show q ∈ cput (S.takeS (.hp ((S.oldest + S.heap.length : Nat) : Int))).changed S.takeP ↔ q ∈ (Wx.take _ (.hp ((S.oldest + S.heap.length : Nat) : Int))).changed ∨ q = S.takeP
    rw [mem_cput_iff, takeS_ch, (take_ch _ _).1, c q]
    simp
/-- the oldest heap page given back -/
theorem sim_closed {S : Sx} {W : Wx} (lv : Int) (h : SimD S W) (c : SimC (fun _ => False) S W) (hn : S.heap ≠ []) :
    SimD ({ ({ S with heap := S.heap.tail } : Sx).give (S.heap.headD 0) (.hp S.oldest) with oldest := S.oldest + 1, top := lv } : Sx) W.closed ∧ SimC (fun _ => False) ({ ({ S with heap := S.heap.tail } : Sx).give (S.heap.headD 0) (.hp S.oldest) with oldest := S.oldest + 1, top := lv } : Sx) W.closed := by
  obtain ⟨x, l, e⟩ : ∃ x l, S.heap = x :: l := List.exists_cons_of_ne_nil hn
  obtain ⟨h1, h2, h3, h4, h5, h6, h7⟩ := h
  have eh : W.heap = (((S.oldest : Nat) : Int), x) :: List.mapIdx (fun i y => (((S.oldest + 1 + i : Nat) : Int), y)) l := by
    rw [h1]
    unfold Sx.hpL
    rw [e, List.mapIdx_cons]
    have ef : (fun (i : Nat) (y : Int) => (((S.oldest + (i + 1) : Nat) : Int), y)) = fun i y => (((S.oldest + 1 + i : Nat) : Int), y) := by
      funext i y
      rw [show S.oldest + (i + 1) = S.oldest + 1 + i by omega]
    show _ :: List.mapIdx (fun (i : Nat) (y : Int) => (((S.oldest + (i + 1) : Nat) : Int), y)) l = _
    rw [ef]
    rfl
  unfold Wx.closed
  rw [eh, e]
  refine ⟨⟨rfl, h2, h3, ?_, h5, h6, ?_⟩, fun q => ?_⟩
  · show W.waiting ++ [x] = S.waiting ++ [x]
    rw [h4]
  · show W.evs ++ _ = S.evs ++ _
    rw [h7]
    rfl
  · show q ∈ cdrop S.changed x ↔ q ∈ cdrop W.changed x ∨ False
    rw [mem_cdrop, mem_cdrop, c q]
    simp
/-! ### the plain law: a page begun, a page ended -/
theorem kid_ints {f : Int} {ps : List Int} {ns : List NK} {k : NK} {q : Int} : PyData.int q ∈ kidD f ps ns k ↔ q ∈ ps ∧ ((0 : Int), q / f) = k := by
  unfold kidD
  rw [List.mem_append, List.mem_map, List.mem_map]
  constructor
  · rintro (⟨x, hx, e⟩ | ⟨x, hx, e⟩)
    · injection e with e
      subst e
      rw [List.mem_filter, decide_eq_true_iff] at hx
      exact hx
    · cases e
  · intro h
    exact .inl ⟨q, List.mem_filter.mpr ⟨h.1, decide_eq_true h.2⟩, rfl⟩
theorem kid_prs {f : Int} {ps : List Int} {ns : List NK} {k j : NK} : prD j ∈ kidD f ps ns k ↔ j ∈ ns ∧ upKi f j = k := by
  unfold kidD
  rw [List.mem_append, List.mem_map, List.mem_map]
  constructor
  · rintro (⟨x, hx, e⟩ | ⟨x, hx, e⟩)
    · cases e
    · have := prD_inj e
      subst this
      rw [List.mem_filter, decide_eq_true_iff, (sortP_perm ns).mem_iff] at hx
      exact hx
  · intro h
    exact .inr ⟨j, List.mem_filter.mpr ⟨(sortP_perm ns).mem_iff.mpr h.1, decide_eq_true h.2⟩, rfl⟩
theorem srtI_uniq {l m : List Int} (h1 : l.Pairwise (· < ·)) (h2 : m.Pairwise (· < ·)) (h : ∀ k, k ∈ l ↔ k ∈ m) : l = m :=
  perm_uniq (fun a b x y => Int.le_antisymm x y) ((List.perm_ext_iff_of_nodup (h1.imp fun h e => by omega) (h2.imp fun h e => by omega)).mpr h) (h1.imp Int.le_of_lt) (h2.imp Int.le_of_lt)
theorem sortP_uniq {l m : List NK} (h1 : l.Pairwise lexLe) (h2 : m.Pairwise lexLe) (n1 : l.Nodup) (n2 : m.Nodup) (h : ∀ k, k ∈ l ↔ k ∈ m) : l = m :=
  perm_uniq lexLe_anti ((List.perm_ext_iff_of_nodup n1 n2).mpr h) h1 h2
/-- a node has the same children just if they are the same heap pages and nodes -/
theorem kid_same {f : Int} {ps0 ps1 : List Int} {ns0 ns1 : List NK} {k : NK} (p0 : ps0.Pairwise (· < ·)) (p1 : ps1.Pairwise (· < ·)) (n0 : ns0.Nodup) (n1 : ns1.Nodup) :
    kidD f ps0 ns0 k = kidD f ps1 ns1 k ↔ (∀ q, ((0 : Int), q / f) = k → (q ∈ ps0 ↔ q ∈ ps1)) ∧ ∀ j, upKi f j = k → (j ∈ ns0 ↔ j ∈ ns1) := by
  constructor
  · intro h
    refine ⟨fun q hq => ?_, fun j hj => ?_⟩
    · have := kid_ints (f := f) (ps := ps0) (ns := ns0) (k := k) (q := q)
      rw [h, kid_ints] at this
      exact ⟨fun z => (this.mpr ⟨z, hq⟩).1, fun z => (this.mp ⟨z, hq⟩).1⟩
    · have := kid_prs (f := f) (ps := ps0) (ns := ns0) (k := k) (j := j)
      rw [h, kid_prs] at this
      exact ⟨fun z => (this.mpr ⟨z, hj⟩).1, fun z => (this.mp ⟨z, hj⟩).1⟩
  · rintro ⟨h1, h2⟩
    unfold kidD
    have e1 : ps0.filter (fun q => decide (((0 : Int), q / f) = k)) = ps1.filter fun q => decide (((0 : Int), q / f) = k) := srtI_uniq (List.Pairwise.filter _ p0) (List.Pairwise.filter _ p1) fun q => by
      rw [List.mem_filter, List.mem_filter, decide_eq_true_iff]
      exact ⟨fun z => ⟨(h1 q z.2).mp z.1, z.2⟩, fun z => ⟨(h1 q z.2).mpr z.1, z.2⟩⟩
    have e2 : (sortP ns0).filter (fun c => decide (upKi f c = k)) = (sortP ns1).filter fun c => decide (upKi f c = k) := sortP_uniq (List.Pairwise.filter _ (sortP_pw ns0)) (List.Pairwise.filter _ (sortP_pw ns1)) (List.Pairwise.filter _ ((sortP_perm ns0).nodup_iff.mpr n0)) (List.Pairwise.filter _ ((sortP_perm ns1).nodup_iff.mpr n1)) fun j => by
      rw [List.mem_filter, List.mem_filter, decide_eq_true_iff, (sortP_perm ns0).mem_iff, (sortP_perm ns1).mem_iff]
      exact ⟨fun z => ⟨(h2 j z.2).mp z.1, z.2⟩, fun z => ⟨(h2 j z.2).mpr z.1, z.2⟩⟩
    rw [e1, e2]
open Classical in
theorem turn3_mem (W : Wx) (f : Int) (ps0 : List Int) (ns0 : List NK) : (W.turn3 f ps0 ns0).nodes = W.nodes ∧ ∀ c, c ∈ (W.turn3 f ps0 ns0).changed ↔ c ∈ W.changed ∨ ∃ k, k ∈ W.nodes.map (·.1) ∧ k ∈ ns0 ∧ kidD f ps0 ns0 k ≠ kidD f (W.heap.map (·.1)) (W.nodes.map (·.1)) k ∧ (aget W.nodes k).getD 0 = c := by
  unfold Wx.turn3
  refine ⟨(mark_mem _ W).1, fun c => ((mark_mem _ W).2 c).trans (or_congr Iff.rfl ?_)⟩
  constructor
  · rintro ⟨k, hk, e⟩
    have h1 := List.mem_filter.mp hk
    have h2 := @of_decide_eq_true _ _ h1.2
    exact ⟨k, h1.1, h2.1, h2.2, e⟩
  · rintro ⟨k, h1, h2, h3, e⟩
    exact ⟨k, List.mem_filter.mpr ⟨h1, @decide_eq_true _ _ ⟨h2, h3⟩⟩, e⟩
/-- what a turn leaves as it is -/
structure KeepW (W W' : Wx) : Prop where
  rows : W'.rows = W.rows
  page : W'.page = W.page
  left : W'.left = W.left
  first : W'.first = W.first
  nd : W.changed.Nodup → W'.changed.Nodup
theorem KeepW.refl {W : Wx} : KeepW W W := ⟨rfl, rfl, rfl, rfl, id⟩
theorem KeepW.trans {W W1 W2 : Wx} (a : KeepW W W1) (b : KeepW W1 W2) : KeepW W W2 := ⟨b.rows.trans a.rows, b.page.trans a.page, b.left.trans a.left, b.first.trans a.first, fun h => b.nd (a.nd h)⟩
theorem keep_take (W : Wx) (r : Ro) : KeepW W (W.take r) := by
  unfold Wx.take Wx.taking Wx.say
  split <;> exact ⟨rfl, rfl, rfl, rfl, id⟩
theorem keep_mark (W : Wx) (q : Int) : KeepW W (W.mark q) := ⟨rfl, rfl, rfl, rfl, fun h => cput_nd h⟩
theorem keep_give (W : Wx) (q : Int) (r : Ro) : KeepW W (W.give q r) := ⟨rfl, rfl, rfl, rfl, fun h => List.Pairwise.filter _ h⟩
theorem keep_begW (W : Wx) (k : NK) : KeepW W (W.begW k) := ((keep_take W (.nd k.1 k.2)).trans (⟨rfl, rfl, rfl, rfl, id⟩ : KeepW (W.take (.nd k.1 k.2)) { W.take (.nd k.1 k.2) with nodes := aput W.nodes k W.takeP })).trans (keep_mark _ _)
theorem keep_endW (W : Wx) (k : NK) : KeepW W (W.endW k) := (⟨rfl, rfl, rfl, rfl, id⟩ : KeepW W { W with nodes := adrop W.nodes k }).trans (keep_give _ _ _)
theorem keep_fold (g : Wx → NK → Wx) (hg : ∀ W k, KeepW W (g W k)) : ∀ (l : List NK) (W : Wx), KeepW W (l.foldl g W)
  | [], W => .refl
  | k :: l, W => (hg W k).trans (keep_fold g hg l (g W k))
theorem keep_turn (W : Wx) (f : Int) (o n : Nat) (ps0 : List Int) (ns0 : List NK) : KeepW W (W.turn f o n ps0 ns0) := by
  have h1 : KeepW W (W.turn1 f.toNat o n) := keep_fold Wx.begW keep_begW _ W
  have h2 : KeepW (W.turn1 f.toNat o n) ((W.turn1 f.toNat o n).turn2 f.toNat o n) := keep_fold Wx.endW keep_endW _ _
  have h3 : KeepW ((W.turn1 f.toNat o n).turn2 f.toNat o n) (W.turn f o n ps0 ns0) := keep_fold Wx.markN (fun W k => keep_mark W _) _ _
  exact (h1.trans h2).trans h3
theorem heads_hp (o : Nat) {h : List Int} (hn : h ≠ []) : ((List.mapIdx (fun (i : Nat) (x : Int) => (((o + i : Nat) : Int), x)) h).headD (0, 0)).1.toNat = o := by
  obtain ⟨x, l, e⟩ := List.exists_cons_of_ne_nil hn
  rw [e, List.mapIdx_cons]
  simp
theorem hpL_keys (o : Nat) (h : List Int) : (List.mapIdx (fun (i : Nat) (x : Int) => (((o + i : Nat) : Int), x)) h).map (·.1) = ivI o h.length := by
  unfold ivI
  apply List.ext_getElem?
  intro i
  rw [List.getElem?_map, List.getElem?_mapIdx, List.getElem?_map]
  by_cases c : i < h.length
  · rw [List.getElem?_eq_getElem c, List.getElem?_range c]
    rfl
  · rw [List.getElem?_eq_none (by omega), List.getElem?_eq_none (by rw [List.length_range]; omega)]
    rfl
theorem upK_is {f : Nat} {fi : Int} (e : (f : Int) = fi) (k : NK) : upK f k = upKi fi k := by unfold upK upKi; rw [e]
theorem changes_keep : ∀ (l : List NK) (S : Sx), (l.foldl (fun T k => T.change k) S).heap = S.heap ∧ (l.foldl (fun T k => T.change k) S).log = S.log ∧ (l.foldl (fun T k => T.change k) S).waiting = S.waiting ∧ (l.foldl (fun T k => T.change k) S).free = S.free ∧ (l.foldl (fun T k => T.change k) S).taken = S.taken ∧ (l.foldl (fun T k => T.change k) S).evs = S.evs ∧ (l.foldl (fun T k => T.change k) S).top = S.top ∧ (l.foldl (fun T k => T.change k) S).oldest = S.oldest
  | [], S => ⟨rfl, rfl, rfl, rfl, rfl, rfl, rfl, rfl⟩
  | k :: l, S => by
    obtain ⟨h1, h2, h3, h4, h5, h6, h7, h8⟩ := changes_keep l (S.change k)
    obtain ⟨c1, c2, c3, c4, c5, c6, c7, c8⟩ := change_same S k
    obtain ⟨d1, d2⟩ := change_more S k
    rw [List.foldl_cons]
    exact ⟨h1.trans c1, h2.trans c3, h3.trans d2, h4.trans d1, h5.trans c7, h6.trans c8, h7.trans c6, h8.trans c5⟩
theorem marks_keep : ∀ (l : List NK) (W : Wx), (l.foldl Wx.markN W).heap = W.heap ∧ (l.foldl Wx.markN W).log = W.log ∧ (l.foldl Wx.markN W).waiting = W.waiting ∧ (l.foldl Wx.markN W).list = W.list ∧ (l.foldl Wx.markN W).size = W.size ∧ (l.foldl Wx.markN W).evs = W.evs
  | [], W => ⟨rfl, rfl, rfl, rfl, rfl, rfl⟩
  | k :: l, W => marks_keep l (W.markN k)
theorem turn3_keep (W : Wx) (f : Int) (ps0 : List Int) (ns0 : List NK) : (W.turn3 f ps0 ns0).heap = W.heap ∧ (W.turn3 f ps0 ns0).log = W.log ∧ (W.turn3 f ps0 ns0).waiting = W.waiting ∧ (W.turn3 f ps0 ns0).list = W.list ∧ (W.turn3 f ps0 ns0).size = W.size ∧ (W.turn3 f ps0 ns0).evs = W.evs := marks_keep _ W
theorem aget_some_mem {l : List (NK × Int)} {k : NK} {v : Int} (h : aget l k = some v) : k ∈ l.map (·.1) := by
  by_cases c : k ∈ l.map (·.1)
  · exact c
  · have := aget_none.mpr c
    rw [h] at this
    cases this
/-- a page begun: the store's beside the law's -/
theorem sim_begin {U : Sx} {W : Wx} {p : Prt} (ok : p.Ok) (h : SimD U W) (c : SimC (fun _ => False) U W) {N : Nat} (hN : U.oldest + U.heap.length = N) (hp : W.page + 1 = (N : Int)) (hon : U.oldest ≤ N)
    (ky : KeyAt p.fan.toNat U.oldest N (rlv p.fan.toNat U.oldest N) (U.nodes.map (·.1) ++ begunL p.fan.toNat U.oldest N U.top U.nodes (rlv p.fan.toNat U.oldest N + 1))) :
    SimD (U.beginPage p.fan.toNat) (W.opn p) ∧ SimC (fun q => q = U.takeP) (U.beginPage p.fan.toNat) (W.opn p) := by
  have hf := ok.f
  have efi : ((p.fan.toNat : Nat) : Int) = p.fan := by omega
  obtain ⟨o1, oc1⟩ := sim_opened (p := p) h c (by rw [hN]; exact hp)
  rw [hN] at o1 oc1
  have enodes0 : (W.opened p).nodes = W.nodes := by
    show (({ W with page := W.page + 1, left := p.size, first := W.first ++ [(W.page + 1, (W.rows : Int))] } : Wx).take (.hp (W.page + 1))).nodes = W.nodes
    rw [(take_ch _ _).2.1]
  have eo : ((W.opened p).heap.headD (0, 0)).1.toNat = U.oldest := by
    rw [o1.heap]
    have e2 : (({ U.takeS (.hp (N : Int)) with heap := U.heap ++ [U.takeP] } : Sx).mark U.takeP).oldest = U.oldest := (take_same U (.hp (N : Int))).2.2.2.2.1
    show ((List.mapIdx (fun (i : Nat) (x : Int) => ((((({ U.takeS (.hp (N : Int)) with heap := U.heap ++ [U.takeP] } : Sx).mark U.takeP).oldest + i : Nat) : Int), x)) (U.heap ++ [U.takeP])).headD (0, 0)).1.toNat = U.oldest
    rw [e2]
    exact heads_hp U.oldest (by simp)
  have eN : (W.page + 1).toNat = N := by omega
  unfold Wx.opn Wx.turn
  rw [eo, eN]
  unfold Sx.beginPage
  dsimp only
  rw [hN]
  generalize hbg : begunL p.fan.toNat U.oldest N U.top U.nodes (rlv p.fan.toNat U.oldest N + 1) = bg at ky
  have hbs : bg.Pairwise lexLt := by rw [← hbg]; exact begunL_srt _ _ _ _ _ _
  have hbo : ∀ k ∈ bg, k ∉ U.nodes.map (·.1) := fun k hk => by rw [← hbg] at hk; exact begunL_out hk
  have hwant : ∀ k, k ∈ U.nodes.map (·.1) ++ bg ↔ k ∈ wantN p.fan.toNat U.oldest N := fun k => key_nd ky hon k
  -- the new nodes
  have e1 : (wantN p.fan.toNat U.oldest N).filter (fun k => decide (k ∉ (W.opened p).nodes.map (·.1))) = bg := by
    refine (nk_uniq hbs (m := (wantN p.fan.toNat U.oldest N).filter fun k => decide (k ∉ (W.opened p).nodes.map (·.1))) (List.Pairwise.filter _ (ndN_srt _ _ _ _)) fun k => ?_).symm
    rw [List.mem_filter, decide_eq_true_iff, enodes0, h.nodes, ← hwant k, List.mem_append]
    exact ⟨fun z => ⟨.inr z, hbo k z⟩, fun z => z.1.resolve_left z.2⟩
  have t1 : (W.opened p).turn1 p.fan.toNat U.oldest N = bg.foldl Wx.begW (W.opened p) := by unfold Wx.turn1; rw [e1]
  obtain ⟨lv, elv⟩ : ∃ lv : Int, lv = ((rlv p.fan.toNat U.oldest N : Nat) : Int) := ⟨_, rfl⟩
  rw [← elv]
  have o2 : SimD ({ (({ U.takeS (.hp (N : Int)) with heap := U.heap ++ [U.takeP] } : Sx).mark U.takeP) with top := lv } : Sx) (W.opened p) := ⟨o1.heap, o1.nodes, o1.log, o1.waiting, o1.list, o1.size, o1.evs⟩
  have oc2 : SimC (fun q => q = U.takeP) ({ (({ U.takeS (.hp (N : Int)) with heap := U.heap ++ [U.takeP] } : Sx).mark U.takeP) with top := lv } : Sx) (W.opened p) := oc1
  have nU2 : (({ (({ U.takeS (.hp (N : Int)) with heap := U.heap ++ [U.takeP] } : Sx).mark U.takeP) with top := lv } : Sx)).nodes = U.nodes := (take_same U (.hp (N : Int))).2.1
  obtain ⟨b1, b2, b3, b4, b5⟩ := sim_begs bg o2 oc2 (srt_nd hbs) (fun k hk => by rw [nU2]; exact hbo k hk)
  have hk1 : (bg.foldl Wx.begW (W.opened p)).nodes.map (·.1) = U.nodes.map (·.1) ++ bg := by
    rw [begs_keys bg (W.opened p) (srt_nd hbs) (fun k hk => by rw [enodes0, h.nodes]; exact hbo k hk), enodes0, h.nodes]
  have hh1 : (bg.foldl Wx.begW (W.opened p)).heap = (W.opened p).heap := (begs_len bg (W.opened p)).1
  rw [t1]
  generalize hW1 : bg.foldl Wx.begW (W.opened p) = W1 at b1 b2 b3 b4 hk1 hh1
  generalize bg.foldl Sx.begin1 ({ (({ U.takeS (.hp (N : Int)) with heap := U.heap ++ [U.takeP] } : Sx).mark U.takeP) with top := lv } : Sx) = S4 at b1 b2 b4 b5
  -- no node is given back
  have t2 : W1.turn2 p.fan.toNat U.oldest N = W1 := by
    unfold Wx.turn2
    rw [show (sortP (W1.nodes.map (·.1))).filter (fun k => decide (k ∉ wantN p.fan.toNat U.oldest N)) = [] from List.filter_eq_nil_iff.mpr fun k hk => by
      rw [(sortP_perm _).mem_iff, hk1, hwant k] at hk
      simp [hk]]
    rfl
  rw [t2]
  -- the marks
  obtain ⟨m1, m2⟩ := turn3_mem W1 p.fan (W.heap.map (·.1)) (W.nodes.map (·.1))
  have k0 := change_same S4 ((0 : Int), ((N / p.fan.toNat : Nat) : Int))
  have eup : bg.foldl (fun T k => T.change (upK p.fan.toNat k)) (S4.change ((0 : Int), ((N / p.fan.toNat : Nat) : Int))) = (((0 : Int), ((N / p.fan.toNat : Nat) : Int)) :: bg.map (upK p.fan.toNat)).foldl (fun T k => T.change k) S4 := by
    rw [List.foldl_cons, List.foldl_map]
  rw [eup]
  obtain ⟨g1, g2⟩ := change_mem (((0 : Int), ((N / p.fan.toNat : Nat) : Int)) :: bg.map (upK p.fan.toNat)) S4
  obtain ⟨f1, f2, f3, f4, f5, f6, f7, f8⟩ := changes_keep (((0 : Int), ((N / p.fan.toNat : Nat) : Int)) :: bg.map (upK p.fan.toNat)) S4
  obtain ⟨w1, w2, w3, w4, w5, w6⟩ := turn3_keep W1 p.fan (W.heap.map (·.1)) (W.nodes.map (·.1))
  refine ⟨⟨?_, ?_, ?_, ?_, ?_, ?_, ?_⟩, fun d => ?_⟩
  · rw [w1, b1.heap]; unfold Sx.hpL; rw [f1, f8]
  · rw [m1, g1]; exact b1.nodes
  · rw [w2, f2]; exact b1.log
  · rw [w3, f3]; exact b1.waiting
  · rw [w4, f4]; exact b1.list
  · rw [w5, f5]; exact b1.size
  · rw [w6, f6]; exact b1.evs
  · rw [g2 d, m2 d, b2 d]
    have hn1 : W1.nodes = S4.nodes := b1.nodes
    have ndk : (W.nodes.map (·.1)).Nodup := by rw [h.nodes]; exact (List.nodup_append.mp ky.nd).1
    have nd1 : (W1.nodes.map (·.1)).Nodup := by rw [hk1]; exact ky.nd
    have ps0 : W.heap.map (·.1) = ivI U.oldest (N - U.oldest) := by rw [h.heap]; unfold Sx.hpL; rw [hpL_keys, show U.heap.length = N - U.oldest by omega]
    have ps1 : W1.heap.map (·.1) = ivI U.oldest (N + 1 - U.oldest) := by
      rw [hh1, o1.heap]
      show (List.mapIdx (fun (i : Nat) (x : Int) => ((((({ U.takeS (.hp (N : Int)) with heap := U.heap ++ [U.takeP] } : Sx).mark U.takeP).oldest + i : Nat) : Int), x)) (U.heap ++ [U.takeP])).map (·.1) = _
      rw [hpL_keys, List.length_append, show U.heap.length + [U.takeP].length = N + 1 - U.oldest by simp; omega]
      congr 1
      exact (take_same U (.hp (N : Int))).2.2.2.2.1
    have hdiff : ∀ k, kidD p.fan (W.heap.map (·.1)) (W.nodes.map (·.1)) k ≠ kidD p.fan (W1.heap.map (·.1)) (W1.nodes.map (·.1)) k ↔ k = ((0 : Int), ((N / p.fan.toNat : Nat) : Int)) ∨ ∃ j ∈ bg, upK p.fan.toNat j = k := fun k => by
      refine (not_congr (kid_same (f := p.fan) (k := k) (by rw [ps0]; exact ivI_srt _ _) (by rw [ps1]; exact ivI_srt _ _) ndk nd1)).trans ?_
      rw [ps0, ps1, hk1, h.nodes]
      have eN0 : ((0 : Int), (N : Int) / p.fan) = ((0 : Int), ((N / p.fan.toNat : Nat) : Int)) := by rw [Int.natCast_ediv, efi]
      constructor
      · intro z
        by_cases c1 : k = ((0 : Int), ((N / p.fan.toNat : Nat) : Int))
        · exact .inl c1
        · refine .inr (Classical.byContradiction fun c2 => z ⟨fun q hq => ?_, fun j hj => ?_⟩)
          · rw [ivI_mem, ivI_mem]
            have : q ≠ (N : Int) := fun e => c1 (by rw [← hq, e]; exact eN0)
            omega
          · rw [List.mem_append]
            exact ⟨.inl, fun y => y.resolve_right fun y => c2 ⟨j, y, by rw [upK_is efi]; exact hj⟩⟩
      · rintro (rfl | ⟨j, hj, rfl⟩) ⟨z1, z2⟩
        · have := (z1 (N : Int) eN0).mpr (ivI_mem.mpr (by omega))
          rw [ivI_mem] at this
          omega
        · exact hbo j hj ((z2 j (upK_is efi j).symm).mpr (List.mem_append_right _ hj))
    have hold : ∀ k, k ∈ W.nodes.map (·.1) ↔ k ∈ U.nodes.map (·.1) := fun k => by rw [h.nodes]
    constructor
    · rintro ((z | z) | ⟨k, hk, z⟩)
      · exact .inl (.inl z)
      · exact .inr z
      · by_cases hkb : k ∈ bg
        · exact .inl (.inl (b4 k hkb d z))
        · have hkk : k ∈ W1.nodes.map (·.1) := by rw [hn1]; exact aget_some_mem z
          have hko : k ∈ U.nodes.map (·.1) := by rw [hk1, List.mem_append] at hkk; exact hkk.resolve_right hkb
          refine .inl (.inr ⟨k, hkk, (hold k).mpr hko, (hdiff k).mpr ?_, by rw [hn1, z]; rfl⟩)
          rcases List.mem_cons.mp hk with e | hk
          · exact .inl e
          · obtain ⟨j, hj, e⟩ := List.mem_map.mp hk
            exact .inr ⟨j, hj, e⟩
    · rintro ((z | ⟨k, hk, _, hkd, z⟩) | z)
      · exact .inl (.inl z)
      · refine .inr ⟨k, ?_, ?_⟩
        · rcases (hdiff k).mp hkd with e | ⟨j, hj, e⟩
          · rw [e]; exact List.mem_cons_self
          · exact List.mem_cons_of_mem _ (List.mem_map.mpr ⟨j, hj, e⟩)
        · obtain ⟨g0, hg0⟩ := aget_memP (l := W1.nodes) (k := k) hk
          rw [hg0] at z
          rw [← hn1, hg0]
          exact congrArg some z
      · exact .inl (.inr z)
/-- a page ended -/
theorem sim_end {B : Sx} {W : Wx} {p : Prt} (ok : p.Ok) (h : SimD B W) (c : SimC (fun _ => False) B W) {N : Nat} (hN : B.oldest + B.heap.length = N + 1) (hp : W.page = (N : Int)) (hlt : B.oldest < N) (nd : (B.nodes.map (·.1)).Nodup)
    (en : (endedL p.fan.toNat B.oldest B.nodes (B.endLv p.fan.toNat)).Nodup) (es : ∀ k ∈ endedL p.fan.toNat B.oldest B.nodes (B.endLv p.fan.toNat), k ∈ B.nodes.map (·.1))
    (ky : ∀ k, k ∈ wantN p.fan.toNat (B.oldest + 1) N ↔ k ∈ B.nodes.map (·.1) ∧ k ∉ endedL p.fan.toNat B.oldest B.nodes (B.endLv p.fan.toNat)) :
    SimD (B.endPage p.fan.toNat) (W.cls p) ∧ SimC (fun _ => False) (B.endPage p.fan.toNat) (W.cls p) := by
  have hf := ok.f
  have efi : ((p.fan.toNat : Nat) : Int) = p.fan := by omega
  have hne : B.heap ≠ [] := fun z => by rw [z] at hN; simp only [List.length_nil] at hN; omega
  obtain ⟨o1, oc1⟩ := sim_closed (B.endLv p.fan.toNat) h c hne
  have eo : ((W.heap.headD (0, 0)).1 + 1).toNat = B.oldest + 1 := by
    have e0 := heads_hp B.oldest hne
    have e1 : W.heap = List.mapIdx (fun (i : Nat) (x : Int) => (((B.oldest + i : Nat) : Int), x)) B.heap := h.heap
    rw [e1]
    obtain ⟨x, l, e⟩ := List.exists_cons_of_ne_nil hne
    rw [e, List.mapIdx_cons]
    simp
  have eN : W.page.toNat = N := by omega
  have enc : W.closed.nodes = B.nodes := h.nodes
  unfold Wx.cls Wx.turn
  rw [eo, eN]
  unfold Sx.endPage
  dsimp only
  generalize hlv : B.endLv p.fan.toNat = lv at en es ky o1 oc1
  generalize hed : endedL p.fan.toNat B.oldest B.nodes lv = ed at en es ky
  have t1 : W.closed.turn1 p.fan.toNat (B.oldest + 1) N = W.closed := by
    unfold Wx.turn1
    rw [show (wantN p.fan.toNat (B.oldest + 1) N).filter (fun k => decide (k ∉ W.closed.nodes.map (·.1))) = [] from List.filter_eq_nil_iff.mpr fun k hk => by
      have := ((ky k).mp hk).1
      rw [enc]
      simpa using this]
    rfl
  rw [t1]
  have e2 : (sortP (W.closed.nodes.map (·.1))).filter (fun k => decide (k ∉ wantN p.fan.toNat (B.oldest + 1) N)) = sortP ed := by
    refine sortP_uniq (List.Pairwise.filter _ (sortP_pw _)) (sortP_pw _) (List.Pairwise.filter _ ((sortP_perm _).nodup_iff.mpr (by rw [enc]; exact nd))) ((sortP_perm _).nodup_iff.mpr en) fun k => ?_
    rw [List.mem_filter, decide_eq_true_iff, (sortP_perm _).mem_iff, (sortP_perm _).mem_iff, enc, ky k]
    constructor
    · rintro ⟨h, h'⟩
      exact Classical.byContradiction fun z => h' ⟨h, z⟩
    · intro h
      exact ⟨es k h, fun z => z.2 h⟩
  have t2 : W.closed.turn2 p.fan.toNat (B.oldest + 1) N = (sortP ed).foldl Wx.endW W.closed := by unfold Wx.turn2; rw [e2]
  rw [t2]
  obtain ⟨b1, b2⟩ := sim_ends (sortP ed) o1 oc1
  obtain ⟨q1, q2, q3, q4, q5, q6, q7⟩ := ends_facts28 (sortP ed) W.closed (by rw [enc]; exact nd) ((sortP_perm _).nodup_iff.mpr en)
  generalize (sortP ed).foldl Wx.endW W.closed = W2 at b1 b2 q1 q5 q6
  generalize (sortP ed).foldl Sx.end1 ({ ({ B with heap := B.heap.tail } : Sx).give (B.heap.headD 0) (.hp B.oldest) with oldest := B.oldest + 1, top := lv } : Sx) = S4 at b1 b2
  obtain ⟨m1, m2⟩ := turn3_mem W2 p.fan (W.heap.map (·.1)) (W.nodes.map (·.1))
  have eup : ed.foldl (fun T k => T.change (upK p.fan.toNat k)) (S4.change ((0 : Int), ((B.oldest / p.fan.toNat : Nat) : Int))) = (((0 : Int), ((B.oldest / p.fan.toNat : Nat) : Int)) :: ed.map (upK p.fan.toNat)).foldl (fun T k => T.change k) S4 := by
    rw [List.foldl_cons, List.foldl_map]
  rw [eup]
  obtain ⟨g1, g2⟩ := change_mem (((0 : Int), ((B.oldest / p.fan.toNat : Nat) : Int)) :: ed.map (upK p.fan.toNat)) S4
  obtain ⟨f1, f2, f3, f4, f5, f6, f7, f8⟩ := changes_keep (((0 : Int), ((B.oldest / p.fan.toNat : Nat) : Int)) :: ed.map (upK p.fan.toNat)) S4
  obtain ⟨w1, w2, w3, w4, w5, w6⟩ := turn3_keep W2 p.fan (W.heap.map (·.1)) (W.nodes.map (·.1))
  refine ⟨⟨?_, ?_, ?_, ?_, ?_, ?_, ?_⟩, fun d => ?_⟩
  · rw [w1, b1.heap]; unfold Sx.hpL; rw [f1, f8]
  · rw [m1, g1]; exact b1.nodes
  · rw [w2, f2]; exact b1.log
  · rw [w3, f3]; exact b1.waiting
  · rw [w4, f4]; exact b1.list
  · rw [w5, f5]; exact b1.size
  · rw [w6, f6]; exact b1.evs
  · rw [g2 d, m2 d, b2 d]
    have hn1 : W2.nodes = S4.nodes := b1.nodes
    have ndk : (W.nodes.map (·.1)).Nodup := by rw [h.nodes]; exact nd
    have ps0 : W.heap.map (·.1) = ivI B.oldest (N + 1 - B.oldest) := by rw [h.heap]; unfold Sx.hpL; rw [hpL_keys, show B.heap.length = N + 1 - B.oldest by omega]
    have ps1 : W2.heap.map (·.1) = ivI (B.oldest + 1) (N - B.oldest) := by
      rw [q1, o1.heap]
      show (List.mapIdx (fun (i : Nat) (x : Int) => (((B.oldest + 1 + i : Nat) : Int), x)) B.heap.tail).map (·.1) = _
      rw [hpL_keys, List.length_tail, show B.heap.length - 1 = N - B.oldest by omega]
    have hk2 : ∀ k, k ∈ W2.nodes.map (·.1) ↔ k ∈ W.nodes.map (·.1) ∧ k ∉ ed := fun k => by rw [q6 k, enc, (sortP_perm ed).mem_iff, h.nodes]
    have hdiff : ∀ k, kidD p.fan (W.heap.map (·.1)) (W.nodes.map (·.1)) k ≠ kidD p.fan (W2.heap.map (·.1)) (W2.nodes.map (·.1)) k ↔ k = ((0 : Int), ((B.oldest / p.fan.toNat : Nat) : Int)) ∨ ∃ j ∈ ed, upK p.fan.toNat j = k := fun k => by
      refine (not_congr (kid_same (f := p.fan) (k := k) (by rw [ps0]; exact ivI_srt _ _) (by rw [ps1]; exact ivI_srt _ _) ndk q5)).trans ?_
      rw [ps0, ps1]
      have eN0 : ((0 : Int), (B.oldest : Int) / p.fan) = ((0 : Int), ((B.oldest / p.fan.toNat : Nat) : Int)) := by rw [Int.natCast_ediv, efi]
      constructor
      · intro z
        by_cases c1 : k = ((0 : Int), ((B.oldest / p.fan.toNat : Nat) : Int))
        · exact .inl c1
        · refine .inr (Classical.byContradiction fun c2 => z ⟨fun q hq => ?_, fun j hj => ?_⟩)
          · rw [ivI_mem, ivI_mem]
            have : q ≠ (B.oldest : Int) := fun e => c1 (by rw [← hq, e]; exact eN0)
            omega
          · rw [hk2 j]
            exact ⟨fun y => ⟨y, fun y => c2 ⟨j, y, by rw [upK_is efi]; exact hj⟩⟩, And.left⟩
      · rintro (rfl | ⟨j, hj, rfl⟩) ⟨z1, z2⟩
        · have := (z1 (B.oldest : Int) eN0).mp (ivI_mem.mpr (by omega))
          rw [ivI_mem] at this
          omega
        · have := (z2 j (upK_is efi j).symm).mp (by rw [h.nodes]; exact es j hj)
          rw [hk2 j] at this
          exact this.2 hj
    constructor
    · rintro ((z | z) | ⟨k, hk, z⟩)
      · exact .inl (.inl z)
      · exact .inr z
      · have hkk : k ∈ W2.nodes.map (·.1) := by rw [hn1]; exact aget_some_mem z
        refine .inl (.inr ⟨k, hkk, ((hk2 k).mp hkk).1, (hdiff k).mpr ?_, by rw [hn1, z]; rfl⟩)
        rcases List.mem_cons.mp hk with e | hk
        · exact .inl e
        · obtain ⟨j, hj, e⟩ := List.mem_map.mp hk
          exact .inr ⟨j, hj, e⟩
    · rintro ((z | ⟨k, hk, _, hkd, z⟩) | z)
      · exact .inl (.inl z)
      · refine .inr ⟨k, ?_, ?_⟩
        · rcases (hdiff k).mp hkd with e | ⟨j, hj, e⟩
          · rw [e]; exact List.mem_cons_self
          · exact List.mem_cons_of_mem _ (List.mem_map.mpr ⟨j, hj, e⟩)
        · obtain ⟨g0, hg0⟩ := aget_memP (l := W2.nodes) (k := k) hk
          rw [hg0] at z
          rw [← hn1, hg0]
          exact congrArg some z
      · exact .inl (.inr z)
/-! ### the plain law: rows -/
noncomputable def fstL (p : Prt) (k : Nat) : List (Int × Int) := (List.range k).map fun (m : Nat) => ((m : Int), (startN p m : Int))
def Wx.rst (W : Wx) : Wx := { W with evs := [] }
noncomputable def Wx.rowsN (p : Prt) : Nat → Wx
  | 0 => Wx.new
  | n + 1 => (Wx.rowsN p n).rst.row p
theorem fstL_succ (p : Prt) (k : Nat) : fstL p (k + 1) = fstL p k ++ [((k : Int), (startN p k : Int))] := by
  unfold fstL
  rw [List.range_succ, List.map_append]
  rfl
theorem fstL_keys (p : Prt) (k : Nat) : (fstL p k).map (·.1) = ivI 0 k := by
  unfold fstL ivI
  rw [List.map_map]
  refine List.map_congr_left fun m _ => ?_
  show (m : Int) = ((0 + m : Nat) : Int)
  rw [Nat.zero_add]
theorem fstL_get (p : Prt) {k m : Nat} (h : m < k) : (((fstL p k).find? fun e => decide (e.1 = (m : Int))).map (·.2)).getD 0 = (startN p m : Int) := by
  induction k with
  | zero => omega
  | succ k ih =>
    rw [fstL_succ, List.find?_append]
    by_cases c : m < k
    · have := ih c
      cases q : (fstL p k).find? (fun e => decide (e.1 = (m : Int))) with
      | some x => rw [q] at this; exact this
      | none =>
        exfalso
        rw [List.find?_eq_none] at q
        have hm : (((m : Nat) : Int), ((startN p m : Nat) : Int)) ∈ fstL p k := by
          unfold fstL
          exact List.mem_map.mpr ⟨m, List.mem_range.mpr c, rfl⟩
        exact q _ hm (decide_eq_true rfl)
    · have e : m = k := by omega
      subst e
      have : (fstL p m).find? (fun e => decide (e.1 = (m : Int))) = none := by
        rw [List.find?_eq_none]
        intro x hx z
        unfold fstL at hx
        obtain ⟨j, hj, rfl⟩ := List.mem_map.mp hx
        have hj := List.mem_range.mp hj
        have z := of_decide_eq_true z
        dsimp only at z
        omega
      rw [this, List.find?_cons]
      dsimp only
      rw [decide_eq_true rfl]
      rfl
/-- the room that is left, and the next page's first row -/
theorem cond_left {p : Prt} (ok : p.Ok) {n k : Nat} {left : Int} (hob : k = if n = 0 then 0 else pgN p (n - 1) + 1) (hl : left = if n = 0 then 0 else p.size - usum p (startN p (pgN p (n - 1))) (n - startN p (pgN p (n - 1)))) :
    (lenAt p n > left ↔ n = startN p k) ∧ (n = startN p k → p.size - lenAt p n = p.size - usum p (startN p (pgN p n)) (n + 1 - startN p (pgN p n))) ∧
    (n ≠ startN p k → left - lenAt p n = p.size - usum p (startN p (pgN p n)) (n + 1 - startN p (pgN p n))) := by
  have hone : n = startN p k → p.size - lenAt p n = p.size - usum p (startN p (pgN p n)) (n + 1 - startN p (pgN p n)) := fun e => by
    have e1 : pgN p n = k := by rw [e]; exact pgN_start ok k
    rw [e1, ← e, show n + 1 - n = 1 by omega]
    show _ = p.size - (usum p n 0 + lenAt p (n + 0))
    simp [usum]
  by_cases z : n = 0
  · rw [if_pos z] at hob hl
    have e : n = startN p k := by rw [hob, z]; rfl
    refine ⟨⟨fun _ => e, fun _ => ?_⟩, hone, fun h => absurd e h⟩
    have := (lenAt_ok ok n).1
    omega
  · rw [if_neg z] at hob hl
    obtain ⟨q1, q2⟩ := pgN_on ok (n - 1)
    obtain ⟨r1, r2⟩ := rowsF_ok ok (startN p (pgN p (n - 1)))
    have es : startN p k = startN p (pgN p (n - 1)) + rowsF p (startN p (pgN p (n - 1))) := by rw [hob]; rfl
    have es2 : startN p (pgN p (n - 1) + 1) = startN p k := by rw [hob]
    have eu : usum p (startN p (pgN p (n - 1))) (n - startN p (pgN p (n - 1)) + 1) = usum p (startN p (pgN p (n - 1))) (n - startN p (pgN p (n - 1))) + lenAt p n := by
      show _ + lenAt p (startN p (pgN p (n - 1)) + (n - startN p (pgN p (n - 1)))) = _
      rw [show startN p (pgN p (n - 1)) + (n - startN p (pgN p (n - 1))) = n by omega]
    refine ⟨⟨fun h => ?_, fun h => ?_⟩, hone, fun h => ?_⟩
    · by_cases c : n = startN p k
      · exact c
      · have := usum_mono ok (startN p (pgN p (n - 1))) (show n - startN p (pgN p (n - 1)) + 1 ≤ rowsF p (startN p (pgN p (n - 1))) by omega)
        omega
    · have e : n - startN p (pgN p (n - 1)) = rowsF p (startN p (pgN p (n - 1))) := by omega
      rw [e] at eu hl
      omega
    · have e : pgN p n = pgN p (n - 1) := (pg_next ok (by omega)).2 (by rw [es2]; exact h)
      rw [e, show n + 1 - startN p (pgN p (n - 1)) = n - startN p (pgN p (n - 1)) + 1 by omega, eu, hl]
      omega
structure Sim (p : Prt) (S : Sx) (W : Wx) (n : Nat) : Prop where
  d : SimD S W
  c : SimC (fun _ => False) S W
  nd : W.changed.Nodup
  rows : W.rows = n
  page : W.page + 1 = ((S.oldest + S.heap.length : Nat) : Int)
  left : W.left = if n = 0 then 0 else p.size - usum p (startN p (pgN p (n - 1))) (n - startN p (pgN p (n - 1)))
  first : W.first = fstL p (S.oldest + S.heap.length)
/-- within a row -/
structure SimM (p : Prt) (T : Sx) (W : Wx) (n : Nat) (X : Int → Prop) : Prop where
  d : SimD T W
  c : SimC X T W
  nd : W.changed.Nodup
  rows : W.rows = n
  page : W.page + 1 = ((T.oldest + T.heap.length : Nat) : Int)
  first : W.first = fstL p (T.oldest + T.heap.length)
theorem keep_rowL (W : Wx) (p : Prt) : KeepW W (W.rowL p) := by
  unfold Wx.rowL
  split
  · have h := keep_take W (.lg ((W.rows % p.every.toNat / p.rec_.toNat : Nat) : Int))
    exact ⟨h.rows, h.page, h.left, h.first, h.nd⟩
  · exact .refl
theorem keep_rowR (W : Wx) (p : Prt) : KeepW W (W.rowR p) := by
  have h := keep_rowL W p
  exact ⟨h.rows, h.page, h.left, h.first, h.nd⟩
theorem opened_keep (V : Wx) (p : Prt) : (V.opened p).page = V.page + 1 ∧ (V.opened p).left = p.size ∧ (V.opened p).first = V.first ++ [(V.page + 1, (V.rows : Int))] ∧ (V.opened p).rows = V.rows ∧ (V.changed.Nodup → (V.opened p).changed.Nodup) := by
  have h := keep_take ({ V with page := V.page + 1, left := p.size, first := V.first ++ [(V.page + 1, (V.rows : Int))] } : Wx) (.hp (V.page + 1))
  exact ⟨h.page, h.left, h.first, h.rows, h.nd⟩
theorem sim_len {S : Sx} {W : Wx} (h : SimC (fun _ => False) S W) (n1 : S.changed.Nodup) (n2 : W.changed.Nodup) : W.changed.length = S.changed.length := by
  refine ((List.perm_ext_iff_of_nodup n2 n1).mpr fun q => ?_).length_eq
  have := h q
  simp at this
  exact this.symm
/-- what the walk wants where a page begins -/
structure OpB (p : Prt) (U : Wx) (o n : Nat) : Prop where
  pg : U.page + 1 = (n : Int)
  hh : U.heap.map (·.1) = ivI o (n - o)
  on : o ≤ n
  n8 : n < 800
  fk : U.first.map (·.1) = ivI 0 n
  nd : (U.nodes.map (·.1)).Nodup
  nl : U.nodes.length ≤ 500
  ev : U.evs.length ≤ 9000
  ch : U.changed.length ≤ 9000
  wt : U.waiting.length ≤ 9000
  wl : (wantN p.fan.toNat o n).length ≤ 500
/-- and behind the row's put -/
structure ClB (p : Prt) (B : Wx) (o n : Nat) : Prop where
  pg : B.page = (n : Int)
  hh : B.heap.map (·.1) = ivI o (n + 1 - o)
  on : o ≤ n
  n8 : n < 800
  fk : B.first.map (·.1) = ivI 0 (n + 1)
  nd : (B.nodes.map (·.1)).Nodup
  nl : B.nodes.length ≤ 500
  ev : B.evs.length ≤ 9000
  ch : B.changed.length ≤ 9000
  wt : B.waiting.length ≤ 9000
  wl : o < n → (wantN p.fan.toNat (o + 1) n).length ≤ 500
theorem kept_gap {p : Prt} (ok : p.Ok) {n o : Nat} (h : o = pgN p (n - p.keep.toNat)) : o ≤ pgN p n ∧ pgN p n ≤ o + 100 := by
  have hk := ok.k
  refine ⟨by rw [h]; exact pgN_mono ok (by omega), ?_⟩
  rw [h]
  by_cases z : n ≤ p.keep.toNat
  · have := pg_gap ok (n - p.keep.toNat) n
    rw [show n - p.keep.toNat = 0 by omega, Nat.zero_add] at this
    rw [show n - p.keep.toNat = 0 by omega]
    omega
  · have := pg_gap ok (n - p.keep.toNat) p.keep.toNat
    rw [show n - p.keep.toNat + p.keep.toNat = n by omega] at this
    omega
theorem want_len {p : Prt} (ok : p.Ok) {a b : Nat} (h1 : a ≤ b) (h2 : b ≤ a + 100) (h3 : b < 511) : (wantN p.fan.toNat a b).length ≤ 115 := by
  have hf2 := fan2 ok
  have hs := ndN_srt p.fan.toNat a b (rlv p.fan.toNat a b + 1)
  have hlv := lv_small hf2 h1 h3
  have hk : KeyAt p.fan.toNat a b (rlv p.fan.toNat a b) (wantN p.fan.toNat a b) := by
    refine ⟨srt_nd hs, fun k => ?_⟩
    unfold wantN
    rw [ndN_mem]
    constructor
    · rintro ⟨i, h1', h2'⟩
      obtain ⟨e, h3', h4'⟩ := (lvN_mem h1).mp h2'
      obtain ⟨x, hx⟩ : ∃ x : Nat, k.2 = x := ⟨k.2.toNat, by have := Int.le_trans (Int.natCast_nonneg _) h3'; omega⟩
      exact ⟨i, x, Prod.ext e hx, by omega, by omega, by omega⟩
    · rintro ⟨i, x, e, h1', h2', h3'⟩
      exact ⟨i, by omega, (lvN_mem h1).mpr (by rw [e]; exact ⟨rfl, by show _ ≤ (x : Int); omega, by show (x : Int) ≤ _; omega⟩)⟩
  exact hk.len hf2 h1 (by omega) hlv
theorem begins_heap : ∀ (l : List NK) (S : Sx), (l.foldl Sx.begin1 S).heap = S.heap
  | [], S => rfl
  | k :: l, S => (begins_heap l (S.begin1 k)).trans (begin1_facts S k).1.heap
theorem changes_heap (g : NK → NK) : ∀ (l : List NK) (S : Sx), (l.foldl (fun T k => T.change (g k)) S).heap = S.heap
  | [], S => rfl
  | k :: l, S => (changes_heap g l (S.change (g k))).trans (stay_change S (g k)).heap
theorem beginPage_heap (S : Sx) (f : Nat) : (S.beginPage f).heap = S.heap ++ [S.takeP] := by
  unfold Sx.beginPage
  dsimp only
  rw [changes_heap, (stay_change _ _).heap, begins_heap]
  rfl
/-- the first half of a row -/
theorem sim_H {p : Prt} {S : Sx} {W : Wx} {n : Nat} (ok : p.Ok) (I : Inv2 p S n) (hn : n < 500) (s : Sim p S W n) :
    (∃ X : Int → Prop, (∀ q, X q → q = (({ S with evs := [] } : Sx).rowH p).heap.getLastD 0) ∧ SimM p (({ S with evs := [] } : Sx).rowH p) (W.rst.rowH p) n X) ∧
    (W.rst.rowH p).left - W.rst.len p = p.size - usum p (startN p (pgN p n)) (n + 1 - startN p (pgN p n)) ∧ (W.rst.rowL p).log ≠ [] ∧ W.log.length ≤ 1000 ∧ (W.rst.rowL p).evs.length ≤ 1 ∧
    (W.rst.len p > (W.rst.rowR p).left → ∃ o m, OpB p (W.rst.rowR p) o m) := by
  have hd := I.dn
  have hob := I.ob
  obtain ⟨l1, l2, l3, l4, l5, l6, l7, l8, l9, l10, l11, l12⟩ := rowL_facts I
  obtain ⟨h1, h2, h3, h4, h5, h6, h7, lv, h8, h9, h10, h11, _⟩ := rowH_facts ok I hn
  have d0 : SimD ({ S with evs := [] } : Sx) W.rst := ⟨s.d.heap, s.d.nodes, s.d.log, s.d.waiting, s.d.list, s.d.size, rfl⟩
  have c0 : SimC (fun _ => False) ({ S with evs := [] } : Sx) W.rst := s.c
  have r0 : W.rst.rows = ({ S with evs := [] } : Sx).done := s.rows.trans hd.symm
  obtain ⟨dL, cL⟩ := sim_rowL (p := p) d0 c0 r0
  obtain ⟨dR, cR⟩ := sim_rowR (p := p) d0 c0 r0
  obtain ⟨k1, k2, k3, k4, k5⟩ := keep_rowR W.rst p
  have k1 : (W.rst.rowR p).rows = n := k1.trans s.rows
  have k2 : (W.rst.rowR p).page + 1 = ((S.oldest + S.heap.length : Nat) : Int) := by rw [k2]; exact s.page
  have k3 : (W.rst.rowR p).left = W.left := k3
  have k4 : (W.rst.rowR p).first = fstL p (S.oldest + S.heap.length) := k4.trans s.first
  have k5 : (W.rst.rowR p).changed.Nodup := k5 s.nd
  have elen : W.rst.len p = lenAt p n := by
    show p.lens.getD (W.rows % p.lens.length) 0 = _
    rw [s.rows]; rfl
  obtain ⟨q1, q2, q3⟩ := cond_left ok hob s.left
  have eH : ({ S with evs := [] } : Sx).rowH p = (fun U : Sx => if n = startN p (U.oldest + U.heap.length) then U.beginPage p.fan.toNat else U) (({ S with evs := [] } : Sx).rowR p) := by
    rw [← hd]
    rfl
  have eW : W.rst.rowH p = (fun U : Wx => if lenAt p n > U.left then U.opn p else U) (W.rst.rowR p) := by
    rw [← elen]
    rfl
  have elogL : (W.rst.rowL p).log = (({ S with evs := [] } : Sx).rowL p).log := dL.log
  have hlog0 : W.log.length ≤ 1000 := by
    rw [s.d.log]
    have := I.own.len
    have := I.tk
    omega
  have hpn : pgN p n ≤ n := pgN_le ok n
  obtain ⟨g1, g2⟩ := kept_gap ok (n := n) I.ol
  have oU : Own (({ S with evs := [] } : Sx).rowR p) [] := own_ev l1 _ _ _
  have u2 : (({ S with evs := [] } : Sx).rowR p).taken = (({ S with evs := [] } : Sx).rowL p).taken := rfl
  have u3 : (({ S with evs := [] } : Sx).rowR p).evs.length = (({ S with evs := [] } : Sx).rowL p).evs.length + 1 := by simp [Sx.rowR, Sx.ev]
  have u4 : (({ S with evs := [] } : Sx).rowR p).heap = S.heap := l4
  have u5 : (({ S with evs := [] } : Sx).rowR p).nodes = S.nodes := l5
  have u7 : (({ S with evs := [] } : Sx).rowR p).oldest = S.oldest := l7
  have u8 : (({ S with evs := [] } : Sx).rowR p).top = S.top := l8
  have htk := I.tk
  rw [eW, k3, elen]
  rw [eH] at h10 h7 ⊢
  refine ⟨?_, ?_, by rw [elogL]; exact l9, hlog0, by rw [dL.evs]; exact l3, ?_⟩
  · generalize ({ S with evs := [] } : Sx).rowR p = U at dR cR h10 h7 u4 u5 u7 u8 oU ⊢
    generalize W.rst.rowR p = V at dR cR k1 k2 k3 k4 k5 ⊢
    dsimp only at h10 h7 ⊢
    rw [k3]
    by_cases c : n = startN p (S.oldest + S.heap.length)
    · rw [if_pos (by rw [u4, u7]; exact c)] at h10 h7 ⊢
      rw [if_pos (q1.mpr c)]
      have hN : U.oldest + U.heap.length = pgN p n := by rw [u4, u7, c]; exact (pgN_start ok _).symm
      obtain ⟨b1, b2, b3, b4, b5, b6, b7, b8, b9⟩ := beginPage_facts (f := p.fan.toNat) oU
      rw [hN] at b9
      rw [b9] at h10
      rw [← u7] at h10
      have elv : rlv p.fan.toNat U.oldest (pgN p n) = lv := by
        have := (rlv_is (fan2 ok) g1).uniq h9
        rw [u7]
        omega
      have h10' := h10
      rw [← elv] at h10'
      obtain ⟨e1, e2⟩ := sim_begin ok dR cR hN (by rw [k2]; exact congrArg Int.ofNat (by rw [← hN, u4, u7])) (by rw [u7]; exact g1) h10'
      obtain ⟨hp0, _, hf0, hr0, hn0⟩ := opened_keep V p
      have kt := keep_turn (V.opened p) p.fan ((V.opened p).heap.headD (0, 0)).1.toNat (V.page + 1).toNat (V.heap.map (·.1)) (V.nodes.map (·.1))
      have ek : (U.beginPage p.fan.toNat).oldest + (U.beginPage p.fan.toNat).heap.length = S.oldest + S.heap.length + 1 := by rw [b4, b7, u4, u7]; omega
      have elast : (U.beginPage p.fan.toNat).heap.getLastD 0 = U.takeP := by
        rw [beginPage_heap]
        simp [List.getLastD_eq_getLast?]
      refine ⟨fun q => q = U.takeP, fun q hq => by rw [elast]; exact hq, e1, e2, kt.nd (hn0 k5), (kt.rows.trans hr0).trans k1, ?_, ?_⟩
      · rw [ek]
        show ((V.opened p).turn p.fan _ _ _ _).page + 1 = _
        rw [kt.page, hp0, k2]
        omega
      · rw [ek, fstL_succ]
        show ((V.opened p).turn p.fan _ _ _ _).first = _
        rw [kt.first, hf0, k4, k2, k1, ← c]
    · rw [if_neg (by rw [u4, u7]; exact c)]
      rw [if_neg (fun z => c (q1.mp z))]
      exact ⟨fun _ => False, fun q hq => hq.elim, dR, cR, k5, k1, by rw [u4, u7]; exact k2, by rw [u4, u7]; exact k4⟩
  · generalize W.rst.rowR p = V at k3
    dsimp only
    rw [k3]
    by_cases c : n = startN p (S.oldest + S.heap.length)
    · rw [if_pos (q1.mpr c)]
      have hl0 := (opened_keep V p).2.1
      have : (V.opn p).left = p.size := (keep_turn (V.opened p) p.fan _ _ _ _).left.trans hl0
      rw [this]
      exact q2 c
    · rw [if_neg (fun z => c (q1.mp z)), k3]
      exact q3 c
  · intro hl
    have c := q1.mp hl
    have hN : S.oldest + S.heap.length = pgN p n := by rw [c]; exact (pgN_start ok _).symm
    have eU : (({ S with evs := [] } : Sx).rowR p).oldest + (({ S with evs := [] } : Sx).rowR p).heap.length = pgN p n := by rw [u4, u7]; exact hN
    dsimp only at h10
    rw [if_pos (by rw [u4, u7]; exact c), (beginPage_facts (f := p.fan.toNat) oU).2.2.2.2.2.2.2.2] at h10
    have hnl := h10.len (fan2 ok) g1 (by omega) h11
    rw [List.length_append, List.length_map, u5] at hnl
    have hchg := oU.chg
    have hlen := oU.len
    refine ⟨S.oldest, pgN p n, by rw [k2, hN], ?_, g1, by omega, by rw [k4, fstL_keys, hN], ?_, ?_, ?_, ?_, ?_, Nat.le_trans (want_len ok g1 g2 (by omega)) (by omega)⟩
    · rw [dR.heap]
      unfold Sx.hpL
      rw [hpL_keys, u4, u7, show S.heap.length = pgN p n - S.oldest by omega]
    · rw [dR.nodes, u5]; exact I.nd
    · rw [dR.nodes, u5]; omega
    · rw [dR.evs]; omega
    · rw [sim_len cR oU.cn k5]; omega
    · rw [dR.waiting]; omega
theorem hp_last (o : Nat) {h : List Int} (hn : h ≠ []) : ((List.mapIdx (fun (i : Nat) (x : Int) => (((o + i : Nat) : Int), x)) h).getLastD (0, 0)).2 = h.getLastD 0 := by
  have e : h = h.dropLast ++ [h.getLast hn] := (List.dropLast_concat_getLast hn).symm
  rw [e, List.mapIdx_append]
  simp [List.getLastD_eq_getLast?]
theorem hp_head (o : Nat) {h : List Int} (hn : h ≠ []) : ((List.mapIdx (fun (i : Nat) (x : Int) => (((o + i : Nat) : Int), x)) h).headD (0, 0)).1 = (o : Int) := by
  obtain ⟨x, l, e⟩ := List.exists_cons_of_ne_nil hn
  rw [e, List.mapIdx_cons]
  simp
/-- behind the put -/
theorem sim_B {p : Prt} {S : Sx} {W : Wx} {n : Nat} (ok : p.Ok) (I : Inv2 p S n) (hn : n < 500) (s : Sim p S W n) :
    SimM p (({ S with evs := [] } : Sx).rowB p) (W.rst.rowB p) n (fun _ => False) ∧ (W.rst.rowB p).left = p.size - usum p (startN p (pgN p n)) (n + 1 - startN p (pgN p n)) ∧
    ClB p (W.rst.rowB p) S.oldest (pgN p n) ∧ Own (({ S with evs := [] } : Sx).rowB p) [] ∧ (({ S with evs := [] } : Sx).rowB p).oldest = S.oldest ∧ (({ S with evs := [] } : Sx).rowB p).oldest + (({ S with evs := [] } : Sx).rowB p).heap.length = pgN p n + 1 ∧
    ∃ lv, KeyAt p.fan.toNat S.oldest (pgN p n) lv ((({ S with evs := [] } : Sx).rowB p).nodes.map (·.1)) := by
  obtain ⟨⟨X, hX, d, c, nd, r, pg, fi⟩, hl, _, _, _, _⟩ := sim_H ok I hn s
  obtain ⟨h1, h2, h3, h4, h5, h6, h7, lv, h8, h9, h10, h11, h12, h13⟩ := rowH_facts ok I hn
  obtain ⟨g1, g2⟩ := kept_gap ok (n := n) I.ol
  have hpn : pgN p n ≤ n := pgN_le ok n
  have hrow : W.rst.rows = n := s.rows
  have hd : ({ S with evs := [] } : Sx).done = n := I.dn
  have hne : (({ S with evs := [] } : Sx).rowH p).heap ≠ [] := fun z => by
    rw [z] at h7
    simp only [List.length_nil] at h7
    omega
  have eB : ({ S with evs := [] } : Sx).rowB p = ((({ S with evs := [] } : Sx).rowH p).mark ((({ S with evs := [] } : Sx).rowH p).heap.getLastD 0)).ev "put" ((({ S with evs := [] } : Sx).rowH p).heap.getLastD 0) (.row n) := by
    rw [← hd]; rfl
  have eW : W.rst.rowB p = (({ W.rst.rowH p with left := (W.rst.rowH p).left - W.rst.len p } : Wx).mark (W.rst.rowH p).newP).say "put" (W.rst.rowH p).newP (.row n) := by
    rw [← hrow]; rfl
  have eq : (W.rst.rowH p).newP = (({ S with evs := [] } : Sx).rowH p).heap.getLastD 0 := by
    unfold Wx.newP
    rw [d.heap]
    exact hp_last _ hne
  rw [eq] at eW
  rw [eB, eW]
  generalize ({ S with evs := [] } : Sx).rowH p = T at hX d c pg fi h1 h2 h3 h4 h5 h6 h7 h8 h10 h12 h13 hne
  generalize W.rst.rowH p = V at d c nd r pg fi hl
  have hcn : 0 < T.heap.count (T.heap.getLastD 0) := List.count_pos_iff.mpr (by
    rw [List.getLastD_eq_getLast?, List.getLast?_eq_some_getLast hne]
    exact List.getLast_mem hne)
  generalize T.heap.getLastD 0 = q at hX hcn
  have oB : Own ((T.mark q).ev "put" q (.row n)) [] := own_ev (own_mark h1 (h1.rng (c := q) (by omega))) _ _ _
  have cB : SimC (fun _ => False) ((T.mark q).ev "put" q (.row n)) ((({ V with left := V.left - W.rst.len p } : Wx).mark q).say "put" q (.row n)) := fun x => by
    show x ∈ cput T.changed q ↔ x ∈ cput V.changed q ∨ False
    rw [mem_cput_iff, mem_cput_iff, c x]
    constructor
    · rintro ((z | z) | z)
      · exact .inl (.inl z)
      · exact .inl (.inr (hX x z))
      · exact .inl (.inr z)
    · rintro ((z | z) | z)
      · exact .inl (.inl z)
      · exact .inr z
      · exact z.elim
  have ndB : (cput V.changed q).Nodup := cput_nd nd
  have hchg := oB.chg
  have hlen := oB.len
  have eh : (((T.mark q).ev "put" q (.row n)).heap) = T.heap := rfl
  have eo : (((T.mark q).ev "put" q (.row n)).oldest) = T.oldest := rfl
  have et : (((T.mark q).ev "put" q (.row n)).taken) = T.taken := rfl
  have en : (((T.mark q).ev "put" q (.row n)).nodes) = T.nodes := rfl
  have hnl := h10.len (fan2 ok) g1 (by omega) h11
  rw [List.length_map] at hnl
  refine ⟨⟨⟨d.heap, d.nodes, d.log, d.waiting, d.list, d.size, ?_⟩, cB, ndB, r, pg, fi⟩, hl, ⟨?_, ?_, g1, by omega, ?_, ?_, ?_, ?_, ?_, ?_, fun z => Nat.le_trans (want_len ok (show S.oldest + 1 ≤ pgN p n by omega) (by omega) (by omega)) (by omega)⟩, oB, h5, h7, lv, h10⟩
  · show V.evs ++ _ = T.evs ++ _
    rw [d.evs]
  · show V.page = _
    omega
  · show V.heap.map (·.1) = _
    rw [d.heap]
    unfold Sx.hpL
    rw [hpL_keys, h5, show T.heap.length = pgN p n + 1 - S.oldest by omega]
  · show V.first.map (·.1) = _
    rw [fi, fstL_keys, h7]
  · show (V.nodes.map (·.1)).Nodup
    rw [d.nodes]; exact h10.nd
  · show V.nodes.length ≤ _
    rw [d.nodes]; omega
  · show (V.evs ++ _).length ≤ _
    rw [d.evs, List.length_append]; simp; omega
  · show (cput V.changed q).length ≤ _
    have := sim_len cB oB.cn ndB
    have e2 : ((({ V with left := V.left - W.rst.len p } : Wx).mark q).say "put" q (.row n)).changed = cput V.changed q := rfl
    rw [e2] at this
    omega
  · show V.waiting.length ≤ _
    rw [d.waiting]
    have e2 : ((T.mark q).ev "put" q (.row n)).waiting = T.waiting := rfl
    rw [e2] at hlen
    omega
/-- the end of a row -/
theorem sim_E {p : Prt} {S : Sx} {W : Wx} {n : Nat} (ok : p.Ok) (I : Inv2 p S n) (hn : n < 500) (s : Sim p S W n) :
    SimM p (({ S with evs := [] } : Sx).rowE p) (W.rst.rowE p) n (fun _ => False) ∧ (W.rst.rowE p).left = p.size - usum p (startN p (pgN p n)) (n + 1 - startN p (pgN p n)) := by
  obtain ⟨⟨d, c, nd, r, pg, fi⟩, hl, _, oB, b5, b7, lv, b10⟩ := sim_B ok I hn s
  obtain ⟨e0, e1, e2, e3, e11, e12, e4, e5, e6, e7, lv2, e8, e9, e10⟩ := rowE_facts ok I hn
  obtain ⟨g1, g2⟩ := kept_gap ok (n := n) I.ol
  have hk := ok.k
  have hd := I.dn
  have eE : ({ S with evs := [] } : Sx).rowE p = (fun B : Sx => if n + 1 = startN p (B.oldest + 1) + p.keep.toNat then B.endPage p.fan.toNat else B) (({ S with evs := [] } : Sx).rowB p) := by
    rw [← hd]
    rfl
  have eW : W.rst.rowE p = (fun B : Wx => @ite _ (B.ends p) (Classical.propDecidable _) (B.cls p) B) (W.rst.rowB p) := rfl
  rw [eW]
  rw [eE] at e5 e7 e9 e10 ⊢
  generalize ({ S with evs := [] } : Sx).rowB p = B at d c pg fi oB b5 b7 b10 e0 e5 e7 e9 e10 ⊢
  generalize W.rst.rowB p = V at d c nd r pg fi hl ⊢
  dsimp only at e5 e7 e9 e10 ⊢
  have bne : B.heap ≠ [] := fun z => by
    rw [z] at b7
    simp only [List.length_nil] at b7
    omega
  have ehd : (V.heap.headD (0, 0)).1 = (B.oldest : Int) := by rw [d.heap]; exact hp_head _ bne
  have epg : V.page = ((pgN p n : Nat) : Int) := by omega
  obtain ⟨p1, p2⟩ := pgN_on ok n
  have hends : V.ends p ↔ n + 1 = startN p (B.oldest + 1) + p.keep.toNat := by
    unfold Wx.ends Wx.firstOf
    rw [ehd, epg, r, fi, b7]
    constructor
    · rintro ⟨z1, z2, z3⟩
      have z2 : B.oldest < pgN p n := by omega
      have := fstL_get p (k := pgN p n + 1) (m := B.oldest + 1) (by omega)
      rw [show ((B.oldest : Int) + 1) = ((B.oldest + 1 : Nat) : Int) by omega, this] at z3
      omega
    · intro z
      have z2 : B.oldest < pgN p n := by
        by_cases y : B.oldest + 1 ≤ pgN p n
        · omega
        · have : B.oldest = pgN p n := by omega
          rw [← this] at p2
          omega
      refine ⟨by have := start_ge ok (B.oldest + 1); omega, by omega, ?_⟩
      have := fstL_get p (k := pgN p n + 1) (m := B.oldest + 1) (by omega)
      rw [show ((B.oldest : Int) + 1) = ((B.oldest + 1 : Nat) : Int) by omega, this]
      omega
  by_cases y : n + 1 = startN p (B.oldest + 1) + p.keep.toNat
  · rw [if_pos y] at e5 e7 e9 e10 ⊢
    rw [if_pos (hends.mpr y)]
    obtain ⟨⟨q1, q2, q3⟩, _⟩ := e0 y
    obtain ⟨c1, c2, c3, c4, c5, c6, c7, c8, c9, c10⟩ := endPage_facts (f := p.fan.toNat) oB q1 b10.nd q2 q3
    have hlt : B.oldest < pgN p n := by
      have : pgN p (startN p (B.oldest + 1)) ≤ pgN p n := pgN_mono ok (by omega)
      rw [pgN_start ok] at this
      omega
    have hlv : rlv p.fan.toNat (B.oldest + 1) (pgN p n) = lv2 := by
      rw [c7] at e9
      have := (rlv_is (fan2 ok) (show B.oldest + 1 ≤ pgN p n by omega)).uniq e9
      omega
    have ky : ∀ k, k ∈ wantN p.fan.toNat (B.oldest + 1) (pgN p n) ↔ k ∈ B.nodes.map (·.1) ∧ k ∉ endedL p.fan.toNat B.oldest B.nodes (B.endLv p.fan.toNat) := fun k => by
      rw [c7] at e10
      rw [← c10 k, key_nd e10 (by omega) k]
      unfold wantN
      rw [hlv]
    obtain ⟨x1, x2⟩ := sim_end ok d c b7 epg hlt b10.nd q2 q3 ky
    have kc : KeepW V V.closed := (⟨rfl, rfl, rfl, rfl, id⟩ : KeepW V { V with heap := V.heap.tail }).trans (keep_give _ _ _)
    have kt : KeepW V (V.cls p) := kc.trans (keep_turn _ _ _ _ _ _)
    exact ⟨⟨x1, x2, kt.nd nd, kt.rows.trans r, by rw [kt.page, e7]; omega, by rw [kt.first, e7, fi, b7]⟩, by rw [kt.left]; exact hl⟩
  · rw [if_neg y]
    rw [if_neg (fun z => y (hends.mp z))]
    exact ⟨⟨d, c, nd, r, pg, fi⟩, hl⟩
/-- a row -/
theorem sim_row {p : Prt} {S : Sx} {W : Wx} {n : Nat} (ok : p.Ok) (I : Inv2 p S n) (hn : n < 500) (s : Sim p S W n) : Sim p (S.step p) (W.rst.row p) (n + 1) := by
  obtain ⟨⟨d, c, nd, r, pg, fi⟩, hl⟩ := sim_E ok I hn s
  obtain ⟨e0, e1, e2, e3, e11, e12, e4, e5, e6, e7, _⟩ := rowE_facts ok I hn
  have hrow : W.rst.rows = n := s.rows
  have hd : ({ S with evs := [] } : Sx).done = n := I.dn
  have eP : S.step p = (fun E : Sx => if (n + 1) % p.every.toNat = 0 then ({ E with done := n + 1 } : Sx).checkpoint else { E with done := n + 1 }) (({ S with evs := [] } : Sx).rowE p) := by
    rw [← hd]
    rfl
  have eW : W.rst.row p = (fun E : Wx => if (n + 1) % p.every.toNat = 0 then ({ E with rows := n + 1 } : Wx).sync else { E with rows := n + 1 }) (W.rst.rowE p) := by
    rw [← hrow]
    rfl
  rw [eP, eW]
  generalize ({ S with evs := [] } : Sx).rowE p = T at d c pg fi e1 e7 ⊢
  generalize W.rst.rowE p = V at d c nd r pg fi hl ⊢
  dsimp only
  have d1 : SimD ({ T with done := n + 1 } : Sx) ({ V with rows := n + 1 } : Wx) := ⟨d.heap, d.nodes, d.log, d.waiting, d.list, d.size, d.evs⟩
  have c1 : SimC (fun _ => False) ({ T with done := n + 1 } : Sx) ({ V with rows := n + 1 } : Wx) := c
  have hl : V.left = if n + 1 = 0 then 0 else p.size - usum p (startN p (pgN p (n + 1 - 1))) (n + 1 - startN p (pgN p (n + 1 - 1))) := by
    rw [if_neg (by omega)]; exact hl
  by_cases z : (n + 1) % p.every.toNat = 0
  · rw [if_pos z, if_pos z]
    have oE : Own ({ T with done := n + 1 } : Sx) [] := ⟨e1.pm, e1.cn, e1.cs⟩
    obtain ⟨k1, k2, k3, k4, k5, k6, k7, k8⟩ := checkpoint_facts oE
    obtain ⟨x1, x2⟩ := sim_sync d1 c1 e1.cn nd
    exact ⟨x1, x2, List.nodup_nil, rfl, by rw [k6, k2]; exact pg, hl, by rw [k6, k2]; exact fi⟩
  · rw [if_neg z, if_neg z]
    exact ⟨d1, c1, nd, rfl, pg, hl, fi⟩
theorem sim_new (p : Prt) : Sim p Sx.new Wx.new 0 := ⟨⟨rfl, rfl, rfl, rfl, rfl, rfl, rfl⟩, fun q => by show q ∈ ([] : List Int) ↔ q ∈ ([] : List Int) ∨ False; simp, List.nodup_nil, rfl, rfl, rfl, rfl⟩
theorem sim_rows {p : Prt} (ok : p.Ok) : ∀ n : Nat, n ≤ 500 → Sim p (Sx.rows p n) (Wx.rowsN p n) n
  | 0, _ => sim_new p
  | n + 1, h => sim_row ok (inv_rows ok n (by omega)).1 (by omega) (sim_rows ok n (by omega))
/-! ### the law's row: what its walk wants -/
structure RowW (p : Prt) (W : Wx) : Prop where
  e0 : W.evs = []
  lg : (W.rowL p).log ≠ []
  ll : W.log.length ≤ 9000
  el : (W.rowL p).evs.length ≤ 1
  op : W.len p > (W.rowR p).left → ∃ o n, OpB p (W.rowR p) o n
  cl : ∃ o n, ClB p (W.rowB p) o n
  ec : (W.rowE p).changed.length ≤ 9000
  ew : (W.rowE p).waiting.length ≤ 9000
  eg : (W.rowE p).log.length ≤ 9000
  ei : (W.rowE p).list.length ≤ 9000
  ee : (W.rowE p).evs.length ≤ 9000
theorem row_w {p : Prt} {S : Sx} {W : Wx} {n : Nat} (ok : p.Ok) (I : Inv2 p S n) (hn : n < 500) (s : Sim p S W n) : RowW p W.rst := by
  obtain ⟨_, _, a3, a4, a5, a6⟩ := sim_H ok I hn s
  obtain ⟨_, _, b3, _⟩ := sim_B ok I hn s
  obtain ⟨⟨d, c, nd, _, _, _⟩, _⟩ := sim_E ok I hn s
  obtain ⟨e0, e1, e2, e3, _⟩ := rowE_facts ok I hn
  have hlen := e1.len
  have hchg := e1.chg
  refine ⟨rfl, a3, Nat.le_trans a4 (by decide), a5, a6, ⟨_, _, b3⟩, ?_, ?_, ?_, ?_, ?_⟩
  · rw [sim_len c e1.cn nd]; omega
  · rw [d.waiting]; omega
  · rw [d.log]; omega
  · rw [d.list]; omega
  · rw [d.evs]; omega
/-- what a whole row leaves as it is -/
def FR (A : WAd) (H : Hp) (A' : WAd) (H' : Hp) : Prop := (A'.w = A.w ∧ A'.pa = A.pa) ∧ (∀ b o, b ∉ A.own.dropLast → H b = some o → H' b = some o) ∧ (∀ b ∈ A'.own.dropLast, b ∈ A.own.dropLast ∨ H b = none) ∧ TP H H'
theorem FR.refl {A : WAd} {H : Hp} : FR A H A H := ⟨⟨rfl, rfl⟩, fun _ _ _ h => h, fun _ h => .inl h, TP.refl⟩
theorem FR.trans {A A1 A2 : WAd} {H H1 H2 : Hp} (x : FR A H A1 H1) (y : FR A1 H1 A2 H2) : FR A H A2 H2 := by
  obtain ⟨⟨x1, x2⟩, x4, x5, x6⟩ := x
  obtain ⟨⟨y1, y2⟩, y4, y5, y6⟩ := y
  refine ⟨⟨y1.trans x1, y2.trans x2⟩, fun b o nb hb => ?_, fun b hb => ?_, x6.trans y6⟩
  · exact y4 b o (fun z => (x5 b z).elim nb (fun w => by rw [w] at hb; cases hb)) (x4 b o nb hb)
  · rcases y5 b hb with h | h
    · exact x5 b h
    · by_cases c : b ∈ A.own.dropLast
      · exact .inl c
      · cases q : H b with
        | none => exact .inr rfl
        | some o => rw [x4 b o c q] at h; cases h
theorem FR.same {A : WAd} {H H' : Hp} (s : Same H H') : FR A H A H' := ⟨⟨rfl, rfl⟩, fun b o _ h => s b o h, fun _ h => .inl h, s.tp⟩
section
variable {H H1 : Hp} {A : WAd} {G : Hp} {p : Prt} {W : Wx} {vs : List V}
theorem WR.same (t : WR H A G p W) (s : Same H H1) : WR H1 A G p W := ⟨t.at_.same s, t.nd, t.pd, fun b o h => s _ _ (t.g b o h), t.gn⟩
theorem WR.out (t : WR H A G p W) (f : ∀ b o, b ∈ A.own.dropLast → H b = some o → H1 b = some o) (g : Same G H1) : WR H1 A G p W :=
  ⟨fun e he => f _ _ (List.mem_map.mpr ⟨e, he, rfl⟩) (t.at_ e he), t.nd, t.pd, g, t.gn⟩
theorem WR.tw (t : WR H A G p W) : H A.w = some (.dK (wL A W)) := t.at_.get (i := 0) rfl
theorem WR.some_ (t : WR H A G p W) {b : Addr} (hb : b ∈ A.own.dropLast) : H b ≠ none := fun z => by
  have hb : b ∈ (worldL A W []).dropLast.map (·.1) := hb
  obtain ⟨e, he, rfl⟩ := List.mem_map.mp hb
  rw [t.at_ e he] at z
  cases z
/-- with a list for its events -/
theorem WR.opn (t : WR H A G p W) {q : Addr} (hq : H q = none) (g : Same H H1) (c : H1 q = some (.lst [])) : WAt H1 { A with ev := q } G p W.rst [] := by
  have nq : q ∉ A.own.dropLast := fun z => t.some_ z hq
  have e1 : worldL { A with ev := q } W.rst [] = (worldL A W []).dropLast ++ [(q, .lst [])] := rfl
  have e2 : ({ A with ev := q } : WAd).own = A.own.dropLast ++ [q] := rfl
  refine ⟨fun e he => ?_, ?_, .nil, t.pd, fun b o h => g _ _ (t.g b o h), fun b hb => ?_⟩
  · rw [e1] at he
    rcases List.mem_append.mp he with h | h
    · exact g _ _ (t.at_ e h)
    · rw [List.mem_singleton.mp h]; exact c
  · rw [e2]
    exact List.nodup_append.mpr ⟨t.nd, by simp, fun a ha b hb e => nq (by rw [List.mem_singleton.mp hb] at e; exact e ▸ ha)⟩
  · rw [e2] at hb
    rcases List.mem_append.mp hb with h | h
    · exact t.gn b h
    · rw [List.mem_singleton.mp h]
      cases z : G q with
      | none => rfl
      | some o => rw [t.g q o z] at hq; cases hq
theorem WAt.cls (t : WAt H A G p W vs) : WR H A G p W := by
  have e2 : A.own = A.own.dropLast ++ [A.ev] := rfl
  refine ⟨fun e he => t.at_ e ?_, ?_, t.pd, t.g, fun b hb => t.gn b ?_⟩
  · have e1 : worldL A W vs = (worldL A W []).dropLast ++ [(A.ev, .lst vs)] := rfl
    rw [e1]
    exact List.mem_append_left _ he
  · have := t.nd
    rw [e2] at this
    exact (List.nodup_append.mp this).1
  · rw [e2]
    exact List.mem_append_left _ hb
end
theorem WF.fr {A A' : WAd} {q : Addr} {H H1 H' : Hp} (hq : H q = none) (g : Same H H1) (f : WF { A with ev := q } H1 A' H') : FR A H A' H' := by
  obtain ⟨⟨x1, x2, x3⟩, x4, x5, x6⟩ := f
  refine ⟨⟨x1, x2⟩, fun b o nb h => x4 b o (fun z => ?_) (g _ _ h), fun b hb => ?_, g.tp.trans x6⟩
  · have z : b ∈ A.own.dropLast ++ [q] := z
    rcases List.mem_append.mp z with z | z
    · exact nb z
    · rw [List.mem_singleton.mp z, hq] at h; cases h
  · have hb : b ∈ A'.own := List.dropLast_subset _ hb
    rcases x5 b hb with z | z
    · have z : b ∈ A.own.dropLast ++ [q] := z
      rcases List.mem_append.mp z with z | z
      · exact .inl z
      · rw [List.mem_singleton.mp z]; exact .inr hq
    · right
      cases y : H b with
      | none => rfl
      | some o => rw [g _ _ y] at z; cases z
theorem take_log (W : Wx) (r : Ro) : (W.take r).log = W.log ∧ (W.take r).first = W.first ∧ (W.take r).waiting = W.waiting ∧ (W.take r).page = W.page ∧ (W.take r).evs.length = W.evs.length + 1 := by
  unfold Wx.take Wx.taking Wx.say
  split <;> exact ⟨rfl, rfl, rfl, rfl, by simp⟩
theorem val_hp (q : Int) : ∀ l : List (Int × Int), valV (l.map hpE) (.inl q) = ((l.find? fun e => decide (e.1 = q)).map (·.2)).map V.int
  | [] => rfl
  | e :: l => by
    have ih := val_hp q l
    unfold valV at ih ⊢
    rw [List.map_cons, List.find?_cons, List.find?_cons]
    have : decide ((hpE e).1 = (.inl q : L2.Key)) = decide (e.1 = q) := dec_ch
    rw [this]
    by_cases h : e.1 = q
    · rw [decide_eq_true h]; rfl
    · rw [decide_eq_false h]; exact ih
theorem put_hp {q v : Int} {l : List (Int × Int)} (h : q ∉ l.map (·.1)) : putK (l.map hpE) (.inl q) (.int v) = (l ++ [(q, v)]).map hpE := by
  unfold putK
  have : ((l.map hpE).any fun kv => decide (kv.1 = (.inl q : L2.Key))) = false := by
    rw [List.any_eq_false]
    intro x hx z
    obtain ⟨e, he, rfl⟩ := List.mem_map.mp hx
    have z : decide ((Sum.inl e.1 : L2.Key) = .inl q) = true := z
    rw [dec_ch, decide_eq_true_iff] at z
    exact h (z ▸ List.mem_map.mpr ⟨e, he, rfl⟩)
  rw [if_neg (by rw [this]; exact Bool.false_ne_true), List.map_append]
  rfl
theorem find_key {l : List (Int × Int)} (nd : (l.map (·.1)).Nodup) {e : Int × Int} (h : e ∈ l) : l.find? (fun x => decide (x.1 = e.1)) = some e := by
  induction l with
  | nil => cases h
  | cons x l ih =>
    rw [List.map_cons, List.nodup_cons] at nd
    rw [List.find?_cons]
    rcases List.mem_cons.mp h with rfl | h
    · rw [decide_eq_true rfl]
    · rw [decide_eq_false (fun z => nd.1 (by rw [z]; exact List.mem_map.mpr ⟨e, h, rfl⟩))]
      exact ih nd.2 h
theorem ivI_nd (x n : Nat) : (ivI x n).Nodup := (ivI_srt x n).imp fun h e => by omega
/-- the newest heap page's page -/
theorem val_new {l : List (Int × Int)} {o n : Nat} (h : l.map (·.1) = ivI o (n + 1 - o)) (on : o ≤ n) : valV (l.map hpE) (.inl (n : Int)) = some (.int (l.getLastD (0, 0)).2) := by
  have hl : l.length = n + 1 - o := by rw [← List.length_map (·.1), h, ivI_len]
  have hne : l ≠ [] := fun z => by rw [z] at hl; simp only [List.length_nil] at hl; omega
  have e1 : l.getLastD (0, 0) = l.getLast hne := by rw [List.getLastD_eq_getLast?, List.getLast?_eq_some_getLast hne]; rfl
  have e2 : (l.getLast hne).1 = (n : Int) := by
    have h3 : (l.map (·.1))[l.length - 1]? = some (l.getLast hne).1 := by
      rw [List.getElem?_map, ← List.getLast?_eq_getElem?, List.getLast?_eq_some_getLast hne]; rfl
    rw [h, ivI_get (by omega)] at h3
    have := Option.some.inj h3
    omega
  rw [val_hp, e1]
  have := find_key (l := l) (e := l.getLast hne) (by rw [h]; exact ivI_nd _ _) (List.getLast_mem hne)
  rw [e2] at this
  rw [this]
  rfl
/-- the oldest one's -/
theorem val_old {l : List (Int × Int)} {o n : Nat} (h : l.map (·.1) = ivI o (n + 1 - o)) (on : o ≤ n) : valV (l.map hpE) (.inl (o : Int)) = some (.int (l.headD (0, 0)).2) ∧ dropK (l.map hpE) (.inl (o : Int)) = l.tail.map hpE ∧ l.tail.map (·.1) = ivI (o + 1) (n - o) ∧ (l.headD (0, 0)).1 = (o : Int) ∧ l ≠ [] := by
  have hl : l.length = n + 1 - o := by rw [← List.length_map (·.1), h, ivI_len]
  match l, hl with
  | [], hl => simp only [List.length_nil] at hl; omega
  | x :: l, hl =>
    have e0 : x.1 = (o : Int) := by
      have h3 : ((x :: l).map (·.1))[0]? = some x.1 := rfl
      rw [h, ivI_get (by omega)] at h3
      have := Option.some.inj h3
      omega
    have nd : ((x :: l).map (·.1)).Nodup := by rw [h]; exact ivI_nd _ _
    have e3 : l.map (·.1) = ivI (o + 1) (n - o) := by
      have h4 := congrArg List.tail h
      rw [List.map_cons, List.tail_cons] at h4
      rw [h4]
      unfold ivI
      rw [show n + 1 - o = (n - o) + 1 by omega, List.range_succ_eq_map, List.map_cons, List.tail_cons, List.map_map]
      refine List.map_congr_left fun i _ => ?_
      show ((o + (i + 1) : Nat) : Int) = ((o + 1 + i : Nat) : Int)
      omega
    refine ⟨?_, ?_, e3, e0, List.cons_ne_nil _ _⟩
    · rw [val_hp, List.find?_cons, decide_eq_true e0]; rfl
    · unfold dropK
      rw [List.map_cons, List.filter_cons_of_neg (by
        show ¬ (decide ((Sum.inl x.1 : L2.Key) ≠ .inl (o : Int)) = true)
        rw [e0]; simp), List.tail_cons]
      refine List.filter_eq_self.mpr fun y hy => decide_eq_true fun z => ?_
      obtain ⟨e, he, rfl⟩ := List.mem_map.mp hy
      have z : (Sum.inl e.1 : L2.Key) = .inl (o : Int) := z
      have z := Sum.inl.inj z
      rw [List.map_cons, List.nodup_cons] at nd
      exact nd.1 (by rw [e0, ← z]; exact List.mem_map.mpr ⟨e, he, rfl⟩)
theorem val_first {W : Wx} {q : Int} (h : q ∈ W.first.map (·.1)) : valV (W.first.map hpE) (.inl q) = some (.int (W.firstOf q)) := by
  rw [val_hp]
  unfold Wx.firstOf
  cases z : W.first.find? (fun e => decide (e.1 = q)) with
  | some x => rfl
  | none =>
    obtain ⟨e, he, e2⟩ := List.mem_map.mp h
    rw [List.find?_eq_none] at z
    exact absurd (decide_eq_true e2) (z e he)
theorem TellAt.wf {H H' : Hp} {A A' : WAd} {D : Addr} {f : Int} {ps : List Int} {ns : List NK} {L : List (NK × Addr)} {ms : List (Addr × NK)} (t : TellAt H D f ps ns L ms) (w : WF A H A' H') (d : D ∉ A.own) (l : ∀ e ∈ L, e.2 ∉ A.own) : TellAt H' D f ps ns L ms :=
  ⟨w.2.1 _ _ d t.d, t.ks, t.nd, t.mks, fun m hm => w.2.2.2 _ _ (t.ma m hm), fun e he => w.2.1 _ _ (l e he) (t.c e he)⟩
theorem ivI_succ (o m : Nat) : ivI o (m + 1) = ivI o m ++ [((o + m : Nat) : Int)] := by
  unfold ivI
  rw [List.range_succ, List.map_append]
  rfl
theorem rowH_rows (W : Wx) (p : Prt) : (W.rowH p).rows = W.rows := by
  have h := keep_rowR W p
  unfold Wx.rowH
  split
  · exact ((keep_turn _ _ _ _ _ _).rows.trans (opened_keep _ p).2.2.2.1).trans h.rows
  · exact h.rows
theorem WAt.re2 {H : Hp} {A : WAd} {G : Hp} {p : Prt} {W : Wx} {vs : List V} (t : WAt H A G p W vs) {A0 : WAd} {H0 : Hp} (w : WF A0 H0 A H) {d : Addr} {o : HO} (hd : d ∉ A.own) (hg : G d = none) (h0 : d ∈ A0.own ∨ H0 d = none) (c : H d = some o) {A' : WAd} {W' : Wx} (i : Nat) (ea : A'.w = A.w ∧ A'.pa = A.pa ∧ A'.ev = A.ev) (ho : A'.own = A.own.set (i + 1) d)
    (hL : ((worldL A W vs).set (i + 1) (d, o)).set 0 (A.w, .dK (wL A' W')) = worldL A' W' vs) (he : W'.evs = W.evs) : WAt (L2.upd H A.w (.dK (wL A' W'))) A' G p W' vs ∧ WF A0 H0 A' (L2.upd H A.w (.dK (wL A' W'))) := by
  have tp : TP H (L2.upd H A.w (.dK (wL A' W'))) := TP.upd t.tw fun _ z => nomatch z
  have nd1 : (((worldL A W vs).set (i + 1) (d, o)).map (·.1)).Nodup := repl_nd (L := worldL A W vs) t.nd (i + 1) o hd
  have a1 := (t.at_.repl (i + 1) c).set nd1 (i := 0) (a := A.w) (o := .dK (wL A' W')) (u := .dK (wL A W)) rfl
  have nd2 : A'.own.Nodup := by rw [ho]; exact nodup_set t.nd (i + 1) hd
  have mem : ∀ b ∈ A'.own, b ∈ A.own ∨ b = d := fun b hb => by rw [ho] at hb; exact (List.mem_or_eq_of_mem_set hb)
  have hw : A.w ∈ A.own := List.mem_cons_self
  have hw0 : A.w ∈ A0.own := by rw [w.1.1]; exact List.mem_cons_self
  refine ⟨⟨hL ▸ a1, nd2, by rw [he]; exact t.ev.tp tp, ea.2.1 ▸ t.pd, fun b v h => ?_, fun b hb => ?_⟩, ⟨ea.1.trans w.1.1, ea.2.1.trans w.1.2.1, ea.2.2.trans w.1.2.2⟩, fun b v nb h => ?_, fun b hb => ?_, w.2.2.2.trans tp⟩
  · rw [upd_ne (fun z => by rw [z, t.gn _ hw] at h; cases h)]; exact t.g b v h
  · rcases mem b hb with h | h
    · exact t.gn b h
    · rw [h]; exact hg
  · rw [upd_ne (fun z => nb (by rw [z]; exact hw0))]; exact w.2.1 b v nb h
  · rcases mem b hb with h | h
    · exact w.2.2.1 b h
    · rw [h]; exact h0
theorem set_out {l : List Addr} {i : Nat} {a b : Addr} (z : b ∈ l.set i a) (h : b ∉ l) (n : b ≠ a) : False := (List.mem_or_eq_of_mem_set z).elim h n
theorem WF.new {A A' : WAd} {H H' : Hp} (w : WF A H A' H') {d : Addr} (n : H' d = none) : d ∈ A.own ∨ H d = none := by
  by_cases c : d ∈ A.own
  · exact .inl c
  · right
    cases q : H d with
    | none => rfl
    | some o => rw [w.2.1 d o c q] at n; cases n
theorem EvsAt.app {H : Hp} {us : List V} {fs : List Ev} (k : EvsAt H us fs) : ∀ {vs : List V} {es : List Ev}, EvsAt H vs es → EvsAt H (vs ++ us) (es ++ fs)
  | _, _, .nil => k
  | _, _, .cons a r => .cons a (k.app r)
theorem rowE_rows (W : Wx) (p : Prt) : (W.rowE p).rows = W.rows := by
  have h : (W.rowB p).rows = W.rows := rowH_rows W p
  unfold Wx.rowE
  split
  · exact (keep_turn _ _ _ _ _ _).rows.trans h
  · exact h
/-! the walk's steps without the look for an if: its failing costs much where the goal is long -/
local macro_rules | `(tactic| walk_at "q1") => `(tactic| first
  | refine ⟨_, rfl, ?_⟩
  | (refine' ⟨_, _, rfl, ?h1, ?_⟩; (case h1 => walk_at "dg"))
  | refine ⟨_, _, rfl, rfl, ?_⟩
  | refine Or.inl ⟨_, rfl, ?_⟩
  | (refine' ⟨_, _, _, _, rfl, rfl, L2.SqL.of ?h1, ?h2, ?_⟩; (case h1 => walk_at "hp"); (case h2 => rfl))
  | (refine' ⟨_, _, _, _, rfl, rfl, L2.SqT.of ?h1, ?h2, ?_⟩; (case h1 => walk_at "hp"); (case h2 => rfl))
  | refine ⟨rfl, ?_⟩
  | refine ⟨_, _, rfl, ?_⟩
  | refine ⟨_, _, _, rfl, ?_⟩
  | (refine' ⟨_, _, rfl, L2.SqT.of ?h1, ?h2, ?_⟩; (case h1 => walk_at "hp"); (case h2 => rfl))
  | (refine' ⟨_, _, rfl, Or.inl (L2.SqL.of ?h1), ?_⟩; (case h1 => walk_at "hp"))
  | (refine' ⟨_, _, rfl, Or.inr (L2.SqT.of ?h1), ?_⟩; (case h1 => walk_at "hp"))
  | (refine' ⟨_, _, _, _, _, rfl, ?h1, ?h2, ?h3, ?h4, ?_⟩; (case h1 => walk_at "hp"); (case h2 => walk_at "cls"); (case h3 => walk_at "noat"); (case h4 => walk_at "lk"))
  | (refine' ⟨_, _, _, _, rfl, ?h1, ?h2, ?h3, ?h4, ?_⟩; (case h1 => walk_at "hp"); (case h2 => walk_at "cls"); (case h3 => walk_at "noat"); (case h4 => exact KR.lt1000 rfl))
  | (refine' ⟨_, _, _, rfl, ?h1, ?h2, ?_⟩; (case h1 => walk_at "hp"); (case h2 => walk_at "lk"))
  | (refine' ⟨⟨_, L2.SqL.of ?h1⟩, ?_⟩; (case h1 => walk_at "hp"))
  | (refine' ⟨⟨_, L2.SqT.of ?h1⟩, ?_⟩; (case h1 => walk_at "hp"))
  | (refine And.intro ?h1 ?_; (case h1 => first | exact KR.szl (Nat.le_of_ble_eq_true rfl) | omega | (refine KR.cdw ?_ ?_ <;> omega))))
local macro_rules | `(tactic| walk_at "qd") => `(tactic| repeat walk_at "q1")
@[irreducible] def sp_law_row (K : PySem.W.Frag) : Sp := fun xs H Q _ => ∃ (A : WAd) (G : Hp) (p : Prt) (W : Wx), xs = [.ref A.w] ∧ WR H A G p W ∧ p.Ok ∧ RowW p W.rst ∧
  ∀ (H' : Hp) (A' : WAd) (e : Addr) (vs : List V), WR H' A' G p (W.rst.row p) → H' e = some (.lst vs) → EvsAt H' vs (W.rst.row p).evs → FR A H A' H' → Q (.ref e) H'
theorem use_row28 {K : PySem.W.Frag} {A : WAd} {a : Addr} {G : Hp} {p : Prt} {W : Wx} {H : Hp} {Q : VK} {E : XK} (ea : a = A.w) (t : WR H A G p W) (ok : p.Ok) (r : RowW p W.rst)
  (k : ∀ (H' : Hp) (A' : WAd) (e : Addr) (vs : List V), WR H' A' G p (W.rst.row p) → H' e = some (.lst vs) → EvsAt H' vs (W.rst.row p).evs → FR A H A' H' → Q (.ref e) H') : sp_law_row K [.ref a] H Q E := by
  subst ea; unfold sp_law_row; exact ⟨A, G, p, W, rfl, t, ok, r, k⟩
theorem b_law_row {K : PySem.W.Frag} {fd : FuncData} (F : F_law_row K fd) : Binds K fd P_law_row [] := FunD.bindsN F fun _ _ _ _ _ _ us hl => match us, hl with | [_], _ => rfl
theorem ok_law_row (T : Txt K mg D) : FnOk P w K mg base CX0 3 (He.fAd K ("_law_row", none)) (D D_law_row) P_law_row (sp_law_row K) := by
  refine T.d_law_row.ok sc_law_row (fun vs H Q E h => ?_) (fun cdv A outer s H vs Q E hr h => ?_)
  · unfold sp_law_row at h
    first | (obtain ⟨rfl, _⟩ := h; rfl) | (obtain ⟨_, rfl, _⟩ := h; rfl) | (obtain ⟨_, _, rfl, _⟩ := h; rfl) | (obtain ⟨_, _, _, rfl, _⟩ := h; rfl) | (obtain ⟨_, _, _, _, rfl, _⟩ := h; rfl) | (obtain ⟨_, _, _, _, _, rfl, _⟩ := h; rfl) | (obtain ⟨_, _, _, _, _, _, rfl, _⟩ := h; rfl) | (obtain ⟨_, _, _, _, _, _, _, rfl, _⟩ := h; rfl) | (obtain ⟨_, _, _, _, _, _, _, _, rfl, _⟩ := h; rfl) | (obtain ⟨_, _, _, _, _, _, _, _, _, rfl, _⟩ := h; rfl) | (obtain ⟨_, _, _, _, _, _, _, _, _, _, rfl, _⟩ := h; rfl) | (obtain ⟨_, _, _, _, _, _, _, _, _, _, _, rfl, _⟩ := h; rfl)
  · refine ⟨_, PSs.nox (pss_cons (ps_par3 (i := 1) (j := 2) (l := 3) rfl sc_law_row.nd rfl rfl rfl (by decide) (by decide) (by decide) rfl rfl rfl (pa_cons (pe_dget (hu_of hr) (pv 0) pe_str (fun _ _ => rfl)) (pa_cons (pe_dget (hu_of hr) (pv 0) pe_str (fun _ _ => rfl)) (pa_cons (pe_lst pa_nil) pa_nil))) (by rfl))
      (pss_cons (ps_set (i := 4) sc_law_row.nd rfl (Or.inl rfl) (pe_op op_mod (pe_callTy call_int1 (by rfl) T.n_int (by decide +kernel) (pa_cons (pv 2) pa_nil)) (pe_dget (hu_of hr) (pv 1) pe_str (fun _ _ => rfl))))
      (Evl.pss_cut (ps_if (pt_cmpR op_eq (pe_op op_mod (pe_callTy call_int1 (by rfl) T.n_int (by decide +kernel) (pa_cons (pv 4) pa_nil)) (pe_dget (hu_of hr) (pv 1) pe_str (fun _ _ => rfl))) pe_int (nomark _)) (pss_one (ps_expr (pe_bm PySem.F.plainAttrs_list PySem.F.slot_list_append PySem.F.type_list_append mt_append (pe_dget (hu_of hr) (pv 0) pe_str (fun _ _ => rfl)) (pa_cons (pe_call (ok_law_take T) (hr.mono (by decide)) rfl T.g_law_take T.d_law_take.kp (b_law_take T.d_law_take) .nil pass0 (pa_cons (pv 0) (pa_cons (pe_tup (pa_cons pe_str (pa_cons (pe_op op_fdivW (pv 4) (pe_dget (hu_of hr) (pv 1) pe_str (fun _ _ => rfl))) pa_nil))) (pa_cons (pv 3) pa_nil)))) pa_nil)))) pss_nil)
      (pss_cons (ps_expr (pe_bm PySem.F.plainAttrs_list PySem.F.slot_list_append PySem.F.type_list_append mt_append (pv 3) (pa_cons (pe_tup (pa_cons pe_str (pa_cons (pe_ix (ix_listK (K := K)) (pe_dget (hu_of hr) (pv 0) pe_str (fun _ _ => rfl)) (pe_un un_neg pe_int) (fun _ _ => rfl)) (pa_cons (pv 2) pa_nil)))) pa_nil)))
      (pss_cons (ps_set (i := 5) sc_law_row.nd rfl (Or.inl rfl) (pe_ix (ix_listK (K := K)) (pe_dget (hu_of hr) (pv 1) pe_str (fun _ _ => rfl)) (pe_op op_mod (pe_callTy call_int1 (by rfl) T.n_int (by decide +kernel) (pa_cons (pv 2) pa_nil)) (pe_callB (call_lenK (K := K)) (by rfl) T.n_len (by decide +kernel) (pa_cons (pe_dget (hu_of hr) (pv 1) pe_str (fun _ _ => rfl)) pa_nil))) (fun _ _ => rfl)))
      (Evl.pss_cut (ps_if (pt_cmpR op_gt (pv 5) (pe_dget (hu_of hr) (pv 0) pe_str (fun _ _ => rfl)) (nomark _)) (pss_cons (ps_set (i := 6) sc_law_row.nd rfl (Or.inl rfl) (pe_call (ok_law_tell T) (hr.mono (by decide)) rfl T.g_law_tell T.d_law_tell.kp (b_law_tell T.d_law_tell) .nil pass0 (pa_cons (pv 0) pa_nil)))
      (pss_cons (ps_asg (hw := by kernel_rfl) (pe_tup (pa_cons (pe_op op_add (pe_dget (hu_of hr) (pv 0) pe_str (fun _ _ => rfl)) pe_int) (pa_cons (pe_dget (hu_of hr) (pv 1) pe_str (fun _ _ => rfl)) pa_nil))) (pg_tup rfl (pgs_cons (pg_sub (pv 0) pe_str (set_dict (hu_of hr))) (pgs_cons (pg_sub (pv 0) pe_str (set_dict (hu_of hr))) pgs_nil))))
      (pss_cons (ps_dput (hu_of hr) (pe_dget (hu_of hr) (pv 0) pe_str (fun _ _ => rfl)) (pe_dget (hu_of hr) (pv 0) pe_str (fun _ _ => rfl)) (pv 2) rfl)
      (pss_cons (ps_dput (hu_of hr) (pe_dget (hu_of hr) (pv 0) pe_str (fun _ _ => rfl)) (pe_dget (hu_of hr) (pv 0) pe_str (fun _ _ => rfl)) (pe_call (ok_law_take T) (hr.mono (by decide)) rfl T.g_law_take T.d_law_take.kp (b_law_take T.d_law_take) .nil pass0 (pa_cons (pv 0) (pa_cons (pe_tup (pa_cons pe_str (pa_cons (pe_dget (hu_of hr) (pv 0) pe_str (fun _ _ => rfl)) pa_nil))) (pa_cons (pv 3) pa_nil)))) rfl)
      (pss_one (ps_expr (pe_call (ok_law_turn_tree T) (hr.mono (by decide)) rfl T.g_law_turn_tree T.d_law_turn_tree.kp (b_law_turn_tree T.d_law_turn_tree) .nil pass0 (pa_cons (pv 0) (pa_cons (pv 6) (pa_cons (pv 3) pa_nil)))))))))) pss_nil)
      (pss_cons (ps_dput (hu_of hr) (pv 0) pe_str (pe_op op_sub (pe_dget (hu_of hr) (pv 0) pe_str (fun _ _ => rfl)) (pv 5)) rfl)
      (pss_cons (ps_expr (pe_call (ok_law_mark T) (hr.mono (by decide)) rfl T.g_law_mark T.d_law_mark.kp (b_law_mark T.d_law_mark) .nil pass0 (pa_cons (pv 0) (pa_cons (pe_dget (hu_of hr) (pe_dget (hu_of hr) (pv 0) pe_str (fun _ _ => rfl)) (pe_dget (hu_of hr) (pv 0) pe_str (fun _ _ => rfl)) (fun _ _ => rfl)) pa_nil))))
      (pss_cons (ps_expr (pe_bm PySem.F.plainAttrs_list PySem.F.slot_list_append PySem.F.type_list_append mt_append (pv 3) (pa_cons (pe_tup (pa_cons pe_str (pa_cons (pe_dget (hu_of hr) (pe_dget (hu_of hr) (pv 0) pe_str (fun _ _ => rfl)) (pe_dget (hu_of hr) (pv 0) pe_str (fun _ _ => rfl)) (fun _ _ => rfl)) (pa_cons (pv 2) pa_nil)))) pa_nil)))
      (pss_cons (ps_set (i := 7) sc_law_row.nd rfl (Or.inl rfl) (pe_callB (L2.cr_minK rfl) (by rfl) T.n_min (by decide +kernel) (pa_cons (pe_dget (hu_of hr) (pv 0) pe_str (fun _ _ => rfl)) pa_nil)))
      (Evl.pss_cut (ps_if (PW.pt (pw_and (pt_cmpR op_ge (pv 2) (pe_dget (hu_of hr) (pv 1) pe_str (fun _ _ => rfl)) (nomark _)) (pw_and (pt_cmpR op_lt (pv 7) (pe_dget (hu_of hr) (pv 0) pe_str (fun _ _ => rfl)) (nomark _)) (pw_and1 (pt_cmpR op_eq (pe_dget (hu_of hr) (pe_dget (hu_of hr) (pv 0) pe_str (fun _ _ => rfl)) (pe_op op_add (pv 7) pe_int) (fun _ _ => rfl)) (pe_op op_add (pe_op op_sub (pv 2) (pe_dget (hu_of hr) (pv 1) pe_str (fun _ _ => rfl))) pe_int) (nomark _)))))) (pss_cons (ps_set (i := 6) sc_law_row.nd rfl (Or.inl rfl) (pe_call (ok_law_tell T) (hr.mono (by decide)) rfl T.g_law_tell T.d_law_tell.kp (b_law_tell T.d_law_tell) .nil pass0 (pa_cons (pv 0) pa_nil)))
      (pss_cons (ps_expr (pe_call (ok_law_give T) (hr.mono (by decide)) rfl T.g_law_give T.d_law_give.kp (b_law_give T.d_law_give) .nil pass0 (pa_cons (pv 0) (pa_cons (pe_dpop1 (pe_dget (hu_of hr) (pv 0) pe_str (fun _ _ => rfl)) (pv 7) ⟨rfl, rfl, rfl, rfl⟩) (pa_cons (pe_tup (pa_cons pe_str (pa_cons (pv 7) pa_nil))) (pa_cons (pv 3) pa_nil))))))
      (pss_one (ps_expr (pe_call (ok_law_turn_tree T) (hr.mono (by decide)) rfl T.g_law_turn_tree T.d_law_turn_tree.kp (b_law_turn_tree T.d_law_turn_tree) .nil pass0 (pa_cons (pv 0) (pa_cons (pv 6) (pa_cons (pv 3) pa_nil)))))))) pss_nil)
      (pss_cons (ps_dput (hu_of hr) (pv 0) pe_str (pe_op op_add (pv 2) pe_int) rfl)
      (Evl.pss_cut (ps_if (pt_cmpR op_eq (pe_op op_mod (pe_callTy call_int1 (by rfl) T.n_int (by decide +kernel) (pa_cons (pe_op op_add (pv 2) pe_int) pa_nil)) (pe_dget (hu_of hr) (pv 1) pe_str (fun _ _ => rfl))) pe_int (nomark _)) (pss_cons (ps_set (i := 3) sc_law_row.nd rfl (Or.inl rfl) (pe_op (op_catSK (K := K)) (pv 3) (pe_lc (own := [("page", 8)]) rfl sc_law_row.nd (pi_list (pe_callB (cr_sortLI (K := K)) (by rfl) T.n_sorted (by decide +kernel) (pa_cons (pe_dget (hu_of hr) (pv 0) pe_str (fun _ _ => rfl)) pa_nil))) (blkOk_by (N := N_law_row) (sc := defScope s_law_row) (by decide +kernel)) (fun _ _ _ _ _ => (pg_name (i := 8) sc_law_row.nd rfl (Or.inl rfl))) (fun _ _ _ _ _ => pts_nil) (fun _ _ _ _ _ => (pe_tup (pa_cons pe_str (pa_cons (pv 8) pa_nil)))))))
      (pss_cons (ps_set (i := 3) sc_law_row.nd rfl (Or.inl rfl) (pe_op (op_catSK (K := K)) (pv 3) (pe_lc (own := [("page", 8)]) rfl sc_law_row.nd (pi_list (pe_op (op_catSK (K := K)) (pe_dget (hu_of hr) (pv 0) pe_str (fun _ _ => rfl)) (pe_dget (hu_of hr) (pv 0) pe_str (fun _ _ => rfl)))) (blkOk_by (N := N_law_row) (sc := defScope s_law_row) (by decide +kernel)) (fun _ _ _ _ _ => (pg_name (i := 8) sc_law_row.nd rfl (Or.inl rfl))) (fun _ _ _ _ _ => pts_nil) (fun _ _ _ _ _ => (pe_tup (pa_cons pe_str (pa_cons (pv 8) pa_nil)))))))
      (pss_cons (ps_dput (hu_of hr) (pv 0) pe_str (pe_op (op_catSK (K := K)) (pe_op (op_catSK (K := K)) (pe_dget (hu_of hr) (pv 0) pe_str (fun _ _ => rfl)) (pe_dget (hu_of hr) (pv 0) pe_str (fun _ _ => rfl))) (pe_dget (hu_of hr) (pv 0) pe_str (fun _ _ => rfl))) rfl)
      (pss_one (ps_asg (pe_tup (pa_cons (pe_lst pa_nil) (pa_cons (pe_lst pa_nil) (pa_cons (pe_lst pa_nil) pa_nil)))) (pg_tup rfl (pgs_cons (pg_sub (pv 0) pe_str (set_dict (hu_of hr))) (pgs_cons (pg_sub (pv 0) pe_str (set_dict (hu_of hr))) (pgs_cons (pg_sub (pv 0) pe_str (set_dict (hu_of hr))) pgs_nil))))))))) pss_nil)
      (pss_one (ps_ret (pv 3)))))))))))))))), ?_⟩
    unfold sp_law_row at h
    obtain ⟨A0, G, p, W0, rfl, t0, ok, rw0, k⟩ := h
    have e0 := ok.e
    have r0 := ok.r
    have k0 := ok.k
    have ee : ((p.every.toNat : Nat) : Int) = p.every := by omega
    have er : ((p.rec_.toNat : Nat) : Int) = p.rec_ := by omega
    have em : (W0.rows : Int) % p.every = ((W0.rows % p.every.toNat : Nat) : Int) := by rw [← ee]; exact (Int.natCast_emod _ _).symm
    have em2 : (W0.rows : Int) % p.every % p.rec_ = ((W0.rows % p.every.toNat % p.rec_.toNat : Nat) : Int) := by rw [em, ← er]; exact (Int.natCast_emod _ _).symm
    have em3 : (W0.rows : Int) % p.every / p.rec_ = ((W0.rows % p.every.toNat / p.rec_.toNat : Nat) : Int) := by rw [em, ← er]; exact (Int.natCast_ediv _ _).symm
    have tw0 := t0.tw
    walk_at "qd"
    intro q n1
    generalize eH1 : upd _ q _ = H1
    obtain ⟨g1, c1⟩ := gen_new n1 eH1
    clear eH1
    have t1 := t0.opn n1 g1 c1
    obtain ⟨A, eA⟩ : ∃ A : WAd, A = { A0 with ev := q } := ⟨_, rfl⟩
    have ew : A0.w = A.w := by rw [eA]
    have ep : A0.pa = A.pa := by rw [eA]
    have eq : q = A.ev := by rw [eA]
    rw [← eA] at t1
    have hfr : ∀ {A' : WAd} {H' : Hp}, WF A H1 A' H' → FR A0 H A' H' := fun f => by rw [eA] at f; exact WF.fr n1 g1 f
    rw [ew, ep, eq]
    clear eA tw0 c1 eq t0
    obtain ⟨W, eW⟩ : ∃ W, W = W0.rst := ⟨_, rfl⟩
    have eWr : W.rows = W0.rows := by rw [eW]; rfl
    rw [← eW] at t1 rw0 k
    rw [← eWr] at em em2 em3 ⊢
    clear eW eWr
    have tw1 := t1.tw
    obtain ⟨l0, hp1, hp2⟩ := t1.pd'
    walk_at "qd"
    refine ⟨fun σ' H' => ∃ vs', σ' = [some (.ref A.w), some (.ref A.pa), some (.int W.rows), some (.ref A.ev), some (.int ((W.rows : Int) % p.every)), none, none, none, none] ∧ WAt H' A G p (W.rowL p) vs' ∧ WF A H1 A H', ?_, ?_⟩
    · walk_at "qd"
      refine iteB (fun c => ?_) (fun c => ?_)
      · have hc : (W.rows % p.every.toNat) % p.rec_.toNat = 0 := by
          have c := of_decide_eq_true c
          injection c with c
          rw [em2] at c
          omega
        walk_at "qd"
        refine ⟨.inl ⟨rfl, _, SqL.of t1.tlo⟩, ?_⟩
        walk_at "qd"
        intro b1 n2
        generalize eH2 : upd _ b1 _ = H2
        obtain ⟨g2, c2⟩ := gen_new n2 eH2
        clear eH2
        have t2 := t1.same g2
        have tw2 := t2.tw
        have c2' : H2 b1 = some (.tup [.str "log", .int ((W.rows % p.every.toNat / p.rec_.toNat : Nat) : Int)]) := by rw [← em3]; exact c2
        walk_at "qd"
        refine use_take28 (r := .lg ((W.rows % p.every.toNat / p.rec_.toNat : Nat) : Int)) rfl rfl t2 ⟨b1, rfl, c2'⟩ (fun z => nomatch z) (by rw [t2.ev.len, rw0.e0]; decide) fun H3 vs3 t3 f3 => ?_
        have tl3 := t3.tlo
        rw [(take_log W _).1] at tl3
        have hll := rw0.ll
        walk_at "qd"
        refine ⟨_, _, _, rfl, rfl, tl3, szlt (by rw [List.length_map]; omega), ?_⟩
        rw [map_snoc]
        obtain ⟨t4, f4⟩ := t3.up (W' := { W.take (.lg ((W.rows % p.every.toNat / p.rec_.toNat : Nat) : Int)) with log := W.log ++ [W.takeP] }) (vs' := vs3) 4 (o := .lst ((W.log ++ [W.takeP]).map V.int)) rfl (fun _ z => nomatch z) rfl t3.ev
        generalize L2.upd H3 A.lo _ = H4 at t4 f4 ⊢
        have e : W.rowL p = { W.take (.lg ((W.rows % p.every.toNat / p.rec_.toNat : Nat) : Int)) with log := W.log ++ [W.takeP] } := by unfold Wx.rowL; rw [if_pos hc]
        rw [← e] at t4
        walk_at "qd"
        exact ⟨vs3, rfl, t4, ((WF.same g2).trans f3).trans f4⟩
      · have hc : ¬ (W.rows % p.every.toNat) % p.rec_.toNat = 0 := fun z => by
          have c := of_decide_eq_false c
          refine c (congrArg V.int ?_)
          show (W.rows : Int) % p.every % p.rec_ = 0
          rw [em2, z]
          rfl
        have e : W.rowL p = W := by unfold Wx.rowL; rw [if_neg hc]
        rw [e]
        exact ⟨_, rfl, t1, WF.refl⟩
    rintro σ' H2 ⟨vs2, rfl, t2, f2⟩
    have tw2 := t2.tw
    have hel := rw0.el
    have hlg := rw0.lg
    have tl2 := t2.tlo
    walk_at "qd"
    refine ⟨.inl ⟨rfl, _, SqL.of t2.tev⟩, ?_⟩
    walk_at "qd"
    refine ⟨_, _, _, _, rfl, rfl, SqL.of tl2, last_atI hlg, ?_⟩
    walk_at "qd"
    intro b3 n3
    generalize eH3 : upd _ b3 _ = H3
    obtain ⟨g3, c3⟩ := gen_new n3 eH3
    clear eH3
    have t3 := t2.same g3
    have hel3 := t3.ev.len
    refine ⟨_, _, _, rfl, rfl, t3.tev, szlt (by omega), ?_⟩
    obtain ⟨t4, f4⟩ := t3.up (W' := W.rowR p) (vs' := vs2 ++ [.ref b3]) 8 (o := .lst (vs2 ++ [.ref b3])) rfl (fun _ z => nomatch z) rfl (evs_snoc t3.ev (r := .row W.rows) rfl (fun z => nomatch z) c3)
    generalize L2.upd H3 A.ev _ = H4 at t4 f4 ⊢
    have f24 := (f2.trans (WF.same g3)).trans f4
    clear t3 t2 tw2 tl2 f2 f4 c3 g3
    have tw4 := t4.tw
    obtain ⟨l4, hp41, hp42⟩ := t4.pd'
    have hl0 := ok.l0
    walk_at "qd"
    have hlm : (W.rows : Int) % ((p.lens.map V.int).length : Int) = ((W.rows % p.lens.length : Nat) : Int) := by rw [List.length_map]; exact (Int.natCast_emod _ _).symm
    refine ⟨by rw [List.length_map]; omega, ?_⟩
    refine ⟨_, _, _, _, rfl, rfl, SqL.of hp42, atI_int (v := .int (W.len p)) hlm ?_, ?_⟩
    · have h : W.rows % p.lens.length < p.lens.length := Nat.mod_lt _ hl0
      unfold Wx.len
      rw [List.getD_eq_getElem?_getD, List.getElem?_map, List.getElem?_eq_getElem h]
      rfl
    clear hp41 hp42 hlm
    walk_at "qd"
    refine ⟨fun σ' H' => ∃ (A' : WAd) (vs' : List V) (v6 : Option V), σ' = [some (.ref A.w), some (.ref A.pa), some (.int W.rows), some (.ref A.ev), some (.int ((W.rows : Int) % p.every)), some (.int (W.len p)), v6, none, none] ∧ WAt H' A' G p (W.rowH p) vs' ∧ WF A H4 A' H', ?_, ?_⟩
    · walk_at "qd"
      refine iteB (fun c => ?_) (fun c => ?_)
      · have hc : W.len p > (W.rowR p).left := of_decide_eq_true c
        have eH : W.rowH p = (W.rowR p).opn p := by unfold Wx.rowH; rw [if_pos hc]
        obtain ⟨o, n, hop⟩ := rw0.op hc
        rw [eH]
        have hUr : (W.rowR p).rows = W.rows := (keep_rowR W p).rows
        have hUe := t4.ev.len
        clear eH hc c
        -- HB
        generalize W.rowR p = U at t4 hop hUr hUe ⊢
        have hhl : U.heap.length = n - o := by rw [← List.length_map (·.1), hop.hh, ivI_len]
        have tw4 := t4.tw
        have hn8 := hop.n8
        have hnl := hop.nl
        walk_at "qd"
        refine use_tell28 rfl t4 ok (by omega) (by omega) (by rw [hop.hh]; exact ivI_srt _ _) hop.nd fun D H5 L ms nD gD tD fD => ?_
        have t5 := t4.same gD
        have tw5 := t5.tw
        obtain ⟨l5, hp51, hp52⟩ := t5.pd'
        walk_at "qd"
        intro bt n6
        generalize eH6 : upd _ bt _ = H6
        obtain ⟨g6, c6⟩ := gen_new n6 eH6
        clear eH6
        have t6 := t5.same g6
        have tw6 := t6.tw
        walk_at "qd"
        refine ⟨_, _, rfl, wp_any (A' := A) (W' := { U with page := U.page + 1 }) tw6 (by kernel_rfl), ?_⟩
        obtain ⟨t7, f7⟩ := t6.up (W' := { U with page := U.page + 1 }) (vs' := vs2 ++ [.ref b3]) 0 (o := .dK (wL A { U with page := U.page + 1 })) rfl (fun _ z => nomatch z) rfl t6.ev
        generalize L2.upd H6 A.w _ = H7 at t7 f7 ⊢
        have tw7 := t7.tw
        walk_at "qd"
        refine ⟨_, _, rfl, wp_any (A' := A) (W' := { U with page := U.page + 1, left := p.size }) tw7 (by kernel_rfl), ?_⟩
        obtain ⟨t8, f8⟩ := t7.up (W' := { U with page := U.page + 1, left := p.size }) (vs' := vs2 ++ [.ref b3]) 0 (o := .dK (wL A { U with page := U.page + 1, left := p.size })) rfl (fun _ z => nomatch z) rfl t7.ev
        generalize L2.upd H7 A.w _ = H8 at t8 f8 ⊢
        have tw8 := t8.tw
        walk_at "qd"
        have hfl : U.first.length = n := by rw [← List.length_map (·.1), hop.fk, ivI_len]
        have hpg := hop.pg
        refine ⟨_, _, rfl, DPut.k (k := .inl (U.page + 1)) t8.tfi (szlt (by rw [List.length_map]; show U.first.length ≤ _; omega)), ?_⟩
        rw [put_hp (by show U.page + 1 ∉ U.first.map (·.1); rw [hop.fk, ivI_mem]; omega)]
        rw [← hUr]
        obtain ⟨V, eV⟩ : ∃ V : Wx, V = { U with page := U.page + 1, left := p.size, first := U.first ++ [(U.page + 1, (U.rows : Int))] } := ⟨_, rfl⟩
        obtain ⟨t9, f9⟩ := t8.up (W' := V) (vs' := vs2 ++ [.ref b3]) 1 (o := .dK (V.first.map hpE)) rfl (fun _ z => nomatch z) (by rw [eV]; rfl) (by rw [eV]; exact t8.ev)
        rw [show (U.first ++ [(U.page + 1, (U.rows : Int))]) = V.first by rw [eV]]
        generalize L2.upd H8 A.fi _ = H9 at t9 f9 ⊢
        have tw9 := t9.tw
        walk_at "qd"
        intro bh n10
        generalize eH10 : upd _ bh _ = H10
        obtain ⟨g10, c10⟩ := gen_new n10 eH10
        clear eH10
        have t10 := t9.same g10
        have tw10 := t10.tw
        have eVp : V.page = U.page + 1 := by rw [eV]
        have eVe : V.evs = U.evs := by rw [eV]
        have hev := hop.ev
        walk_at "qd"
        refine use_take28 (r := .hp (U.page + 1)) rfl rfl t10 ⟨bh, rfl, by rw [← eVp]; exact c10⟩ (fun z => nomatch z) (by omega) fun H11 vs11 t11 f11 => ?_
        have tw11 := t11.tw
        walk_at "qd"
        have eTp : (V.take (.hp (U.page + 1))).page = U.page + 1 := (take_log V _).2.2.2.1.trans eVp
        have eTh : (V.take (.hp (U.page + 1))).heap = U.heap := (take_ch V _).2.2.trans (by rw [eV])
        have h11 := t11.the
        rw [eTh] at h11
        refine ⟨_, _, rfl, DPut.k (k := .inl (V.take (.hp (U.page + 1))).page) h11 (szlt (by rw [List.length_map]; omega)), ?_⟩
        rw [eTp, put_hp (by rw [hop.hh, ivI_mem]; omega)]
        have eVt : V.takeP = U.takeP := by rw [eV]; rfl
        rw [eVt]
        have eO : U.opened p = { V.take (.hp (U.page + 1)) with heap := U.heap ++ [(U.page + 1, U.takeP)] } := by unfold Wx.opened; rw [eV]
        obtain ⟨t12, f12⟩ := t11.up (W' := U.opened p) (vs' := vs11) 2 (o := .dK ((U.heap ++ [(U.page + 1, U.takeP)]).map hpE)) rfl (fun _ z => nomatch z) (by rw [eO]; rfl) (by rw [eO]; exact t11.ev)
        generalize L2.upd H11 A.he _ = H12 at t12 f12 ⊢
        have f512 : WF A H5 A H12 := (((((WF.same g6).trans f7).trans f8).trans f9).trans (WF.same g10)).trans (f11.trans f12)
        have hDo := (t4.fresh nD).1
        have hLo : ∀ e ∈ L, e.2 ∉ A.own := fun e he => (t4.fresh (fD e he)).1
        have tD12 := tD.wf f512 hDo hLo
        have eOh : (U.opened p).heap = U.heap ++ [(U.page + 1, U.takeP)] := by rw [eO]
        have hon := hop.on
        have hh12 : (U.opened p).heap.map (·.1) = ivI o (n + 1 - o) := by
          rw [eOh, List.map_append, hop.hh, show n + 1 - o = (n - o) + 1 by omega, ivI_succ]
          show _ ++ [U.page + 1] = _
          rw [hpg, show o + (n - o) = n by omega]
        have eOn : (U.opened p).nodes = U.nodes := by rw [eO]; exact (take_ch V (.hp (U.page + 1))).2.1.trans (by rw [eV])
        have eOc : (U.opened p).changed = U.changed := by rw [eO]; exact (take_ch V (.hp (U.page + 1))).1.trans (by rw [eV])
        have eOw : (U.opened p).waiting = U.waiting := by rw [eO]; exact (take_log V (.hp (U.page + 1))).2.2.1.trans (by rw [eV])
        have eOe : (U.opened p).evs.length = U.evs.length + 1 := by rw [eO]; exact (take_log V (.hp (U.page + 1))).2.2.2.2.trans (by rw [eVe])
        have hcl := hop.ch
        have hwl := hop.wt
        have eoo : ((U.opened p).heap.headD (0, 0)).1.toNat = o := by rw [(val_old hh12 hon).2.2.2.1]; exact Int.toNat_natCast o
        have enn : (U.page + 1).toNat = n := by omega
        have eopn : U.opn p = (U.opened p).turn p.fan o n (U.heap.map (·.1)) (U.nodes.map (·.1)) := by unfold Wx.opn; rw [eoo, enn]
        rw [eopn]
        have tw12 := t12.tw
        walk_at "qd"
        refine use_turn28 rfl rfl t12 ok tD12 hDo hLo hop.nd hh12 hon (by omega) (by rw [eOn]; exact hop.nd) (by rw [eOn]; exact hnl) (by omega) (by rw [eOc]; omega) (by rw [eOw]; omega) hop.wl fun H13 A13 vs13 t13 f13 => ?_
        exact ⟨A13, vs13, _, rfl, t13, (((WF.same gD).trans f512).trans f13)⟩
        -- HE
      · have hc : ¬ W.len p > (W.rowR p).left := of_decide_eq_false c
        have eH : W.rowH p = W.rowR p := by unfold Wx.rowH; rw [if_neg hc]
        rw [eH]
        exact ⟨A, _, _, rfl, t4, WF.refl⟩
    rintro σ' H5 ⟨A5, vs5, v6, rfl, t5, f5⟩
    obtain ⟨o, n, hcl⟩ := rw0.cl
    have ew5 : A5.w = A.w := f5.1.1
    have ep5 : A5.pa = A.pa := f5.1.2.1
    have ee5 : A5.ev = A.ev := f5.1.2.2
    have f25 := f24.trans f5
    clear f5 f24 t4 tw4
    rw [← ew5, ← ep5, ← ee5]
    have tw5 := t5.tw
    walk_at "qd"
    have eB : W.rowB p = (({ W.rowH p with left := (W.rowH p).left - W.len p } : Wx).mark (W.rowH p).newP).say "put" (W.rowH p).newP (.row W.rows) := rfl
    have hYp : (W.rowH p).page = (n : Int) := hcl.pg
    have hYh : (W.rowH p).heap.map (·.1) = ivI o (n + 1 - o) := hcl.hh
    have hYc : (cput (W.rowH p).changed (W.rowH p).newP).length ≤ 9000 := hcl.ch
    have hYe : (W.rowH p).evs.length + 1 ≤ 9000 := by have := hcl.ev; rw [eB] at this; simpa [Wx.say, Wx.mark] using this
    have hYd : (W.rowH p).changed.length ≤ (cput (W.rowH p).changed (W.rowH p).newP).length := by unfold cput; split <;> simp
    have hon := hcl.on
    obtain ⟨Y, eY⟩ : ∃ Y, Y = W.rowH p := ⟨_, rfl⟩
    rw [← eY] at eB hYp hYh hYc hYe hYd t5 tw5 ⊢
    have hYv := val_new hYh hon
    have hYL : Y.heap.length = n + 1 - o := by rw [← List.length_map (·.1), hYh, ivI_len]
    have hn8 := hcl.n8
    refine ⟨_, _, rfl, wp_any (A' := A5) (W' := { Y with left := Y.left - W.len p }) tw5 (by kernel_rfl), ?_⟩
    obtain ⟨t6, f6⟩ := t5.up (W' := { Y with left := Y.left - W.len p }) (vs' := vs5) 0 (o := .dK (wL A5 { Y with left := Y.left - W.len p })) rfl (fun _ z => nomatch z) rfl t5.ev
    generalize L2.upd H5 A5.w _ = H6 at t6 f6 ⊢
    have tw6 := t6.tw
    have hg6 : DGet H6 A5.he (.int Y.page) (some (.int Y.newP)) := by
      have := DGet.k (k := .inl Y.page) t6.the
      rw [show valV (({ Y with left := Y.left - W.len p } : Wx).heap.map hpE) (.inl Y.page) = some (.int Y.newP) by rw [hYp]; exact hYv] at this
      exact this
    walk_at "qd"
    refine ⟨_, _, rfl, hg6, ?_⟩
    walk_at "qd"
    refine use_mark28 rfl t6 (by show Y.changed.length ≤ 99000; omega) fun H7 t7 f7 => ?_
    have tw7 := t7.tw
    have hg7 : DGet H7 A5.he (.int Y.page) (some (.int Y.newP)) := by
      have := DGet.k (k := .inl Y.page) t7.the
      rw [show valV ((({ Y with left := Y.left - W.len p } : Wx).mark Y.newP).heap.map hpE) (.inl Y.page) = some (.int Y.newP) by rw [hYp]; exact hYv] at this
      exact this
    walk_at "qd"
    refine ⟨.inl ⟨rfl, _, SqL.of t7.tev⟩, ?_⟩
    walk_at "qd"
    refine ⟨_, _, rfl, hg7, ?_⟩
    walk_at "qd"
    intro b8 n8
    generalize eH8 : upd _ b8 _ = H8
    obtain ⟨g8, c8⟩ := gen_new n8 eH8
    clear eH8
    have t8 := t7.same g8
    have hev8 := t8.ev.len
    have hev8 : vs5.length = Y.evs.length := hev8
    refine ⟨_, _, _, rfl, rfl, t8.tev, szlt (by omega), ?_⟩
    obtain ⟨t9, f9⟩ := t8.up (W' := W.rowB p) (vs' := vs5 ++ [.ref b8]) 8 (o := .lst (vs5 ++ [.ref b8])) rfl (fun _ z => nomatch z) (by rw [eB]; rfl) (by rw [eB]; exact evs_snoc t8.ev (r := .row W.rows) rfl (fun z => nomatch z) c8)
    generalize L2.upd H8 A5.ev _ = H9 at t9 f9 ⊢
    have f29 := f25.trans (((f6.trans f7).trans (WF.same g8)).trans f9)
    clear hg6 hg7 t8 t7 t6 t5 tw5 tw6 tw7 f6 f7 f9 f25 c8 g8
    obtain ⟨B, eBB⟩ : ∃ B, B = W.rowB p := ⟨_, rfl⟩
    have eE : W.rowE p = (fun B : Wx => @ite _ (B.ends p) (Classical.propDecidable _) (B.cls p) B) B := by rw [eBB]; rfl
    have hBr : B.rows = W.rows := by rw [eBB, eB]; rw [eY]; exact rowH_rows W p
    rw [← eBB] at hcl t9
    have tw9 := t9.tw
    have the9 := t9.the
    refine ⟨_, rfl, ?_⟩
    refine ⟨_, _, rfl, wg_heap tw9, ?_⟩
    refine ⟨A5.he, B.heap.map hpE, ivI o (n + 1 - o), rfl, the9, ?_, ?_, fun m hm hmin => ?_⟩
    · rw [← hcl.hh, List.map_map, List.map_map]; rfl
    · intro z
      have := congrArg List.length z
      rw [ivI_len] at this
      simp only [List.length_nil] at this
      omega
    have hm : m = (o : Int) := by
      have h1 := hmin o (ivI_mem.mpr (by omega))
      rw [ivI_mem] at hm
      omega
    subst hm
    clear hmin
    obtain ⟨eh1, eh2, eh3, eh4, eh5⟩ := val_old hcl.hh hon
    have hBp := hcl.pg
    have hBe : B.ends p ↔ (W.rows : Int) ≥ p.keep ∧ (o : Int) < B.page ∧ B.firstOf ((o : Int) + 1) = (W.rows : Int) - p.keep + 1 := by unfold Wx.ends; rw [eh4, hBr]
    have hno : ¬ ((W.rows : Int) ≥ p.keep ∧ (o : Int) < B.page ∧ B.firstOf ((o : Int) + 1) = (W.rows : Int) - p.keep + 1) → WAt H9 A5 G p (W.rowE p) (vs5 ++ [.ref b8]) := fun z => by
      rw [eE]
      dsimp only
      rw [if_neg (fun y => z (hBe.mp y))]
      exact t9
    obtain ⟨l9, hp91, hp92⟩ := t9.pd'
    walk_at "qd"
    refine ⟨fun σ' H' => ∃ (A' : WAd) (vs' : List V) (v6 v7 : Option V), σ' = [some (.ref A5.w), some (.ref A5.pa), some (.int W.rows), some (.ref A5.ev), some (.int ((W.rows : Int) % p.every)), some (.int (W.len p)), v6, v7, none] ∧ WAt H' A' G p (W.rowE p) vs' ∧ WF A5 H9 A' H', ?_, ?_⟩
    · walk_at "qd"
      -- EB
      refine iteB (fun c1 => ?_) (fun c1 => ?_)
      · have c1 : p.keep ≤ (W.rows : Int) := of_decide_eq_true c1
        walk_at "qd"
        refine iteB (fun c2 => ?_) (fun c2 => ?_)
        · have c2 : (o : Int) < B.page := of_decide_eq_true c2
          have hgF : DGet H9 A5.fi (.int ((o : Int) + 1)) (some (.int (B.firstOf ((o : Int) + 1)))) := by
            have := DGet.k (k := .inl ((o : Int) + 1)) t9.tfi
            rw [val_first (by rw [hcl.fk, ivI_mem]; omega)] at this
            exact this
          walk_at "qd"
          refine ⟨_, _, rfl, hgF, ?_⟩
          walk_at "qd"
          refine iteB (fun c3 => ?_) (fun c3 => ?_)
          · have c3 : B.firstOf ((o : Int) + 1) = (W.rows : Int) - p.keep + 1 := by
              have c3 := of_decide_eq_true c3
              injection c3
            have eEc : W.rowE p = B.cls p := by
              rw [eE]
              dsimp only
              rw [if_pos (hBe.mpr ⟨c1, c2, c3⟩)]
            rw [eEc]
            have hBl : B.heap.length = n + 1 - o := by rw [← List.length_map (·.1), hcl.hh, ivI_len]
            have hnl := hcl.nl
            have hev := hcl.ev
            have hch := hcl.ch
            have hwt := hcl.wt
            have hel9 := t9.ev.len
            walk_at "qd"
            refine use_tell28 rfl t9 ok (by omega) (by omega) (by rw [hcl.hh]; exact ivI_srt _ _) hcl.nd fun D H10 L ms nD gD tD fD => ?_
            have t10 := t9.same gD
            have tw10 := t10.tw
            walk_at "qd"
            refine ⟨.inl ⟨_, .inl t10.the⟩, ?_⟩
            walk_at "qd"
            refine ⟨_, .inl (o : Int), .int (B.heap.headD (0, 0)).2, t10.the, rfl, eh1, ?_⟩
            rw [eh2]
            obtain ⟨t11, f11⟩ := t10.up (W' := { B with heap := B.heap.tail }) (vs' := vs5 ++ [.ref b8]) 2 (o := .dK (B.heap.tail.map hpE)) rfl (fun _ z => nomatch z) rfl t10.ev
            generalize L2.upd H10 A5.he _ = H11 at t11 f11 ⊢
            have tw11 := t11.tw
            walk_at "qd"
            intro bt n12
            generalize eH12 : upd _ bt _ = H12
            obtain ⟨g12, c12⟩ := gen_new n12 eH12
            clear eH12
            have t12 := t11.same g12
            walk_at "qd"
            refine use_give28 (r := .hp (o : Int)) rfl rfl t12 ⟨bt, rfl, c12⟩ (fun z => nomatch z) (by omega) (by show B.changed.length ≤ 99000; omega) (by show B.waiting.length ≤ 99000; omega) fun H13 A13 vs13 t13 f13 => ?_
            have eC : B.closed = ({ B with heap := B.heap.tail } : Wx).give (B.heap.headD (0, 0)).2 (.hp (o : Int)) := by unfold Wx.closed; rw [eh4]
            rw [← eC] at t13
            have f1013 : WF A5 H10 A13 H13 := (f11.trans (WF.same g12)).trans f13
            have hDo := (t9.fresh nD).1
            have hLo : ∀ e ∈ L, e.2 ∉ A5.own := fun e he => (t9.fresh (fD e he)).1
            have tD13 := tD.wf f1013 hDo hLo
            have hDo3 : D ∉ A13.own := fun z => (f1013.2.2.1 D z).elim hDo fun w => by rw [tD.d] at w; cases w
            have hLo3 : ∀ e ∈ L, e.2 ∉ A13.own := fun e he z => (f1013.2.2.1 _ z).elim (hLo e he) fun w => by rw [tD.c e he] at w; cases w
            have k1 : B.closed.nodes = B.nodes := rfl
            have k2 : B.closed.heap = B.heap.tail := rfl
            have k3 : B.closed.changed.length ≤ B.changed.length := List.length_filter_le _ _
            have k4 : B.closed.waiting.length = B.waiting.length + 1 := by rw [eC]; simp [Wx.give, Wx.say]
            have k5 : B.closed.evs.length = B.evs.length + 1 := by rw [eC]; simp [Wx.give, Wx.say]
            have ecl : B.cls p = B.closed.turn p.fan (o + 1) n (B.heap.map (·.1)) (B.nodes.map (·.1)) := by
              unfold Wx.cls
              rw [eh4, hBp, show ((o : Int) + 1).toNat = o + 1 by omega, show ((n : Nat) : Int).toNat = n by omega]
            rw [ecl]
            walk_at "qd"
            refine use_turn28 f1013.1.1.symm f1013.1.2.2.symm t13 ok tD13 hDo3 hLo3 hcl.nd (by rw [k2, eh3]; congr 1; omega) (by omega) (by omega) (by rw [k1]; exact hcl.nd) (by rw [k1]; exact hnl) (by omega) (by omega) (by omega) (hcl.wl (by omega)) fun H14 A14 vs14 t14 f14 => ?_
            exact ⟨A14, vs14, _, _, rfl, t14, ((WF.same gD).trans f1013).trans f14⟩
          · have c3 : ¬ B.firstOf ((o : Int) + 1) = (W.rows : Int) - p.keep + 1 := fun z => (of_decide_eq_false c3) (congrArg V.int z)
            walk_at "qd"
            exact ⟨A5, _, _, _, rfl, hno (fun z => c3 z.2.2), WF.refl⟩
        · have c2 : ¬ (o : Int) < B.page := of_decide_eq_false c2
          walk_at "qd"
          exact ⟨A5, _, _, _, rfl, hno (fun z => c2 z.2.1), WF.refl⟩
      · have c1 : ¬ p.keep ≤ (W.rows : Int) := of_decide_eq_false c1
        walk_at "qd"
        exact ⟨A5, _, _, _, rfl, hno (fun z => c1 z.1), WF.refl⟩
      -- EE
    rintro σ' H10 ⟨A6, vs6, v6', v7, rfl, t10, f10⟩
    have ew6 : A6.w = A5.w := f10.1.1
    have ep6 : A6.pa = A5.pa := f10.1.2.1
    have ee6 : A6.ev = A5.ev := f10.1.2.2
    have f2a := f29.trans f10
    clear f10 t9 tw9 the9 f29 hno hBe eE eh1 eh2 eh3 eh4 eh5 hcl
    rw [← ew6, ← ep6, ← ee6]
    have tw10 := t10.tw
    obtain ⟨l10, hp101, hp102⟩ := t10.pd'
    walk_at "qd"
    have hE1 := rw0.ec
    have hE2 := rw0.ew
    have hE3 := rw0.eg
    have hE4 := rw0.ei
    have hE5 := rw0.ee
    have hEr : (W.rowE p).rows = W.rows := rowE_rows W p
    have eR : W.row p = (fun E : Wx => if (W.rows + 1) % p.every.toNat = 0 then ({ E with rows := W.rows + 1 } : Wx).sync else { E with rows := W.rows + 1 }) (W.rowE p) := rfl
    rw [eR] at k
    clear eR
    generalize W.rowE p = E1 at t10 hE1 hE2 hE3 hE4 hE5 hEr k tw10
    dsimp only at k
    refine ⟨_, _, rfl, wp_any (A' := A6) (W' := { E1 with rows := W.rows + 1 }) tw10 (by kernel_rfl), ?_⟩
    obtain ⟨t11, f11⟩ := t10.up (W' := { E1 with rows := W.rows + 1 }) (vs' := vs6) 0 (o := .dK (wL A6 { E1 with rows := W.rows + 1 })) rfl (fun _ z => nomatch z) rfl t10.ev
    generalize L2.upd H10 A6.w _ = H11 at t11 f11 ⊢
    have f2b := f2a.trans f11
    clear f2a f11 t10 tw10 hp101 hp102
    have tw11 := t11.tw
    obtain ⟨l11, hp111, hp112⟩ := t11.pd'
    have em4 : ((W.rows : Int) + 1) % p.every = (((W.rows + 1) % p.every.toNat : Nat) : Int) := by rw [← ee]; exact (Int.natCast_emod _ _).symm
    walk_at "qd"
    refine ⟨fun σ' H' => ∃ (A' : WAd) (e : Addr) (vs' : List V) (v8 : Option V), σ' = [some (.ref A6.w), some (.ref A6.pa), some (.int W.rows), some (.ref e), some (.int ((W.rows : Int) % p.every)), some (.int (W.len p)), v6', v7, v8] ∧ WR H' A' G p (if (W.rows + 1) % p.every.toNat = 0 then ({ E1 with rows := W.rows + 1 } : Wx).sync else { E1 with rows := W.rows + 1 }) ∧ H' e = some (.lst vs') ∧ EvsAt H' vs' (if (W.rows + 1) % p.every.toNat = 0 then ({ E1 with rows := W.rows + 1 } : Wx).sync else { E1 with rows := W.rows + 1 }).evs ∧ FR A0 H A' H', ?_, ?_⟩
    · walk_at "qd"
      refine iteB (fun c => ?_) (fun c => ?_)
      rotate_left
      · have hc : ¬ (W.rows + 1) % p.every.toNat = 0 := fun z => by
          have c := of_decide_eq_false c
          refine c (congrArg V.int ?_)
          show ((W.rows : Int) + 1) % p.every = 0
          rw [em4, z]
          rfl
        rw [if_neg hc]
        exact ⟨A6, _, vs6, _, rfl, t11.cls, t11.tev, t11.ev, hfr f2b⟩
      have hc : (W.rows + 1) % p.every.toNat = 0 := by
        have c := of_decide_eq_true c
        injection c with c
        rw [em4] at c
        omega
      rw [if_pos hc]
      clear c hc em4
      have hel := t11.ev.len
      have hel : vs6.length = E1.evs.length := hel
      walk_at "qd"
      refine ⟨_, E1.changed, rfl, SqL.of t11.tch, fun ys q12 H12 pm pw n12 g12 c12 => ?_⟩
      obtain rfl := sortI_eq pm pw
      clear pm pw
      have hyl : (sortI E1.changed).length = E1.changed.length := (sortI_perm _).length_eq
      refine ⟨_, rfl, ⟨_, SqL.of c12⟩, ?_⟩
      intro Da nDa
      refine lc_list (xs := (sortI E1.changed).map V.int) (fun j F => ∃ us, F Da = some (.lst us) ∧ EvsAt F us (((sortI E1.changed).take j).map fun q => (⟨"write", q, .no⟩ : Ev)) ∧ (∀ b o, b ≠ Da → H12 b = some o → F b = some o)) ⟨[], upd_same, .nil, fun b o nb h => by rw [upd_ne nb]; exact h⟩ ?_ ?_ ?_
      · rintro j F _ ⟨us, _, _, fz⟩
        exact SqL.of (fz _ _ (ne_of_none c12 nDa) c12)
      · rintro j y F hy ⟨us, d1, ev, fz⟩
        obtain ⟨z, hz, rfl⟩ := map_some hy
        have etk : (sortI E1.changed).take (j + 1) = (sortI E1.changed).take j ++ [z] := by rw [List.take_succ, hz]; rfl
        refine ⟨rfl, ?_⟩
        walk_at "qd"
        intro bt nt
        generalize eF2 : upd _ bt _ = F2
        obtain ⟨gt, ct⟩ := gen_new nt eF2
        clear eF2
        have hul := ev.len
        rw [List.length_map, List.length_take] at hul
        have dt2 := gt _ _ d1
        have tp : TP F2 (L2.upd F2 Da (.lst (us ++ [.ref bt]))) := TP.upd dt2 (fun _ z => nomatch z)
        refine ⟨us, dt2, szlt (by omega), us ++ [.ref bt], upd_same, ?_, ?_⟩
        · rw [etk, List.map_append]
          exact ((ev.tp gt.tp).tp tp).snoc ⟨bt, .non, rfl, rfl, tp _ _ ct⟩
        · intro b o nb h
          rw [upd_ne nb]; exact gt _ _ (fz b o nb h)
      rintro Fa ⟨usa, dua, eua, fza⟩
      rw [List.length_map, List.take_length] at eua
      have sa : Same H12 Fa := fun b o h => fza b o (ne_of_none h nDa) h
      have t13 := (t11.same g12).same sa
      have tw13 := t13.tw
      have hal := eua.len
      rw [List.length_map] at hal
      refine use_cat (SqL.of t13.tev) (SqL.of dua) (by omega) fun q14 H14 n14 g14 c14 => ?_
      have t14 := t13.same g14
      have tw14 := t14.tw
      have e14 := (eua.tp g14.tp).app t14.ev
      have e14 : EvsAt H14 (vs6 ++ usa) (E1.evs ++ (sortI E1.changed).map fun q => (⟨"write", q, .no⟩ : Ev)) := e14
      clear dua eua fza
      walk_at "qd"
      refine use_cat (SqL.of t14.twa) (SqL.of t14.tlo) (by rw [List.length_map, List.length_map]; show E1.waiting.length + E1.log.length ≤ _; omega) fun q15 H15 n15 g15 c15 => ?_
      rw [← List.map_append] at c15
      have c15 : H15 q15 = some (.lst ((E1.waiting ++ E1.log).map V.int)) := c15
      have hwl : (E1.waiting ++ E1.log).length ≤ 18000 := by rw [List.length_append]; omega
      refine ⟨_, rfl, ⟨_, SqL.of c15⟩, ?_⟩
      intro Db nDb
      refine lc_list (xs := (E1.waiting ++ E1.log).map V.int) (fun j F => ∃ us, F Db = some (.lst us) ∧ EvsAt F us (((E1.waiting ++ E1.log).take j).map fun q => (⟨"free", q, .no⟩ : Ev)) ∧ (∀ b o, b ≠ Db → H15 b = some o → F b = some o)) ⟨[], upd_same, .nil, fun b o nb h => by rw [upd_ne nb]; exact h⟩ ?_ ?_ ?_
      · rintro j F _ ⟨us, _, _, fz⟩
        exact SqL.of (fz _ _ (ne_of_none c15 nDb) c15)
      · rintro j y F hy ⟨us, d1, ev, fz⟩
        obtain ⟨z, hz, rfl⟩ := map_some hy
        have etk : (E1.waiting ++ E1.log).take (j + 1) = (E1.waiting ++ E1.log).take j ++ [z] := by rw [List.take_succ, hz]; rfl
        refine ⟨rfl, ?_⟩
        walk_at "qd"
        intro bt nt
        generalize eF2 : upd _ bt _ = F2
        obtain ⟨gt, ct⟩ := gen_new nt eF2
        clear eF2
        have hul := ev.len
        rw [List.length_map, List.length_take] at hul
        have dt2 := gt _ _ d1
        have tp : TP F2 (L2.upd F2 Db (.lst (us ++ [.ref bt]))) := TP.upd dt2 (fun _ z => nomatch z)
        refine ⟨us, dt2, szlt (by omega), us ++ [.ref bt], upd_same, ?_, ?_⟩
        · rw [etk, List.map_append]
          exact ((ev.tp gt.tp).tp tp).snoc ⟨bt, .non, rfl, rfl, tp _ _ ct⟩
        · intro b o nb h
          rw [upd_ne nb]; exact gt _ _ (fz b o nb h)
      rintro Fb ⟨usb, dub, eub, fzb⟩
      rw [List.length_map, List.take_length] at eub
      have sb : Same H15 Fb := fun b o h => fzb b o (ne_of_none h nDb) h
      have t16 := (t14.same g15).same sb
      have tw16 := t16.tw
      have hbl := eub.len
      rw [List.length_map] at hbl
      refine use_cat (SqL.of (sb _ _ (g15 _ _ c14))) (SqL.of dub) (by rw [List.length_append]; omega) fun q17 H17 n17 g17 c17 => ?_
      have t17 := t16.same g17
      have tw17 := t17.tw
      have e17 := (eub.tp g17.tp).app (((e14.tp g15.tp).tp sb.tp).tp g17.tp)
      clear dub eub fzb
      walk_at "qd"
      have hli : SqL K H17 A6.li (E1.list.map V.int) := SqL.of t17.tli
      refine use_cat (SqL.of t17.tli) (SqL.of t17.twa) (by rw [List.length_map, List.length_map]; show E1.list.length + E1.waiting.length ≤ _; omega) fun q18 H18 n18 g18 c18 => ?_
      rw [← List.map_append] at c18
      have c18 : H18 q18 = some (.lst ((E1.list ++ E1.waiting).map V.int)) := c18
      have t18 := t17.same g18
      have tw18 := t18.tw
      walk_at "qd"
      refine use_cat (SqL.of c18) (SqL.of t18.tlo) (by rw [List.length_map, List.length_map, List.length_append]; show E1.list.length + E1.waiting.length + E1.log.length ≤ _; omega) fun q19 H19 n19 g19 c19 => ?_
      rw [← List.map_append] at c19
      have c19 : H19 q19 = some (.lst ((E1.list ++ E1.waiting ++ E1.log).map V.int)) := c19
      have tw19 := (t18.same g19).tw
      have f19 : WF A H1 A6 H18 := f2b.trans (WF.same ((((((g12.trans sa).trans g14).trans g15).trans sb).trans g17).trans g18))
      walk_at "qd"
      refine ⟨_, _, rfl, wp_any (A' := { A6 with li := q19 }) (W' := { E1 with rows := W.rows + 1, list := E1.list ++ E1.waiting ++ E1.log }) tw19 (by kernel_rfl), ?_⟩
      obtain ⟨t20, f20⟩ := t18.re n19 g19 c19 (A' := { A6 with li := q19 }) (W' := { E1 with rows := W.rows + 1, list := E1.list ++ E1.waiting ++ E1.log }) 5 ⟨rfl, rfl, rfl⟩ rfl rfl rfl
      have nq17 : q17 ∉ A6.own := (t16.fresh n17).1
      have c20 := f20.2.1 _ _ nq17 (g18 _ _ c17)
      have e20 := (e17.tp g18.tp).tp f20.2.2.2
      generalize L2.upd H19 A6.w _ = H20 at t20 f20 c20 e20 ⊢
      have nqw : q17 ≠ A6.w := fun z => nq17 (by rw [z]; exact List.mem_cons_self)
      have ew7 : ({ A6 with li := q19 } : WAd).w = A6.w := rfl
      generalize ({ A6 with li := q19 } : WAd) = A7 at t20 f20 ew7
      rw [← ew7] at nqw ⊢
      have fE := f19.trans f20
      clear t18 t17 t16 t14 t13 tw18 tw17 tw16 tw14 tw13 tw19 c19 c18 c17 c15 c14 c12 e14 e17 f19 f20 t11 tw11 hp111 hp112 hli
      have tw20 := t20.tw
      walk_at "qd"
      intro x1 m1
      generalize eK1 : upd _ x1 _ = K1
      obtain ⟨s1, k1⟩ := gen_new m1 eK1
      clear eK1
      walk_at "qd"
      intro x2 m2
      generalize eK2 : upd _ x2 _ = K2
      obtain ⟨s2, k2⟩ := gen_new m2 eK2
      clear eK2
      walk_at "qd"
      intro x3 m3
      generalize eK3 : upd _ x3 _ = K3
      obtain ⟨s3, k3⟩ := gen_new m3 eK3
      clear eK3
      walk_at "qd"
      intro bt m4
      generalize eK4 : upd _ bt _ = K4
      obtain ⟨s4, k4⟩ := gen_new m4 eK4
      clear eK4
      obtain ⟨hx1, gx1⟩ := t20.fresh m1
      have t21 := t20.same s1
      obtain ⟨hx2, gx2⟩ := t21.fresh m2
      have t22 := t21.same s2
      obtain ⟨hx3, gx3⟩ := t22.fresh m3
      have t24 := (t22.same s3).same s4
      have f21 := fE.trans (WF.same (A := A7) s1)
      have f22 := f21.trans (WF.same (A := A7) s2)
      have f24 := f22.trans (WF.same (A := A7) (s3.trans s4))
      have z1 := fE.new m1
      have z2 := f21.new m2
      have z3 := f22.new m3
      have n12' : x2 ≠ x1 := (ne_of_none k1 m2).symm
      have n13' : x3 ≠ x1 := (ne_of_none (s2 _ _ k1) m3).symm
      have n23' : x3 ≠ x2 := (ne_of_none k2 m3).symm
      have y1 := s4 _ _ (s3 _ _ (s2 _ _ k1))
      have y2 := s4 _ _ (s3 _ _ k2)
      have y3 := s4 _ _ k3
      have c24 := s4 _ _ (s3 _ _ (s2 _ _ (s1 _ _ c20)))
      have e24 := (((e20.tp s1.tp).tp s2.tp).tp s3.tp).tp s4.tp
      have w2 : x2 ≠ A7.w := fun z => hx2 (by rw [z]; exact List.mem_cons_self)
      have w3 : x3 ≠ A7.w := fun z => hx3 (by rw [z]; exact List.mem_cons_self)
      clear t20 t21 t22 fE f21 f22 k1 k2 k3 c20 e20 s1 s2 s3 s4 m1 m2 m3 tw20
      have tw24 := t24.tw
      walk_at "qd"
      refine ⟨_, _, rfl, wp_any (A' := { A7 with ch := x1 }) (W' := { E1 with rows := W.rows + 1, list := E1.list ++ E1.waiting ++ E1.log, changed := [] }) tw24 (by kernel_rfl), ?_⟩
      obtain ⟨t25, f25⟩ := t24.re2 f24 hx1 gx1 z1 y1 (A' := { A7 with ch := x1 }) (W' := { E1 with rows := W.rows + 1, list := E1.list ++ E1.waiting ++ E1.log, changed := [] }) 6 ⟨rfl, rfl, rfl⟩ rfl rfl rfl
      have tp5 : TP K4 (L2.upd K4 A7.w (.dK (wL { A7 with ch := x1 } { E1 with rows := W.rows + 1, list := E1.list ++ E1.waiting ++ E1.log, changed := [] }))) := TP.upd tw24 fun _ z => nomatch z
      have y2 := (upd_ne w2 (H := K4) (o := .dK (wL { A7 with ch := x1 } { E1 with rows := W.rows + 1, list := E1.list ++ E1.waiting ++ E1.log, changed := [] }))).trans y2
      have y3 := (upd_ne w3 (H := K4) (o := .dK (wL { A7 with ch := x1 } { E1 with rows := W.rows + 1, list := E1.list ++ E1.waiting ++ E1.log, changed := [] }))).trans y3
      have c24 := (upd_ne nqw (H := K4) (o := .dK (wL { A7 with ch := x1 } { E1 with rows := W.rows + 1, list := E1.list ++ E1.waiting ++ E1.log, changed := [] }))).trans c24
      have e24 := e24.tp tp5
      clear tp5 t24 tw24 f24
      generalize L2.upd K4 A7.w _ = K5 at t25 f25 y2 y3 c24 e24 ⊢
      have hx2 : x2 ∉ ({ A7 with ch := x1 } : WAd).own := fun z => set_out (l := A7.own) (i := 7) (a := x1) z hx2 n12'
      have hx3 : x3 ∉ ({ A7 with ch := x1 } : WAd).own := fun z => set_out (l := A7.own) (i := 7) (a := x1) z hx3 n13'
      have ew8 : ({ A7 with ch := x1 } : WAd).w = A7.w := rfl
      generalize ({ A7 with ch := x1 } : WAd) = A8 at t25 f25 hx2 hx3 ew8
      rw [← ew8] at w3 nqw ⊢
      have tw25 := t25.tw
      walk_at "qd"
      refine ⟨_, _, rfl, wp_any (A' := { A8 with wa := x2 }) (W' := { E1 with rows := W.rows + 1, list := E1.list ++ E1.waiting ++ E1.log, changed := [], waiting := [] }) tw25 (by kernel_rfl), ?_⟩
      obtain ⟨t26, f26⟩ := t25.re2 f25 hx2 gx2 z2 y2 (A' := { A8 with wa := x2 }) (W' := { E1 with rows := W.rows + 1, list := E1.list ++ E1.waiting ++ E1.log, changed := [], waiting := [] }) 4 ⟨rfl, rfl, rfl⟩ rfl rfl rfl
      have tp6 : TP K5 (L2.upd K5 A8.w (.dK (wL { A8 with wa := x2 } { E1 with rows := W.rows + 1, list := E1.list ++ E1.waiting ++ E1.log, changed := [], waiting := [] }))) := TP.upd tw25 fun _ z => nomatch z
      have y3 := (upd_ne w3 (H := K5) (o := .dK (wL { A8 with wa := x2 } { E1 with rows := W.rows + 1, list := E1.list ++ E1.waiting ++ E1.log, changed := [], waiting := [] }))).trans y3
      have c24 := (upd_ne nqw (H := K5) (o := .dK (wL { A8 with wa := x2 } { E1 with rows := W.rows + 1, list := E1.list ++ E1.waiting ++ E1.log, changed := [], waiting := [] }))).trans c24
      have e24 := e24.tp tp6
      clear tp6 t25 tw25 f25
      generalize L2.upd K5 A8.w _ = K6 at t26 f26 y3 c24 e24 ⊢
      have hx3 : x3 ∉ ({ A8 with wa := x2 } : WAd).own := fun z => set_out (l := A8.own) (i := 5) (a := x2) z hx3 n23'
      have ew9 : ({ A8 with wa := x2 } : WAd).w = A8.w := rfl
      generalize ({ A8 with wa := x2 } : WAd) = A9 at t26 f26 hx3 ew9
      rw [← ew9] at nqw ⊢
      have tw26 := t26.tw
      walk_at "qd"
      refine ⟨_, _, rfl, wp_any (A' := { A9 with lo := x3 }) (W' := { E1 with rows := W.rows + 1, list := E1.list ++ E1.waiting ++ E1.log, changed := [], waiting := [], log := [] }) tw26 (by kernel_rfl), ?_⟩
      obtain ⟨t27, f27⟩ := t26.re2 f26 hx3 gx3 z3 y3 (A' := { A9 with lo := x3 }) (W' := { E1 with rows := W.rows + 1, list := E1.list ++ E1.waiting ++ E1.log, changed := [], waiting := [], log := [] }) 3 ⟨rfl, rfl, rfl⟩ rfl rfl rfl
      have tp7 : TP K6 (L2.upd K6 A9.w (.dK (wL { A9 with lo := x3 } { E1 with rows := W.rows + 1, list := E1.list ++ E1.waiting ++ E1.log, changed := [], waiting := [], log := [] }))) := TP.upd tw26 fun _ z => nomatch z
      have c24 := (upd_ne nqw (H := K6) (o := .dK (wL { A9 with lo := x3 } { E1 with rows := W.rows + 1, list := E1.list ++ E1.waiting ++ E1.log, changed := [], waiting := [], log := [] }))).trans c24
      have e24 := e24.tp tp7
      generalize L2.upd K6 A9.w _ = K7 at t27 f27 c24 e24 ⊢
      walk_at "qd"
      have tR := t27.cls
      exact ⟨{ A9 with lo := x3 }, q17, _, _, rfl, ⟨tR.at_, tR.nd, tR.pd, tR.g, tR.gn⟩, c24, e24, hfr f27⟩
    rintro σ' H12 ⟨A7, e, vs7, v8, rfl, t12, c12, e12, f12⟩
    walk_at "qd"
    exact k H12 A7 e vs7 t12 c12 e12 f12

/-! ### the law: events as data -/
theorem ofs_ok28 (s : String) : PyData.strOk (Str.ofString s) = true := by
  unfold PyData.strOk
  rw [PySem.Str.ofString_eq_toList]
  show ((s.toList.map Char.toNat).toArray.all fun c => decide (c < 0x110000)) = true
  rw [List.all_toArray, List.all_eq_true]
  intro x hx
  obtain ⟨c, _, rfl⟩ := List.mem_map.mp hx
  refine decide_eq_true ?_
  have h : c.toNat < 0xd800 ∨ (0xdfff < c.toNat ∧ c.toNat < 0x110000) := c.valid
  omega
def Grow (S T : Sx) : Prop := ∃ es, T.evs = S.evs ++ es ∧ ∀ e ∈ es, PyData.strOk e.kind = true
theorem Grow.refl {S T : Sx} (h : T.evs = S.evs) : Grow S T := ⟨[], by rw [h, List.append_nil], fun e he => nomatch he⟩
theorem Grow.trans {S T U : Sx} (h : Grow S T) (k : Grow T U) : Grow S U := by
  obtain ⟨es, h1, h3⟩ := h
  obtain ⟨fs, k1, k3⟩ := k
  refine ⟨es ++ fs, by rw [k1, h1, List.append_assoc], fun e he => ?_⟩
  rcases List.mem_append.mp he with z | z
  · exact h3 e z
  · exact k3 e z
theorem grow_ev {S T : Sx} (k : Str) (p : Int) (r : Ro) (he : T.evs = S.evs ++ [⟨k, p, r⟩]) (hk : PyData.strOk k = true) : Grow S T := ⟨_, he, fun e h => by rw [List.mem_singleton.mp h]; exact hk⟩
theorem grow_begin1 (S : Sx) (k : NK) : Grow S (S.begin1 k) := by
  have e : S.begin1 k = ({ S.takeS (.nd k.1 k.2) with nodes := aput S.nodes k S.takeP } : Sx).change k := rfl
  have e2 := (change_same ({ S.takeS (.nd k.1 k.2) with nodes := aput S.nodes k S.takeP } : Sx) k).2.2.2.2.2.2.2
  rw [← e] at e2
  exact grow_ev "take" S.takeP (.nd k.1 k.2) (by rw [e2]; exact take_evl S _) (ofs_ok28 _)
theorem grow_begins : ∀ (l : List NK) (S : Sx), Grow S (l.foldl Sx.begin1 S)
  | [], S => .refl rfl
  | k :: l, S => (grow_begin1 S k).trans (grow_begins l (S.begin1 k))
theorem grow_end1 (S : Sx) (k : NK) : Grow S (S.end1 k) := grow_ev "give" _ (.nd k.1 k.2) rfl (ofs_ok28 _)
theorem grow_ends : ∀ (l : List NK) (S : Sx), Grow S (l.foldl Sx.end1 S)
  | [], S => .refl rfl
  | k :: l, S => (grow_end1 S k).trans (grow_ends l (S.end1 k))
theorem grow_beginPage (S : Sx) (f : Nat) : Grow S (S.beginPage f) := by
  unfold Sx.beginPage
  dsimp only
  generalize begunL f S.oldest (S.oldest + S.heap.length) S.top S.nodes (rlv f S.oldest (S.oldest + S.heap.length) + 1) = bg
  generalize (rlv f S.oldest (S.oldest + S.heap.length) : Nat) = lv
  generalize ((0 : Int), (((S.oldest + S.heap.length) / f : Nat) : Int)) = k0
  generalize ((S.oldest + S.heap.length : Nat) : Int) = n
  have h1 : Grow S ({ ({ S.takeS (.hp n) with heap := S.heap ++ [S.takeP] } : Sx).mark S.takeP with top := (lv : Int) } : Sx) := grow_ev "take" S.takeP (.hp n) (take_evl S _) (ofs_ok28 _)
  refine (h1.trans (grow_begins bg _)).trans (.refl ?_)
  rw [changes_evs]
  exact (change_same _ k0).2.2.2.2.2.2.2
theorem grow_endPage (S : Sx) (f : Nat) : Grow S (S.endPage f) := by
  unfold Sx.endPage
  dsimp only
  generalize S.endLv f = lv
  generalize endedL f S.oldest S.nodes lv = ed
  generalize ((0 : Int), ((S.oldest / f : Nat) : Int)) = k0
  have h1 : Grow S ({ ({ S with heap := S.heap.tail } : Sx).give (S.heap.headD 0) (.hp (S.oldest : Int)) with oldest := S.oldest + 1, top := lv } : Sx) := grow_ev "give" (S.heap.headD 0) (.hp (S.oldest : Int)) rfl (ofs_ok28 _)
  refine (h1.trans (grow_ends (sortP ed) _)).trans (.refl ?_)
  rw [changes_evs]
  exact (change_same _ k0).2.2.2.2.2.2.2
theorem grow_writes : ∀ (l : List Int) (S : Sx), Grow S (l.foldl (fun T p => T.ev "write" p .no) S)
  | [], S => .refl rfl
  | q :: l, S => (grow_ev "write" q .no (T := S.ev "write" q .no) rfl (ofs_ok28 _)).trans (grow_writes l _)
theorem grow_frees : ∀ (l : List Int) (S : Sx), Grow S (l.foldl Sx.free1 S)
  | [], S => .refl rfl
  | q :: l, S => (grow_ev "free" q .no (T := S.free1 q) rfl (ofs_ok28 _)).trans (grow_frees l _)
theorem grow_checkpoint (S : Sx) : Grow S S.checkpoint := by
  unfold Sx.checkpoint
  dsimp only
  have h1 := grow_writes (sortI S.changed) S
  generalize (sortI S.changed).foldl (fun T p => T.ev "write" p .no) S = S1 at h1 ⊢
  have h2 : Grow S ({ S1 with changed := [] } : Sx) := h1.trans (.refl rfl)
  exact (h2.trans (grow_frees (S.waiting ++ S.log) _)).trans (.refl rfl)
theorem grow_rowL (S : Sx) (p : Prt) : Grow S (S.rowL p) := by
  unfold Sx.rowL
  split
  · exact grow_ev "take" S.takeP _ (take_evl S _) (ofs_ok28 _)
  · exact .refl rfl
theorem step_evs (S : Sx) (p : Prt) : (S.step p).evs ≠ [] ∧ ∀ e ∈ (S.step p).evs, PyData.strOk e.kind = true := by
  obtain ⟨T, eT⟩ : ∃ T : Sx, T = { S with evs := [] } := ⟨_, rfl⟩
  have e0 : T.evs = [] := by rw [eT]
  have es : S.step p = T.putRow p := by rw [eT]; rfl
  have g1 := grow_rowL T p
  have g2 : Grow (T.rowL p) (T.rowR p) := grow_ev "record" _ _ rfl (ofs_ok28 _)
  have n2 : (T.rowR p).evs ≠ [] := by unfold Sx.rowR Sx.ev; simp
  have g3 : Grow (T.rowR p) (T.rowH p) := by
    unfold Sx.rowH
    split
    · exact grow_beginPage _ _
    · exact .refl rfl
  have g4 : Grow (T.rowH p) (T.rowB p) := grow_ev "put" ((T.rowH p).heap.getLastD 0) (.row T.done) rfl (ofs_ok28 _)
  have g5 : Grow (T.rowB p) (T.rowE p) := by
    unfold Sx.rowE
    split
    · exact grow_endPage _ _
    · exact .refl rfl
  have g6 : Grow (T.rowE p) (T.putRow p) := by
    unfold Sx.putRow
    split
    · exact (Grow.refl (T := ({ T.rowE p with done := T.done + 1 } : Sx)) rfl).trans (grow_checkpoint _)
    · exact .refl rfl
  have gA := (((g3.trans g4).trans g5).trans g6)
  rw [es]
  refine ⟨?_, ?_⟩
  · obtain ⟨x, h1, _⟩ := gA
    rw [h1]
    simp [n2]
  · obtain ⟨x, h1, h2⟩ := (g1.trans g2).trans gA
    rw [h1, e0, List.nil_append]
    exact h2
def roD : Ro → PyData
  | .no => .none
  | .row i => .int i
  | .hp n => .tuple [.str "heap", .int n]
  | .nd l n => .tuple [.str "node", .int l, .int n]
  | .lg n => .tuple [.str "log", .int n]
def evD (e : Ev) : PyData := match e.ro with
  | .no => .tuple [.str e.kind, .int e.page]
  | r => .tuple [.str e.kind, .int e.page, roD r]
theorem rov_dp {K : PySem.W.Frag} {H : Hp} {v : V} : ∀ {r : Ro}, RoV H v r → Dp K H v (roD r)
  | .no, h => by cases h; exact .non
  | .row i, h => by cases h; exact .int i
  | .hp n, ⟨q, e, h⟩ => by rw [e]; exact .tup (SqT.of h) (.cons (.str _) (.cons (.int _) .nil))
  | .nd l n, ⟨q, e, h⟩ => by rw [e]; exact .tup (SqT.of h) (.cons (.str _) (.cons (.int _) (.cons (.int _) .nil)))
  | .lg n, ⟨q, e, h⟩ => by rw [e]; exact .tup (SqT.of h) (.cons (.str _) (.cons (.int _) .nil))
theorem ev_dp {K : PySem.W.Frag} {H : Hp} {v : V} {e : Ev} (h : EvAt H v e) : Dp K H v (evD e) := by
  obtain ⟨t, rv, rfl, hr, ht⟩ := h
  obtain ⟨k, pg, r⟩ := e
  cases r with
  | no => exact .tup (SqT.of ht) (.cons (.str _) (.cons (.int _) .nil))
  | _ => exact .tup (SqT.of ht) (.cons (.str _) (.cons (.int _) (.cons (rov_dp hr) .nil)))
theorem evs_dp {K : PySem.W.Frag} {H : Hp} {vs : List V} {es : List Ev} (h : EvsAt H vs es) : DpAll K H vs (es.map evD) := by
  induction h with
  | nil => exact .nil
  | cons a _ ih => exact .cons (ev_dp a) ih
theorem evs_nb : ∀ es : List Ev, (∀ e ∈ es, PyData.strOk e.kind = true) → nbA (es.map evD) = true ∧ PyData.depthAll (es.map evD) ≤ 2
  | [], _ => ⟨rfl, by show 0 ≤ 2; decide⟩
  | e :: es, h => by
    obtain ⟨h1, h2⟩ := evs_nb es fun x hx => h x (List.mem_cons_of_mem _ hx)
    have hk := h e List.mem_cons_self
    obtain ⟨k, pg, r⟩ := e
    have hk : PyData.strOk k = true := hk
    have a : nbD (evD ⟨k, pg, r⟩) = true ∧ PyData.depth (evD ⟨k, pg, r⟩) ≤ 2 := by
      cases r with
      | no => exact ⟨by show (PyData.strOk k && (true && true)) = true; rw [hk]; rfl, by show (1 : Nat) ≤ 2; decide⟩
      | row i => exact ⟨by show (PyData.strOk k && (true && (true && true))) = true; rw [hk]; rfl, by show (1 : Nat) ≤ 2; decide⟩
      | hp n => exact ⟨by show (PyData.strOk k && (true && ((PyData.strOk "heap" && (true && true)) && true))) = true; rw [hk, ofs_ok28]; rfl, by show (2 : Nat) ≤ 2; decide⟩
      | nd l n => exact ⟨by show (PyData.strOk k && (true && ((PyData.strOk "node" && (true && (true && true))) && true))) = true; rw [hk, ofs_ok28]; rfl, by show (2 : Nat) ≤ 2; decide⟩
      | lg n => exact ⟨by show (PyData.strOk k && (true && ((PyData.strOk "log" && (true && true)) && true))) = true; rw [hk, ofs_ok28]; rfl, by show (2 : Nat) ≤ 2; decide⟩
    refine ⟨?_, ?_⟩
    · show (nbD (evD ⟨k, pg, r⟩) && nbA (es.map evD)) = true
      rw [a.1, h1]; rfl
    · show max (PyData.depth (evD ⟨k, pg, r⟩)) (PyData.depthAll (es.map evD)) ≤ 2
      omega
theorem evs_NB {es : List Ev} (h : ∀ e ∈ es, PyData.strOk e.kind = true) : NB (.list (es.map evD)) := by
  obtain ⟨h1, h2⟩ := evs_nb es h
  refine ⟨h1, ?_⟩
  show PyData.depthAll (es.map evD) + 1 ≤ 64
  exact Nat.le_trans (Nat.add_le_add_right h2 1) (by decide)
/-! a store and a world side by side -/
section
variable {K : PySem.W.Frag} {H H' : Hp} {A : SAd} {B : WAd} {G : Hp} {p : Prt} {f1 p1 : Nat} {S : Sx} {W : Wx}
theorem StoreAt.some_ (t : StoreAt K H A G p f1 p1 S) {b : Addr} (hb : b ∈ A.own) : H b ≠ none := by
  obtain ⟨vs, he, _⟩ := t.e
  unfold SAd.own at hb
  simp only [List.mem_cons, List.not_mem_nil, or_false] at hb
  rcases hb with rfl | rfl | rfl | rfl | rfl | rfl | rfl | rfl
  · rw [t.a]; exact fun z => nomatch z
  · rw [t.h]; exact fun z => nomatch z
  · rw [t.n]; exact fun z => nomatch z
  · rw [t.l]; exact fun z => nomatch z
  · rw [t.w]; exact fun z => nomatch z
  · rw [t.c]; exact fun z => nomatch z
  · rw [t.f]; exact fun z => nomatch z
  · rw [he]; exact fun z => nomatch z
theorem StoreAt.out28 (t : StoreAt K H A G p f1 p1 S) (f : ∀ b o, b ∈ A.own → H b = some o → H' b = some o) (g : Same G H') (tp : TP H H') : StoreAt K H' A G p f1 p1 S := by
  have m : ∀ {x : Addr} {o : HO}, x ∈ A.own → H x = some o → H' x = some o := fun hx h => f _ _ hx h
  obtain ⟨vs, e1, e2⟩ := t.e
  refine ⟨m ?_ t.a, m ?_ t.h, m ?_ t.n, m ?_ t.l, m ?_ t.w, m ?_ t.c, m ?_ t.f, ⟨vs, m ?_ e1, e2.tp tp⟩, t.nd, g, t.gn, t.set, t.pk⟩ <;> (unfold SAd.own; simp)
theorem WR.weak {G' : Hp} (t : WR H B G p W) (s : Same G' G) (h : PdAt G' B.pa p) : WR H B G' p W :=
  ⟨t.at_, t.nd, h, fun b o z => t.g b o (s b o z), fun b hb => by
    cases q : G' b with
    | none => rfl
    | some o => have := s b o q; rw [t.gn b hb] at this; cases this⟩
end
/-- the two keep out of each other's way -/
structure Two (K : PySem.W.Frag) (H : Hp) (A : SAd) (B : WAd) (G : Hp) (p : Prt) (f1 p1 : Nat) (S : Sx) (W : Wx) : Prop where
  s : StoreAt K H A G p f1 p1 S
  w : WR H B G p W
  d : ∀ b ∈ B.own.dropLast, b ∉ A.own
theorem own_some {A : SAd} {x : Addr} (_ : x = A.a) : x ∈ A.own := by subst x; exact own_a
theorem Two.step {K : PySem.W.Frag} {H H' : Hp} {A A' : SAd} {B : WAd} {G : Hp} {p : Prt} {f1 p1 : Nat} {S S' : Sx} {W : Wx} (t : Two K H A B G p f1 p1 S W) (t' : StoreAt K H' A' G p f1 p1 S') (f : SF A H A' H') : Two K H' A' B G p f1 p1 S' W := by
  obtain ⟨_, x2, x3, x4⟩ := f
  refine ⟨t', t.w.out (fun b o hb h => x2 b o (t.d b hb) h) t'.g, fun b hb z => ?_⟩
  rcases x3 b z with h | h
  · exact t.d b hb h
  · exact t.w.some_ hb h
theorem Two.row {K : PySem.W.Frag} {H H' : Hp} {A : SAd} {B B' : WAd} {G : Hp} {p : Prt} {f1 p1 : Nat} {S : Sx} {W W' : Wx} (t : Two K H A B G p f1 p1 S W) (t' : WR H' B' G p W') (f : FR B H B' H') : Two K H' A B' G p f1 p1 S W' := by
  obtain ⟨_, x2, x3, x4⟩ := f
  refine ⟨t.s.out28 (fun b o hb h => x2 b o (fun z => t.d b z hb) h) t'.g x4, t', fun b hb z => ?_⟩
  rcases x3 b hb with h | h
  · exact t.d b h z
  · exact t.s.some_ z h
theorem ref_no {a : Addr} {vs : List V} {l : List Int} (h : V.ref a :: vs = l.map V.int) : False := by
  cases l with
  | nil => cases h
  | cons x l =>
    rw [List.map_cons] at h
    injection h with h _
    cases h
/-- the events' list is none of the world's -/
theorem evs_out {H : Hp} {B : WAd} {G : Hp} {p : Prt} {W : Wx} (t : WR H B G p W) {q : Addr} {vs : List V} {es : List Ev} (c : H q = some (.lst vs)) (h : EvsAt H vs es) (hn : es ≠ []) : q ∉ B.own.dropLast := fun z => by
  have z : q ∈ (worldL B W []).dropLast.map (·.1) := z
  obtain ⟨e, he, rfl⟩ := List.mem_map.mp z
  have h1 := t.at_ e he
  rw [c] at h1
  obtain ⟨v, vs', rfl⟩ : ∃ v vs', vs = v :: vs' := by
    cases h with
    | nil => exact absurd rfl hn
    | cons a r => exact ⟨_, _, rfl⟩
  obtain ⟨a, ea⟩ : ∃ a, v = .ref a := by
    cases h with
    | cons a r => obtain ⟨t, _, e, _⟩ := a; exact ⟨t, e⟩
  subst ea
  simp only [worldL, List.dropLast, List.mem_cons, List.not_mem_nil, or_false] at he
  rcases he with rfl | rfl | rfl | rfl | rfl | rfl | rfl | rfl
  · cases h1
  · cases h1
  · cases h1
  · cases h1
  all_goals
    injection h1 with h1
    injection h1 with h1
    exact ref_no h1
/-! the walk's steps without the look for an if: its failing costs much where the goal is long -/
local macro_rules | `(tactic| walk_at "q1") => `(tactic| first
  | refine ⟨_, rfl, ?_⟩
  | (refine' ⟨_, _, rfl, ?h1, ?_⟩; (case h1 => walk_at "dg"))
  | refine ⟨_, _, rfl, rfl, ?_⟩
  | refine Or.inl ⟨_, rfl, ?_⟩
  | (refine' ⟨_, _, _, _, rfl, rfl, L2.SqL.of ?h1, ?h2, ?_⟩; (case h1 => walk_at "hp"); (case h2 => rfl))
  | (refine' ⟨_, _, _, _, rfl, rfl, L2.SqT.of ?h1, ?h2, ?_⟩; (case h1 => walk_at "hp"); (case h2 => rfl))
  | refine ⟨rfl, ?_⟩
  | refine ⟨_, _, rfl, ?_⟩
  | refine ⟨_, _, _, rfl, ?_⟩
  | (refine' ⟨_, _, rfl, L2.SqT.of ?h1, ?h2, ?_⟩; (case h1 => walk_at "hp"); (case h2 => rfl))
  | (refine' ⟨_, _, rfl, Or.inl (L2.SqL.of ?h1), ?_⟩; (case h1 => walk_at "hp"))
  | (refine' ⟨_, _, rfl, Or.inr (L2.SqT.of ?h1), ?_⟩; (case h1 => walk_at "hp"))
  | (refine' ⟨_, _, _, _, _, rfl, ?h1, ?h2, ?h3, ?h4, ?_⟩; (case h1 => walk_at "hp"); (case h2 => walk_at "cls"); (case h3 => walk_at "noat"); (case h4 => walk_at "lk"))
  | (refine' ⟨_, _, _, _, rfl, ?h1, ?h2, ?h3, ?h4, ?_⟩; (case h1 => walk_at "hp"); (case h2 => walk_at "cls"); (case h3 => walk_at "noat"); (case h4 => exact KR.lt1000 rfl))
  | (refine' ⟨_, _, _, rfl, ?h1, ?h2, ?_⟩; (case h1 => walk_at "hp"); (case h2 => walk_at "lk"))
  | (refine' ⟨⟨_, L2.SqL.of ?h1⟩, ?_⟩; (case h1 => walk_at "hp"))
  | (refine' ⟨⟨_, L2.SqT.of ?h1⟩, ?_⟩; (case h1 => walk_at "hp"))
  | (refine And.intro ?h1 ?_; (case h1 => first | exact KR.szl (Nat.le_of_ble_eq_true rfl) | omega | (refine KR.cdw ?_ ?_ <;> omega))))
local macro_rules | `(tactic| walk_at "qd") => `(tactic| repeat walk_at "q1")
theorem cut_from (xs : List V) (b : Nat) : cutV xs (some (b : Int)) none = xs.drop b := by
  unfold cutV
  rw [HT.sIx_nat, HT.sIx_none]
  by_cases h : b ≤ xs.length
  · rw [Nat.min_eq_left h, List.take_of_length_le (by rw [List.length_drop]; omega)]
  · rw [Nat.min_eq_right (by omega), List.drop_length, List.drop_of_length_le (by omega), List.take_nil]
@[irreducible] def sp_law (K : PySem.W.Frag) : Sp := fun vs H Q _ => ∃ (a : Addr) (ns : List Int), vs = [.ref a] ∧ SqL K H a (ns.map V.int) ∧ ns.length ≤ 63 ∧ ∀ H', Q (.bl true) H'
theorem q_nat28 {Q : VK} {i : Int} {H : Hp} (h : 0 ≤ i) (q : Q (.int (i.toNat : Nat)) H) : Q (.int i) H := by rw [Int.toNat_of_nonneg h] at q; exact q
@[irreducible] def sp_law_rows : Sp := fun vs H Q _ => ∃ (d : Addr) (f : Nat → Int), vs = [.ref d] ∧ DgOk f ∧ H d = some (.lst (dgL f)) ∧ ∀ m : Nat, 40 ≤ m → m ≤ 103 → Q (.int m) H
theorem use_rows28 {d : Addr} {f : Nat → Int} {H : Hp} {Q : VK} {E : XK} (hf : DgOk f) (hd : H d = some (.lst (dgL f))) (k : ∀ m : Nat, 40 ≤ m → m ≤ 103 → Q (.int m) H) : sp_law_rows [.ref d] H Q E := by unfold sp_law_rows; exact ⟨d, f, rfl, hf, hd, k⟩
theorem b_law_rows {K : PySem.W.Frag} {fd : FuncData} (F : F_law_rows K fd) : Binds K fd P_law_rows [] := FunD.bindsN F fun _ _ _ _ _ _ us hl => match us, hl with | [_], _ => rfl
theorem ok_law_rows (T : Txt K mg D) : FnOk P w K mg base CX0 1 (He.fAd K ("_law_rows", none)) (D D_law_rows) P_law_rows sp_law_rows := by
  refine T.d_law_rows.ok sc_law_rows (fun vs H Q E h => ?_) (fun cdv A outer s H vs Q E hr h => ?_)
  · unfold sp_law_rows at h
    first | (obtain ⟨rfl, _⟩ := h; rfl) | (obtain ⟨_, rfl, _⟩ := h; rfl) | (obtain ⟨_, _, rfl, _⟩ := h; rfl) | (obtain ⟨_, _, _, rfl, _⟩ := h; rfl) | (obtain ⟨_, _, _, _, rfl, _⟩ := h; rfl) | (obtain ⟨_, _, _, _, _, rfl, _⟩ := h; rfl) | (obtain ⟨_, _, _, _, _, _, rfl, _⟩ := h; rfl) | (obtain ⟨_, _, _, _, _, _, _, rfl, _⟩ := h; rfl) | (obtain ⟨_, _, _, _, _, _, _, _, rfl, _⟩ := h; rfl) | (obtain ⟨_, _, _, _, _, _, _, _, _, rfl, _⟩ := h; rfl) | (obtain ⟨_, _, _, _, _, _, _, _, _, _, rfl, _⟩ := h; rfl) | (obtain ⟨_, _, _, _, _, _, _, _, _, _, _, rfl, _⟩ := h; rfl)
  · refine ⟨_, PSs.nox (pss_one (ps_ret (pe_op op_add pe_int (pe_op op_mod (pe_callTy call_int1 (by rfl) T.n_int (by decide +kernel) (pa_cons (pe_ix (ix_listK (K := K)) (pv 0) pe_int (fun _ _ => rfl)) pa_nil)) pe_int)))), ?_⟩
    unfold sp_law_rows at h
    obtain ⟨d, f, rfl, hf, hd, k⟩ := h
    have b := mod_bd (x := f 9) (show (0 : Int) < 64 by decide) (Int.le_refl 64)
    walk_at "rd"
    exact q_nat28 (by omega) (k _ (by omega) (by omega))

theorem b_law {K : PySem.W.Frag} {fd : FuncData} (F : F_law K fd) : Binds K fd P_law [] := FunD.bindsN F fun _ _ _ _ _ _ us hl => match us, hl with | [_], _ => rfl
theorem ok_law (T : Txt K mg D) : FnOk P w K mg base CX0 7 (He.fAd K ("law", none)) (D D_law) P_law (sp_law K) := by
  refine T.d_law.ok sc_law (fun vs H Q E h => ?_) (fun cdv A outer s H vs Q E hr h => ?_)
  · unfold sp_law at h
    first | (obtain ⟨rfl, _⟩ := h; rfl) | (obtain ⟨_, rfl, _⟩ := h; rfl) | (obtain ⟨_, _, rfl, _⟩ := h; rfl) | (obtain ⟨_, _, _, rfl, _⟩ := h; rfl) | (obtain ⟨_, _, _, _, rfl, _⟩ := h; rfl) | (obtain ⟨_, _, _, _, _, rfl, _⟩ := h; rfl) | (obtain ⟨_, _, _, _, _, _, rfl, _⟩ := h; rfl) | (obtain ⟨_, _, _, _, _, _, _, rfl, _⟩ := h; rfl) | (obtain ⟨_, _, _, _, _, _, _, _, rfl, _⟩ := h; rfl) | (obtain ⟨_, _, _, _, _, _, _, _, _, rfl, _⟩ := h; rfl) | (obtain ⟨_, _, _, _, _, _, _, _, _, _, rfl, _⟩ := h; rfl) | (obtain ⟨_, _, _, _, _, _, _, _, _, _, _, rfl, _⟩ := h; rfl)
  · refine ⟨_, PSs.nox (pss_cons (ps_for PassesOwn.never rfl (pi_list (pe_op (op_catSK (K := K)) (pe_slice (sl_listK (K := K)) (pv 0) po_none (po_some pe_int)) (pe_slice (sl_listK (K := K)) (pe_lst (pa_cons pe_int pa_nil)) (po_some (pe_callB (call_lenK (K := K)) (by rfl) T.n_len (by decide +kernel) (pa_cons (pv 0) pa_nil))) po_none))) (pg_name (i := 1) sc_law.nd rfl (Or.inl rfl)) (pss_cons (ps_set (i := 2) sc_law.nd rfl (Or.inl rfl) (pe_call (ok_law_digits T) (hr.mono (by decide)) rfl T.g_law_digits T.d_law_digits.kp (b_law_digits T.d_law_digits) .nil pass0 (pa_cons (pv 1) (pa_cons pe_int pa_nil))))
      (pss_cons (ps_set (i := 3) sc_law.nd rfl (Or.inl rfl) (pe_call (ok_law_parts T) (hr.mono (by decide)) rfl T.g_law_parts T.d_law_parts.kp (b_law_parts T.d_law_parts) .nil pass0 (pa_cons (pv 2) pa_nil)))
      (pss_cons (ps_par (i := 4) (j := 5) (by rfl) sc_law.nd rfl rfl (by decide) rfl rfl (pa_cons (pe_make T.mk_Store (ok_Store___init__ T) (hr.mono (by decide)) rfl T.g_Store (b_Store___init__ T.d_Store___init__) .nil pass0 (pa_cons (pe_call (ok_law_settings T) (hr.mono (by decide)) rfl T.g_law_settings T.d_law_settings.kp (b_law_settings T.d_law_settings) .nil pass0 (pa_cons (pv 3) pa_nil)) pa_nil)) (pa_cons (pe_call (ok_law_world T) (hr.mono (by decide)) rfl T.g_law_world T.d_law_world.kp (b_law_world T.d_law_world) .nil pass0 (pa_cons (pv 3) pa_nil)) pa_nil)) (by rfl))
      (pss_one (ps_for PassesOwn.never rfl (pi_range1 (by rfl) T.n_range (pa_cons (pe_call (ok_law_rows T) (hr.mono (by decide)) rfl T.g_law_rows T.d_law_rows.kp (b_law_rows T.d_law_rows) .nil pass0 (pa_cons (pv 2) pa_nil)) pa_nil)) (pg_name (i := 6) sc_law.nd rfl (Or.inl rfl)) (pss_one (ps_if (PW.pt (pw_or (pt_cmpR op_ne (pe_meth0 (pv 4) T.c_Store T.m_Store_moment (ok_Store_moment T) (hr.mono (by decide)) (b_Store_moment T.su_Store_moment.choose_spec) .nil pass0) (pv 6) (nomark _)) (pw_or1 (pt_cmpR (op_neNK (K := K) hr.units) (pe_meth0 (pv 4) T.c_Store T.m_Store_step (ok_Store_step T) (hr.mono (by decide)) (b_Store_step T.d_Store_step) .nil pass0) (pe_call (ok_law_row T) (hr.mono (by decide)) rfl T.g_law_row T.d_law_row.kp (b_law_row T.d_law_row) .nil pass0 (pa_cons (pv 5) pa_nil)) (nomark _))))) (pss_one (ps_ret pe_bl)) pss_nil))))))))
      (pss_one (ps_ret pe_bl))), ?_⟩
    unfold sp_law at h
    obtain ⟨a, ns, rfl, hS, hl, k⟩ := h
    walk_at "rd"
    try unfold L2.tNoPart
    walk_at "rd"
    refine use_sl (lo := none) (hi := some 3) (ys := (ns.take 3).map V.int) hS (by rw [show (3 : Int) = ((3 : Nat) : Int) by rfl, cut_to, List.map_take]) fun q1 H1 n1 g1 c1 => ?_
    walk_at "rd"
    intro q2 n2
    generalize eH2 : upd _ q2 _ = H2
    obtain ⟨g2, c2⟩ := gen_new n2 eH2
    clear eH2
    walk_at "rd"
    refine ⟨_, _, rfl, .inl ((g1.trans g2).seq hS), ?_⟩
    walk_at "rd"
    try unfold L2.tNoPart
    refine use_sl (lo := some (((ns.map V.int).length : Nat) : Int)) (hi := none) (ys := ([19].drop ns.length).map V.int) (SqL.of c2) (by rw [cut_from, List.length_map, List.map_drop]; rfl) fun q3 H3 n3 g3 c3 => ?_
    refine use_cat (SqL.of (g3 _ _ (g2 _ _ c1))) (SqL.of c3) (by rw [List.length_map, List.length_map, List.length_take, List.length_drop]; simp; omega) fun q4 H4 n4 g4 c4 => ?_
    rw [← List.map_append] at c4
    generalize ns.take 3 ++ [19].drop ns.length = cs at c4
    refine ⟨_, rfl, ⟨_, SqL.of c4⟩, for_list (xs := cs.map V.int) (fun i σ G => ∃ v1 v2 v3 v4 v5 v6, σ = [some (.ref a), v1, v2, v3, v4, v5, v6] ∧ Same H4 G) ⟨_, _, _, _, _, _, rfl, Same.refl _⟩ ?_ ?_ ?_⟩
    · rintro i σ G _ ⟨v1, v2, v3, v4, v5, v6, rfl, f⟩
      exact SqL.of (f _ _ c4)
    · rintro i v σ G hx ⟨v1, v2, v3, v4, v5, v6, rfl, f⟩
      obtain ⟨c, hc, rfl⟩ := map_some hx
      clear hS c1 c2 c3
      walk_at "qd"
      refine use_digits fun d fd G1 m1 s1 hf hd => ?_
      walk_at "qd"
      refine use_pd hf hd fun pa p G2 m2 s2 ok _ hp => ?_
      have hd2 := s2 _ _ hd
      walk_at "qd"
      refine use_settings hp ok fun b G3 m3 s3 hs => ?_
      have hd3 := s3 _ _ hd2
      walk_at "qd"
      intro x kdx m4 ndx nex
      generalize eG4 : upd (upd _ kdx _) x _ = G4
      obtain ⟨s4, k4⟩ := gen_mk m4 ndx eG4
      clear eG4
      have hd4 := s4 _ _ hd3
      have f4 := (((f.trans s1).trans s2).trans s3).trans s4
      have hxn : H4 x = none := ((((f.trans s1).trans s2).trans s3)).free m4
      have hdx : d ≠ x := ne_of_none hd3 m4
      obtain ⟨pl, hp1, hp2⟩ := hp
      have hpx := ne_of_none (s3 _ _ hp1) m4
      have hlx := ne_of_none (s3 _ _ hp2) m4
      have hp4 := s4 _ _ (s3 _ _ hp1)
      have hl4 := s4 _ _ (s3 _ _ hp2)
      walk_at "qd"
      refine use_store_init k4 (hs.same s4) ok fun G5 A Gs f1 p1 ea es sb cy t => ?_
      have t : StoreAt K G5 A Gs p f1 p1 (Sx.rows p 0) := t
      have f5 : Same H4 Gs := fun b o h => sb b o (ne_of_none h hxn) (f4 b o h)
      have hd5 := t.g _ _ (sb _ _ hdx hd4)
      have hpG : PdAt Gs pa p := ⟨pl, sb _ _ hpx hp4, sb _ _ hlx hl4⟩
      clear hd4 hd3 hd2 hd hs k4 hp1 hp2 hp4 hl4
      walk_at "qd"
      refine use_world28 (p := p) (hpG.same t.g) fun G6 B epa hB6 g6 w6 => ?_
      have t6 := t.same g6
      have tw : Two K G6 A B Gs p f1 p1 (Sx.rows p 0) (Wx.rowsN p 0) := ⟨t6, w6.weak t.g (by rw [epa]; exact hpG), fun b hb z => t.some_ z (hB6 b hb)⟩
      have hd6 := g6 _ _ hd5
      walk_at "qd"
      refine use_rows28 hf hd6 fun N hN0 hN1 => ?_
      walk_at "qd"
      refine for_range (lo := 0) (n := N) (fun j σ G => ∃ A' B' v6, σ = [some (.ref a), some (.int c), some (.ref d), some (.ref pa), some (.ref x), some (.ref B.w), v6] ∧ A'.a = x ∧ B'.w = B.w ∧ Two K G A' B' Gs p f1 p1 (Sx.rows p j) (Wx.rowsN p j)) ⟨A, B, _, rfl, ea, rfl, tw⟩ ?_ ?_
      · rintro j σ G8 hj ⟨A8, B8, w6', rfl, ea8, ew8, t8⟩
        obtain ⟨I, Ev⟩ := inv_rows ok j (by omega)
        obtain ⟨ro, I9, Ev9⟩ := row_step ok I (by omega)
        have sm := sim_rows ok j (by omega)
        have rw8 := row_w ok I (by omega) sm
        have sm9 := sim_row ok I (by omega) sm
        obtain ⟨ev1, ev2⟩ := step_evs (Sx.rows p j) p
        have hd8 : (Sx.rows p j).done = j := I.dn
        have ta8 := t8.s.a
        rw [ea8] at ta8
        walk_at "rd"
        refine use_moment ea8.symm t8.s ?_
        rw [hd8, Int.zero_add]
        walk_at "qd"
        refine iteF_of (by simp) ?_
        walk_at "qd"
        refine use_step ea8.symm t8.s ok cy ro (by omega) fun G9 A9 qs vs9 t9 s9 c9 e9 n9 => ?_
        have t9 : StoreAt K G9 A9 Gs p f1 p1 (Sx.rows p (j + 1)) := t9
        have u9 := t8.step t9 s9
        have hqs := evs_out u9.w c9 e9 ev1
        walk_at "qd"
        refine use_row28 ew8.symm u9.w ok rw8 fun G10 B10 q10 vs10 t10 c10 e10 f10 => ?_
        have u10 : Two K G10 A9 B10 Gs p f1 p1 (Sx.rows p (j + 1)) (Wx.rowsN p (j + 1)) := u9.row t10 f10
        have c9' := f10.2.1 _ _ hqs c9
        have e9' := e9.tp f10.2.2.2
        have hev : ((Wx.rowsN p j).rst.row p).evs = ((Sx.rows p j).step p).evs := sm9.d.evs
        rw [hev] at e10
        walk_at "qd"
        refine use_neN (.lst (SqL.of c9') (evs_dp e9')) (.lst (SqL.of c10) (evs_dp e10)) (evs_NB ev2) (evs_NB ev2) fun e he => ?_
        have he : e = false := by
          cases e with
          | false => rfl
          | true => exact absurd rfl (he.mp rfl)
        subst he
        refine ⟨_, rfl, ?_⟩
        refine iteF_of rfl ?_
        exact ⟨A9, B10, _, rfl, s9.1.trans ea8, f10.1.1.trans ew8, u10⟩
      · rintro σ G ⟨A', B', w6', rfl, _, _, t8⟩
        exact ⟨_, _, _, _, _, _, rfl, fun b o h => t8.s.g b o (f5 b o h)⟩
    · rintro σ G ⟨v1, v2, v3, v4, v5, v6, rfl, f⟩
      walk_at "rd"
      exact k _

end
end KR
open PySem PySem.W PySem.Calls PyProof.Rows in
set_option maxRecDepth 100000 in
set_option maxHeartbeats 0 in
theorem PySem.Challenge.cw_keeprows_k28_events_of_each_row_holds : PySem.Challenge.rw_keeprows_k28_events_of_each_row.Holds := by
  w_on; o_law
  refine HandSHeadRun.head_any (r := OpenLaw.row PySem.Challenge.rw_keeprows_k28_events_of_each_row) (q := view (OpenLaw.row PySem.Challenge.rw_keeprows_k28_events_of_each_row).prog [41]) (H := KR.hk) (ob := KR.ob) (M := 20000) (loose := KR.looseN) (d := HandSHeadRun.topDef (OpenLaw.row PySem.Challenge.rw_keeprows_k28_events_of_each_row).prog 41) (kwd := []) KR.ob_eq
    (by kernel_rfl) (fun s => by kernel_rfl) KR.run (by kernel_rfl) (by kernel_rfl) (by kernel_rfl) (by rfl) (by first | assumption | decide +kernel) (by decide +kernel) ⟨rfl, rfl, rfl, rfl, rfl, by decide +kernel⟩ ?hw ?hc
  case hw => w_witness2
  case hc =>
    refine L2.walk_ofE (l := PySem.Challenge.rw_keeprows_k28_events_of_each_row) (n := 63) (k := 7) (x := "script") (CX := L2.CX0) rfl (by decide) (by kernel_rfl) ⟨rfl, by decide, by decide⟩ ?F (fun _ _ _ _ z => z)
    intro w mg fa h Y G hmg0
    obtain ⟨K, KX, c⟩ := Y
    have hmg : mg ("law" : PySem.Str) = some (.ref fa) := by
      have e : (HandSHeadRun.topDef (OpenLaw.row PySem.Challenge.rw_keeprows_k28_events_of_each_row).prog 41).name = ("law" : PySem.Str) := by kernel_rfl
      rw [← e]
      exact hmg0
    obtain ⟨D, T⟩ := KR.txt_of KX G c.d c.more c.sup
    have e1 := hmg.symm.trans T.g_law
    cases e1
    exact ⟨K, D KR.D_law, KR.sp_law K, KX, fun s v => L2.FunD.bindsA (ps := ["script"]) T.d_law (fun _ _ _ _ _ _ us hl => match us, hl with | [_], _ => rfl) s [v] rfl, fun H a ns hl _ hS => by unfold KR.sp_law; exact ⟨a, ns, rfl, hS, hl, fun _ => rfl⟩, fun base _ _ => KR.ok_law T⟩
